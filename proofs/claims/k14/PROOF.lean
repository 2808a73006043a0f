import PyProof.Rows.All
import Wide.All
import OpenK.AllK
import Wide.FinOn
import KE.KStateDown
import Lean
import HandS.Base
import HandS.Call
import HandS.Ends
import HandS.More
import HandS.Words
import HandS.WordsExc
import HandS.Defaults
import HandS.ExcIs
import HandS.Head0
import HandS.Head1
import HandS.Head2
import HandS.HeadEnd
import HandS.HeadHook1
import HandS.HeadHook2
import HandS.ForMost
import HandS.Walk
import HandS.Exc
import HandS.ExcOwn
import HandS.TryOnly
import HandS.RaiseMore
import HandS.Deep
import HandS.DictComp
import HandS.Conv
import HandS.Small
import HandS.Rev
import HandS.RevTup
import PyProof.ListNew
import HandS.IsInst
import HandS.TupAny
import HandS.SortInts
import HandS.SortRule
import PySem.Challenge.RW_pairswap_k14_errors_of_webs
set_option Elab.async false
set_option autoImplicit false
set_option linter.all false
set_option maxRecDepth 100000
/-! what is told of the classes of errors, and a Hook with one Bool more -/
namespace He
open PySem PySem.Spec PyProof.Rows L2
def excB (K : PySem.W.Frag) (x : Str) : Bool :=
  eqO (PySem.W.findIn K (.ref (ga K x)) "__getattribute__") (some (some (.builtin "BaseException.__getattribute__"))) && (eqO (PySem.W.findIn K (.ref (ga K x)) "__getattr__") (some none) && (decide (PySem.W.subIn K (.ref (ga K x)) (.type "BaseException") = some true)
  && (PySem.W.hasDictIn K (ga K x) && (eqO (PySem.W.findIn K (.ref (ga K x)) "__class__") (some (some (.builtin "object.__class__"))) && (eqO (PySem.W.specialIn K (.builtin "object.__class__") "__get__") (some (some (.builtin "getset_descriptor.__get__")))
  && (decide (PySem.W.takesIn K (.builtin "object.__class__") = some true) && decide (PySem.W.mroIn K (ga K x) (.type "object") = some true)))))))
theorem excB_ok {K : PySem.W.Frag} {x : Str} (h : excB K x = true) : ExcC K (ga K x) := by
  obtain ⟨h1, h⟩ := ba h
  obtain ⟨h2, h⟩ := ba h
  obtain ⟨h3, h⟩ := ba h
  obtain ⟨h4, h⟩ := ba h
  obtain ⟨h5, h⟩ := ba h
  obtain ⟨h6, h⟩ := ba h
  obtain ⟨h7, h8⟩ := ba h
  exact ⟨eqO_ok h1, eqO_ok h2, of_decide_eq_true h3, h4, eqO_ok h5, eqO_ok h6, of_decide_eq_true h7, of_decide_eq_true h8⟩
/-- which class is under which: the first is above all -/
def subN (i j : Nat) : Bool := i == j || j == 0
def pairB (K : PySem.W.Frag) (p q : Nat × Str) : Bool := decide (PySem.W.kitOne K (.ref (ga K p.2)) (.ref (ga K q.2)) = some (subN p.1 q.1)) && decide (PySem.W.exmOne K (.ref (ga K p.2)) (.ref (ga K q.2)) = some (subN p.1 q.1))
def exsB (xs : List (Nat × Str)) (K : PySem.W.Frag) : Bool := xs.all fun p => excB K p.2 && (decide (PySem.W.kitOne K (.ref (ga K p.2)) (.type "ValueError") = some true) && xs.all fun q => pairB K p q)
abbrev AlQ : Type := AlD × Bool
def obsQ (fa : List Fa) (fn : List DefD) (ex : PySem.W.Frag → Bool) (K : PySem.W.Frag) : AlQ := (obsD fa fn K, ex K)
def obsQG (n : Nat) (fa : List Fa) (fn : List DefD) (ex : PySem.W.Frag → Bool) (g : Addr → Option Obj) : AlQ := obsQ fa fn ex (frG g (asD g n))
structure SaysQ (fa : List Fa) (fn : List DefD) (ex : PySem.W.Frag → Bool) (K : PySem.W.Frag) : Prop where
  d : SaysD fa fn K
  e : ex K = true
def hookQ (n : Nat) (fa : List Fa) (fn : List DefD) (ex : PySem.W.Frag → Bool) : PySem.W.Hook where
  α := AlQ
  obs := fun s => obsQG n fa fn ex s.heap.get?
  val := fun _ => (valD fn, true)
  says := fun _ h => ∃ K : PySem.W.Frag, K.In h ∧ SaysQ fa fn ex K
  of := fun _ _ e => ⟨_, frG_in, ⟨congrArg (fun z : AlQ => z.1) e, congrArg (fun z : AlQ => z.2) e⟩⟩
  keeps := fun _ _ _ ⟨K, hK, c⟩ k => ⟨K, PySem.W.Frag.In.keeps hK k, c⟩
theorem obsQG_eq {n : Nat} {fa : List Fa} {fn : List DefD} {ex : PySem.W.Frag → Bool} {g : Addr → Option Obj} {s : Shared} (h : ∀ a, g a = s.heap.get? a) : obsQG n fa fn ex g = (hookQ n fa fn ex).obs s := by
  have e : g = s.heap.get? := funext h
  rw [e] <;> rfl
end He

set_option Elab.async false
set_option autoImplicit false
set_option linter.all false
set_option maxRecDepth 100000
set_option maxHeartbeats 1000000
namespace Sim
open PySem L2

/-! ### frozen heaps -/
/-- what is fixed through a law: the written part, the module's names, the program's own classes -/
structure Gm where
  P : Program
  w : World
  K : PySem.W.Frag
  mg : Str → Option Value
  base : Heap
  C : Nat → Addr

def Le (G G' : Hp) : Prop := ∀ a o, G a = some o → G' a = some o
theorem Le.refl (G : Hp) : Le G G := fun _ _ h => h
theorem Le.trans {G G1 G2 : Hp} (a : Le G G1) (b : Le G1 G2) : Le G G2 := fun x o h => b x o (a x o h)
def isDk : HO → Prop
  | .dK _ => True
  | .dT _ => True
  | _ => False
/-- what is frozen stands in the heap (a dict locked) -/
abbrev Sub (G H : Hp) : Prop := Le G H
theorem Sub.lst {G H : Hp} (s : Sub G H) {a : Addr} {xs : List V} (h : G a = some (.lst xs)) : H a = some (.lst xs) := s a _ h
theorem Sub.tup {G H : Hp} (s : Sub G H) {a : Addr} {xs : List V} (h : G a = some (.tup xs)) : H a = some (.tup xs) := s a _ h
theorem Sub.ins {G H : Hp} (s : Sub G H) {a C dx : Addr} {fs : List (Str × V)} (h : G a = some (.ins C dx fs)) : H a = some (.ins C dx fs) := s a _ h
theorem Sub.rd {G H : Hp} (s : Sub G H) {a : Addr} {o : HO} {ob : Obj} (h : G a = some (.frz ob o)) : Rd H a o := .inr ⟨ob, s a _ h⟩
theorem Sub.some {G H : Hp} (s : Sub G H) {a : Addr} {o : HO} (h : G a = some o) : H a ≠ none := by
  rw [s a o h]; simp
theorem Sub.none {G H : Hp} (s : Sub G H) {a : Addr} (h : H a = none) : G a = none := by
  cases q : G a with
  | none => rfl
  | some o => exact absurd h (s.some q)
/-- the dicts at fp locked -/
def lkd (H : Hp) (fp : List Addr) (ob : Addr → Obj) : Hp := fun x => if x ∈ fp then (match H x with | some (.dK k) => some (.frz (ob x) (.dK k)) | some (.dT k) => some (.frz (ob x) (.dT k)) | o => o) else H x
theorem lkd_out {H : Hp} {fp : List Addr} {ob : Addr → Obj} {x : Addr} (h : x ∉ fp) : lkd H fp ob x = H x := if_neg h
theorem lkd_nd {H : Hp} {fp : List Addr} {ob : Addr → Obj} {x : Addr} {o : HO} (h : H x = some o) (n : ¬ isDk o) : lkd H fp ob x = some o := by
  unfold lkd
  by_cases hx : x ∈ fp
  · rw [if_pos hx, h]
    cases o <;> first | rfl | exact absurd trivial n
  · rw [if_neg hx]; exact h
theorem lkd_d {H : Hp} {fp : List Addr} {ob : Addr → Obj} {x : Addr} {o : HO} (hx : x ∈ fp) (h : H x = some o) (n : isDk o) : lkd H fp ob x = some (.frz (ob x) o) := by
  unfold lkd
  rw [if_pos hx, h]
  cases o <;> first | rfl | exact absurd n (fun q => q)
/-- x in xs -/
abbrev isIn {α : Type} [DecidableEq α] (x : α) (xs : List α) : Bool := decide (x ∈ xs)
/-! ### what stands for what -/
class Rp (α : Type) where
  rep : Gm → Hp → V → α → Prop
  mono : ∀ {Γ : Gm} {G G' : Hp} {v : V} {a : α}, Le G G' → rep Γ G v a → rep Γ G' v a
open Rp (rep)

/-- plain values: no heap -/
class At1 (α : Type) where
  toV : α → V
  flat : ∀ a, flatV (toV a) = true
open At1 (toV)
instance (priority := 50) instRpAt1 {α : Type} [At1 α] : Rp α := ⟨fun _ _ v a => v = toV a, fun _ h => h⟩
instance : At1 Int := ⟨V.int, fun _ => rfl⟩
instance : At1 Bool := ⟨V.bl, fun _ => rfl⟩
/-- a text of signs that there are -/
structure Tt where
  s : Str
  ok : PyData.strOk s = true
theorem Tt.ext' {a b : Tt} (h : a.s = b.s) : a = b := by
  cases a; cases b; cases h; rfl
instance : DecidableEq Tt := fun a b => if h : a.s = b.s then isTrue (Tt.ext' h) else isFalse fun e => h (by rw [e])
instance : At1 Tt := ⟨fun t => .str t.s, fun _ => rfl⟩
instance : At1 Unit := ⟨fun _ => .non, fun _ => rfl⟩
theorem rep1 {α : Type} [At1 α] {Γ : Gm} {G : Hp} {v : V} {a : α} (h : rep Γ G v a) : v = toV a := h

/-- lists of what is represented -/
abbrev RpL {α : Type} [Rp α] (Γ : Gm) (G : Hp) : List V → List α → Prop := Paired (rep Γ G)
theorem RpL.mono {α : Type} [Rp α] {Γ : Gm} {G G' : Hp} (e : Le G G') {vs : List V} {xs : List α} (h : RpL Γ G vs xs) : RpL Γ G' vs xs := Paired.mapP h fun _ _ r => Rp.mono e r
theorem RpL.length {α : Type} [Rp α] {Γ : Gm} {G : Hp} {vs : List V} {xs : List α} (h : RpL Γ G vs xs) : vs.length = xs.length := Paired.length h
theorem RpL.append {α : Type} [Rp α] {Γ : Gm} {G : Hp} : ∀ {vs ws : List V} {xs ys : List α}, RpL Γ G vs xs → RpL Γ G ws ys → RpL Γ G (vs ++ ws) (xs ++ ys)
  | _, _, _, _, .nil, s => s
  | _, _, _, _, .cons r t, s => .cons r (RpL.append t s)
theorem RpL.get {α : Type} [Rp α] {Γ : Gm} {G : Hp} : ∀ {vs : List V} {xs : List α} {i : Nat} {x : α}, RpL Γ G vs xs → xs[i]? = some x → ∃ v, vs[i]? = some v ∧ rep Γ G v x
  | _, _, _, _, .nil, e => by simp at e
  | _, _, 0, _, .cons r _, e => by
    have e' := Option.some.inj e
    subst e'
    exact ⟨_, rfl, r⟩
  | _, _, i + 1, x, .cons _ t, e => by
    obtain ⟨u, h1, h2⟩ := RpL.get (i := i) (x := x) t (by simpa using e)
    exact ⟨u, by simpa using h1, h2⟩
theorem RpL.getV {α : Type} [Rp α] {Γ : Gm} {G : Hp} : ∀ {vs : List V} {xs : List α} {i : Nat} {v : V}, RpL Γ G vs xs → vs[i]? = some v → ∃ x, xs[i]? = some x ∧ rep Γ G v x
  | _, _, _, _, .nil, e => by simp at e
  | _, _, 0, _, .cons r _, e => by
    have e' := Option.some.inj e
    subst e'
    exact ⟨_, rfl, r⟩
  | _, _, i + 1, x, .cons _ t, e => by
    obtain ⟨u, h1, h2⟩ := RpL.getV (i := i) (v := x) t (by simpa using e)
    exact ⟨u, by simpa using h1, h2⟩
theorem RpL.take {α : Type} [Rp α] {Γ : Gm} {G : Hp} : ∀ {vs : List V} {xs : List α} (n : Nat), RpL Γ G vs xs → RpL Γ G (vs.take n) (xs.take n)
  | _, _, 0, _ => .nil
  | _, _, _ + 1, .nil => .nil
  | _, _, n + 1, .cons r t => .cons r (RpL.take n t)
theorem RpL.drop {α : Type} [Rp α] {Γ : Gm} {G : Hp} : ∀ {vs : List V} {xs : List α} (n : Nat), RpL Γ G vs xs → RpL Γ G (vs.drop n) (xs.drop n)
  | _, _, 0, r => r
  | _, _, _ + 1, .nil => .nil
  | _, _, n + 1, .cons _ t => RpL.drop n t
theorem RpL.set {α : Type} [Rp α] {Γ : Gm} {G : Hp} {v : V} {x : α} (r : rep Γ G v x) : ∀ {vs : List V} {xs : List α} (i : Nat), RpL Γ G vs xs → RpL Γ G (vs.set i v) (xs.set i x)
  | _, _, _, .nil => .nil
  | _, _, 0, .cons _ t => .cons r t
  | _, _, i + 1, .cons q t => .cons q (RpL.set r i t)
theorem RpL.erase {α : Type} [Rp α] {Γ : Gm} {G : Hp} : ∀ {vs : List V} {xs : List α} (i : Nat), RpL Γ G vs xs → RpL Γ G (vs.eraseIdx i) (xs.eraseIdx i)
  | _, _, _, .nil => .nil
  | _, _, 0, .cons _ t => t
  | _, _, i + 1, .cons q t => .cons q (RpL.erase i t)
theorem RpL.reverse {α : Type} [Rp α] {Γ : Gm} {G : Hp} : ∀ {vs : List V} {xs : List α}, RpL Γ G vs xs → RpL Γ G vs.reverse xs.reverse
  | _, _, .nil => .nil
  | _, _, .cons r t => by
    rw [List.reverse_cons, List.reverse_cons]
    exact (RpL.reverse t).append (.cons r .nil)
theorem RpL.dropLast {α : Type} [Rp α] {Γ : Gm} {G : Hp} {vs : List V} {xs : List α} (h : RpL Γ G vs xs) : RpL Γ G vs.dropLast xs.dropLast := by
  rw [List.dropLast_eq_take, List.dropLast_eq_take, h.length]
  exact h.take _
theorem RpL.toV {α : Type} [At1 α] {Γ : Gm} {G : Hp} : ∀ {vs : List V} {xs : List α}, RpL Γ G vs xs → vs = xs.map At1.toV
  | _, _, .nil => rfl
  | _, _, .cons r t => by
    rw [List.map_cons, RpL.toV t, rep1 r]
theorem RpL.ofV {α : Type} [At1 α] {Γ : Gm} {G : Hp} : ∀ (xs : List α), RpL Γ G (xs.map At1.toV) xs
  | [] => .nil
  | x :: r => .cons rfl (RpL.ofV r)

instance instRpList {α : Type} [Rp α] : Rp (List α) := ⟨fun Γ G v xs => ∃ a vs, v = .ref a ∧ G a = some (.lst vs) ∧ RpL Γ G vs xs, fun e ⟨a, vs, h1, h2, h3⟩ => ⟨a, vs, h1, e _ _ h2, h3.mono e⟩⟩
instance instRpProd {α β : Type} [Rp α] [Rp β] : Rp (α × β) := ⟨fun Γ G v p => ∃ a x y, v = .ref a ∧ G a = some (.tup [x, y]) ∧ rep Γ G x p.1 ∧ rep Γ G y p.2, fun e ⟨a, x, y, h1, h2, h3, h4⟩ => ⟨a, x, y, h1, e _ _ h2, Rp.mono e h3, Rp.mono e h4⟩⟩
/-- three in a tuple -/
structure T3 (α β γ : Type) where
  a : α
  b : β
  c : γ
  deriving DecidableEq
instance instRpT3 {α β γ : Type} [Rp α] [Rp β] [Rp γ] : Rp (T3 α β γ) := ⟨fun Γ G v p => ∃ a x y z, v = .ref a ∧ G a = some (.tup [x, y, z]) ∧ rep Γ G x p.a ∧ rep Γ G y p.b ∧ rep Γ G z p.c, fun e ⟨a, x, y, z, h1, h2, h3, h4, h5⟩ => ⟨a, x, y, z, h1, e _ _ h2, Rp.mono e h3, Rp.mono e h4, Rp.mono e h5⟩⟩
/-- a tuple of any length, its items alike -/
structure TL (α : Type) where
  l : List α
  deriving DecidableEq
instance instRpTL {α : Type} [Rp α] : Rp (TL α) := ⟨fun Γ G v xs => ∃ a vs, v = .ref a ∧ G a = some (.tup vs) ∧ RpL Γ G vs xs.l, fun e ⟨a, vs, h1, h2, h3⟩ => ⟨a, vs, h1, e _ _ h2, h3.mono e⟩⟩
instance instRpOption {α : Type} [Rp α] : Rp (Option α) := ⟨fun Γ G v o => match o with | none => v = .non | some a => v ≠ .non ∧ rep Γ G v a, fun {_ _ _ _ o} e h => by
  cases o with
  | none => exact h
  | some a => exact ⟨h.1, Rp.mono e h.2⟩⟩
/-- the script -/
structure Scr where
  l : List Int
instance : Rp Scr := ⟨fun Γ G v xs => ∃ a, v = .ref a ∧ SqL Γ.K G a (xs.l.map V.int), fun {_ G G' _ _} e ⟨a, h1, h2⟩ => ⟨a, h1, by
  rcases h2 with (h | ⟨o, h⟩) | h
  · exact .inl (.inl (e _ _ h))
  · exact .inl (.inr ⟨o, e _ _ h⟩)
  · exact .inr h⟩⟩

/-! dicts -/
class K1 (κ : Type) where
  key : κ → Key
  inj : ∀ a b, key a = key b → a = b
open K1 (key)
class KT (κ : Type) where
  keys : κ → List Key
  inj : ∀ a b, keys a = keys b → a = b
open KT (keys)
instance : K1 Int := ⟨Sum.inl, fun _ _ h => Sum.inl.inj h⟩
instance : K1 Tt := ⟨fun t => Sum.inr t.s, fun _ _ h => Tt.ext' (Sum.inr.inj h)⟩
instance {α β : Type} [K1 α] [K1 β] : KT (α × β) := ⟨fun p => [key p.1, key p.2], fun a b h => by
  have h1 := List.cons.inj h
  have h2 := List.cons.inj h1.2
  exact Prod.ext (K1.inj _ _ h1.1) (K1.inj _ _ h2.1)⟩
theorem keys_map_inj {α : Type} [K1 α] : ∀ {xs ys : List α}, xs.map (key (κ := α)) = ys.map key → xs = ys
  | [], [], _ => rfl
  | [], _ :: _, h => by cases h
  | _ :: _, [], h => by cases h
  | x :: r, y :: t, h => by
    rw [List.map_cons, List.map_cons] at h
    have h1 := List.cons.inj h
    rw [K1.inj _ _ h1.1, keys_map_inj h1.2]
instance {α : Type} [K1 α] : KT (TL α) := ⟨fun p => p.l.map key, fun ⟨a⟩ ⟨b⟩ h => congrArg TL.mk (keys_map_inj h)⟩
/-- a dict by its pairs, in order; keys ints or texts -/
structure DK (κ α : Type) where
  l : List (κ × α)
/-- .. keys tuples of such -/
structure DT (κ α : Type) where
  l : List (κ × α)
abbrev RpK {κ α : Type} [K1 κ] [Rp α] (Γ : Gm) (G : Hp) : List (Key × V) → List (κ × α) → Prop := Paired fun p q => p.1 = key q.1 ∧ rep Γ G p.2 q.2
abbrev RpT {κ α : Type} [KT κ] [Rp α] (Γ : Gm) (G : Hp) : List (List Key × V) → List (κ × α) → Prop := Paired fun p q => p.1 = keys q.1 ∧ rep Γ G p.2 q.2
theorem RpK.mono {κ α : Type} [K1 κ] [Rp α] {Γ : Gm} {G G' : Hp} (e : Le G G') {vs : List (Key × V)} {xs : List (κ × α)} (h : RpK Γ G vs xs) : RpK Γ G' vs xs := Paired.mapP h fun _ _ r => ⟨r.1, Rp.mono e r.2⟩
theorem RpT.mono {κ α : Type} [KT κ] [Rp α] {Γ : Gm} {G G' : Hp} (e : Le G G') {vs : List (List Key × V)} {xs : List (κ × α)} (h : RpT Γ G vs xs) : RpT Γ G' vs xs := Paired.mapP h fun _ _ r => ⟨r.1, Rp.mono e r.2⟩
instance instRpDK {κ α : Type} [K1 κ] [Rp α] : Rp (DK κ α) := ⟨fun Γ G v d => ∃ a kvs ob, v = .ref a ∧ G a = some (.frz ob (.dK kvs)) ∧ RpK Γ G kvs d.l, fun e ⟨a, vs, ob, h1, h2, h3⟩ => ⟨a, vs, ob, h1, e _ _ h2, h3.mono e⟩⟩
instance instRpDT {κ α : Type} [KT κ] [Rp α] : Rp (DT κ α) := ⟨fun Γ G v d => ∃ a kvs ob, v = .ref a ∧ G a = some (.frz ob (.dT kvs)) ∧ RpT Γ G kvs d.l, fun e ⟨a, vs, ob, h1, h2, h3⟩ => ⟨a, vs, ob, h1, e _ _ h2, h3.mono e⟩⟩

/-! ### objects that the def at hand may change -/
/-- the heap G with what H holds at fp -/
def frzd (G H : Hp) (fp : List Addr) : Hp := fun x => if x ∈ fp then H x else G x
/-- g is not frozen, or it is a tuple, which nobody changes -/
abbrev Th (o g : Option HO) : Prop := g = none ∨ ∃ vs, o = some (.tup vs)
theorem Th.trans {o g g' : Option HO} (h : Th o g) (k : g = none → Th o g') : Th o g' := h.elim k .inr
theorem Th.none {o g : Option HO} (h : Th o g) (n : ∀ vs, o ≠ some (.tup vs)) : g = Option.none := h.elim id fun ⟨vs, e⟩ => absurd e (n vs)
theorem Th.no {o g : Option HO} {u : HO} (h : Th o g) (e : o = some u) (n : ∀ vs, u ≠ .tup vs := by intro vs e; cases e) : g = Option.none := h.none fun ws e2 => by
  rw [e] at e2
  exact n ws (Option.some.inj e2)
class Ow (α : Type) where
  own : Gm → Hp → Hp → V → List Addr → α → Prop
  stay : ∀ {Γ : Gm} {G G' H H' : Hp} {v : V} {fp : List Addr} {a : α}, own Γ G H v fp a → Le G G' → (∀ x ∈ fp, ∀ o, H x = some o → H' x = some o) → own Γ G' H' v fp a
  there : ∀ {Γ : Gm} {G H : Hp} {v : V} {fp : List Addr} {a : α}, own Γ G H v fp a → ∀ x ∈ fp, H x ≠ none
  nt : ∀ {Γ : Gm} {G H : Hp} {v : V} {fp : List Addr} {a : α}, own Γ G H v fp a → ∀ x ∈ fp, ∀ vs, H x ≠ some (.tup vs)
  F : Type
  iF : Rp F
  toF : α → F
  canF : Bool
  fz : canF = true → ∀ {Γ : Gm} {G H : Hp} {v : V} {fp : List Addr} {a : α} (ob : Addr → Obj), own Γ G H v fp a → Le G (frzd G (lkd H fp ob) fp) → rep Γ (frzd G (lkd H fp ob) fp) v (toF a)
open Ow (own)
/-- a list of one's own -/
structure OL (α : Type) where
  l : List α
structure OK (κ α : Type) where
  l : List (κ × α)
structure OT (κ α : Type) where
  l : List (κ × α)
theorem some_ne {α : Type} {x : Option α} {a : α} (h : x = some a) : x ≠ none := by rw [h]; simp
theorem frzd_one {G H : Hp} {a : Addr} : frzd G H [a] a = H a := if_pos (List.mem_singleton.mpr rfl)
instance instOwOL {α : Type} [Rp α] : Ow (OL α) where
  own := fun Γ G H v fp xs => ∃ a vs, v = .ref a ∧ fp = [a] ∧ H a = some (.lst vs) ∧ RpL Γ G vs xs.l
  stay := fun ⟨a, vs, h1, h2, h3, h4⟩ e k => ⟨a, vs, h1, h2, k a (by rw [h2]; exact List.mem_cons_self) _ h3, h4.mono e⟩
  there := fun ⟨a, vs, h1, h2, h3, h4⟩ x hx => by
    rw [h2] at hx
    rw [List.mem_singleton.mp hx]
    exact some_ne h3
  nt := fun ⟨a, vs, h1, h2, h3, h4⟩ x hx ws e => by
    rw [h2] at hx
    rw [List.mem_singleton.mp hx, h3] at e
    cases e
  F := List α
  iF := instRpList
  toF := fun x => x.l
  canF := true
  fz := fun _ _ _ _ _ _ _ ob ⟨a, vs, h1, h2, h3, h4⟩ le => ⟨a, vs, h1, by rw [h2, frzd_one]; exact lkd_nd h3 fun q => q, h4.mono le⟩
instance instOwOK {κ α : Type} [K1 κ] [Rp α] : Ow (OK κ α) where
  own := fun Γ G H v fp d => ∃ a vs, v = .ref a ∧ fp = [a] ∧ H a = some (.dK vs) ∧ RpK Γ G vs d.l
  stay := fun ⟨a, vs, h1, h2, h3, h4⟩ e k => ⟨a, vs, h1, h2, k a (by rw [h2]; exact List.mem_cons_self) _ h3, h4.mono e⟩
  there := fun ⟨a, vs, h1, h2, h3, h4⟩ x hx => by
    rw [h2] at hx
    rw [List.mem_singleton.mp hx]
    exact some_ne h3
  nt := fun ⟨a, vs, h1, h2, h3, h4⟩ x hx ws e => by
    rw [h2] at hx
    rw [List.mem_singleton.mp hx, h3] at e
    cases e
  F := DK κ α
  iF := instRpDK
  toF := fun x => ⟨x.l⟩
  canF := true
  fz := fun _ _ _ _ _ _ _ ob ⟨a, vs, h1, h2, h3, h4⟩ le => ⟨a, vs, ob a, h1, by rw [h2, frzd_one]; exact lkd_d (List.mem_singleton.mpr rfl) h3 trivial, h4.mono le⟩
instance instOwOT {κ α : Type} [KT κ] [Rp α] : Ow (OT κ α) where
  own := fun Γ G H v fp d => ∃ a vs, v = .ref a ∧ fp = [a] ∧ H a = some (.dT vs) ∧ RpT Γ G vs d.l
  stay := fun ⟨a, vs, h1, h2, h3, h4⟩ e k => ⟨a, vs, h1, h2, k a (by rw [h2]; exact List.mem_cons_self) _ h3, h4.mono e⟩
  there := fun ⟨a, vs, h1, h2, h3, h4⟩ x hx => by
    rw [h2] at hx
    rw [List.mem_singleton.mp hx]
    exact some_ne h3
  nt := fun ⟨a, vs, h1, h2, h3, h4⟩ x hx ws e => by
    rw [h2] at hx
    rw [List.mem_singleton.mp hx, h3] at e
    cases e
  F := DT κ α
  iF := instRpDT
  toF := fun x => ⟨x.l⟩
  canF := true
  fz := fun _ _ _ _ _ _ _ ob ⟨a, vs, h1, h2, h3, h4⟩ le => ⟨a, vs, ob a, h1, by rw [h2, frzd_one]; exact lkd_d (List.mem_singleton.mpr rfl) h3 trivial, h4.mono le⟩

/-! ### the abstract store -/
inductive Slot : Type 1
  | dead : Slot
  | val (α : Type) (i : Rp α) (a : α) : Slot
  | own (α : Type) (i : Ow α) (a : α) : Slot
abbrev Sto := List Slot
abbrev vl {α : Type} [i : Rp α] (a : α) : Slot := .val α i a
abbrev ow {α : Type} [i : Ow α] (a : α) : Slot := .own α i a
def SlotOk (Γ : Gm) (G H : Hp) (o : Option V) (s : Slot) (fp : List Addr) : Prop :=
  match s with
  | .dead => fp = []
  | .val _ i a => fp = [] ∧ ∃ v, o = some v ∧ i.rep Γ G v a
  | .own _ i a => ∃ v, o = some v ∧ i.own Γ G H v fp a
/-- every slot holds what the store says; the footprints φ stand apart -/
structure SlotsOk (Γ : Gm) (G H : Hp) (σ : St) (ρ : Sto) (φ : Nat → List Addr) : Prop where
  len : σ.length = ρ.length
  ok : ∀ i s, ρ[i]? = some s → ∃ o, σ[i]? = some o ∧ SlotOk Γ G H o s (φ i)
  apart : ∀ i j x, x ∈ φ i → x ∈ φ j → i = j
  out : ∀ i, ρ.length ≤ i → φ i = []
/-- where a def's body began: what was frozen, the heap, the objects handed in to be changed -/
structure Bs where
  G : Hp
  H : Hp
  M : List Addr
  σ : St
  fx : List Nat
structure At (Γ : Gm) (B : Bs) (ρ : Sto) (G H : Hp) (σ : St) : Prop where
  sub : Sub G H
  le : Le B.G G
  keep : ∀ a o, a ∉ B.M → B.H a = some o → H a = some o
  live : ∀ a, B.H a ≠ none → H a ≠ none
  thin : ∀ a, a ∉ B.M → B.H a ≠ none → B.G a = none → Th (B.H a) (G a)
  slots : ∃ φ, SlotsOk Γ G H σ ρ φ ∧ ∀ i, ∀ a ∈ φ i, G a = none ∧ (B.H a = none ∨ a ∈ B.M)
  fix : ∀ i ∈ B.fx, σ[i]? = B.σ[i]?

/-- the heap grows, nothing tracked changes, the new things may be frozen -/
structure Grow (G H G' H' : Hp) : Prop where
  leG : Le G G'
  leH : Le H H'
  sub : Sub G' H'
  thin : ∀ a, H a ≠ none → G a = none → Th (H a) (G' a)
theorem Grow.refl {G H : Hp} (s : Sub G H) : Grow G H G H := ⟨.refl _, .refl _, s, fun _ _ h => .inl h⟩
theorem Grow.trans {G H G1 H1 G2 H2 : Hp} (a : Grow G H G1 H1) (b : Grow G1 H1 G2 H2) : Grow G H G2 H2 :=
  ⟨a.leG.trans b.leG, a.leH.trans b.leH, b.sub, fun x hx hg => by
    cases q : H x with
    | none => exact absurd q hx
    | some o =>
      have e := a.leH x o q
      rcases a.thin x hx hg with w | w
      · have t := b.thin x (some_ne e) w
        rw [e] at t
        exact t
      · rw [q] at w
        exact .inr w⟩
/-- a new frozen object -/
theorem Grow.new {G H : Hp} (s : Sub G H) {p : Addr} (h : H p = none) (o : HO) : Grow G H (upd G p o) (upd H p o) := by
  have hg := s.none h
  refine ⟨fun a u e => ?_, fun a u e => ?_, fun a u e => ?_, fun a ha e => ?_⟩
  · rw [upd_ne (ne_of_none e hg)]; exact e
  · rw [upd_ne (ne_of_none e h)]; exact e
  · by_cases z : a = p
    · subst z; rw [upd_same] at e ⊢; exact e
    · rw [upd_ne z] at e ⊢; exact s a u e
  · have z : a ≠ p := fun z => ha (z ▸ h)
    rw [upd_ne z]; exact .inl e
/-- a new object that is not frozen -/
theorem Grow.newO {G H : Hp} (s : Sub G H) {p : Addr} (h : H p = none) (o : HO) : Grow G H G (upd H p o) := by
  refine ⟨.refl _, fun a u e => ?_, fun a u e => ?_, fun a ha e => .inl e⟩
  · rw [upd_ne (ne_of_none e h)]; exact e
  · have z : a ≠ p := fun z => s.some e (z ▸ h)
    rw [upd_ne z]; exact s a u e
theorem SlotOk.grow {Γ : Gm} {G H G' H' : Hp} {o : Option V} {s : Slot} {fp : List Addr} (e : Le G G') (k : ∀ x ∈ fp, ∀ o, H x = some o → H' x = some o) (h : SlotOk Γ G H o s fp) : SlotOk Γ G' H' o s fp := by
  cases s with
  | dead => exact h
  | val α i a => obtain ⟨h1, v, h2, h3⟩ := h; exact ⟨h1, v, h2, i.mono e h3⟩
  | own α i a => obtain ⟨v, h2, h3⟩ := h; exact ⟨v, h2, i.stay h3 e k⟩
theorem SlotsOk.grow {Γ : Gm} {G H G' H' : Hp} {σ : St} {ρ : Sto} {φ : Nat → List Addr} (e : Le G G') (h : SlotsOk Γ G H σ ρ φ) (k : ∀ i, ∀ x ∈ φ i, ∀ o, H x = some o → H' x = some o) : SlotsOk Γ G' H' σ ρ φ :=
  ⟨h.len, fun i s hs => by
    obtain ⟨o, h1, h2⟩ := h.ok i s hs
    exact ⟨o, h1, h2.grow e (k i)⟩, h.apart, h.out⟩
theorem SlotOk.there {Γ : Gm} {G H : Hp} {o : Option V} {s : Slot} {fp : List Addr} (h : SlotOk Γ G H o s fp) : ∀ x ∈ fp, H x ≠ none := by
  intro x hx
  cases s with
  | dead => rw [show fp = [] from h] at hx; simp at hx
  | val α i a => rw [h.1] at hx; simp at hx
  | own α i a => obtain ⟨v, _, h3⟩ := h; exact i.there h3 x hx
theorem SlotsOk.there {Γ : Gm} {G H : Hp} {σ : St} {ρ : Sto} {φ : Nat → List Addr} (h : SlotsOk Γ G H σ ρ φ) : ∀ i, ∀ x ∈ φ i, H x ≠ none := by
  intro i x hx
  cases q : ρ[i]? with
  | none =>
    rw [h.out i (List.getElem?_eq_none_iff.mp q)] at hx
    simp at hx
  | some s =>
    obtain ⟨o, _, h2⟩ := h.ok i s q
    exact h2.there x hx
theorem SlotOk.nt {Γ : Gm} {G H : Hp} {o : Option V} {s : Slot} {fp : List Addr} (h : SlotOk Γ G H o s fp) : ∀ x ∈ fp, ∀ vs, H x ≠ some (.tup vs) := by
  intro x hx
  cases s with
  | dead => rw [show fp = [] from h] at hx; simp at hx
  | val α i a => rw [h.1] at hx; simp at hx
  | own α i a => obtain ⟨v, _, h3⟩ := h; exact i.nt h3 x hx
theorem SlotsOk.nt {Γ : Gm} {G H : Hp} {σ : St} {ρ : Sto} {φ : Nat → List Addr} (h : SlotsOk Γ G H σ ρ φ) : ∀ i, ∀ x ∈ φ i, ∀ vs, H x ≠ some (.tup vs) := by
  intro i x hx
  cases q : ρ[i]? with
  | none =>
    rw [h.out i (List.getElem?_eq_none_iff.mp q)] at hx
    simp at hx
  | some s =>
    obtain ⟨o, _, h2⟩ := h.ok i s q
    exact h2.nt x hx
theorem Grow.live {G H G' H' : Hp} (g : Grow G H G' H') {a : Addr} (h : H a ≠ none) : H' a ≠ none := by
  cases q : H a with
  | none => exact absurd q h
  | some o => exact some_ne (g.leH a o q)
theorem At.thinT {Γ : Gm} {B : Bs} {ρ : Sto} {G H G' : Hp} {σ : St} (A : At Γ B ρ G H σ) (t : ∀ a, H a ≠ none → G a = none → Th (H a) (G' a)) : ∀ a, a ∉ B.M → B.H a ≠ none → B.G a = none → Th (B.H a) (G' a) := fun a hm ha hb => (A.thin a hm ha hb).trans fun hg => by
  have t := t a (A.live a ha) hg
  cases q : B.H a with
  | none => exact absurd q ha
  | some o => rw [A.keep a o hm q] at t; exact t
theorem At.grow {Γ : Gm} {B : Bs} {ρ : Sto} {G H G' H' : Hp} {σ : St} (A : At Γ B ρ G H σ) (g : Grow G H G' H') : At Γ B ρ G' H' σ := by
  obtain ⟨φ, h1, h3⟩ := A.slots
  exact ⟨g.sub, A.le.trans g.leG, fun a o ha e => g.leH a o (A.keep a o ha e), fun a ha => g.live (A.live a ha), A.thinT g.thin,
    ⟨φ, h1.grow g.leG fun i x _ o e => g.leH x o e, fun i a ha => ⟨(g.thin a (h1.there i a ha) (h3 i a ha).1).none (h1.nt i a ha), (h3 i a ha).2⟩⟩, A.fix⟩
end Sim

set_option Elab.async false
set_option autoImplicit false
set_option linter.all false
set_option maxRecDepth 100000
set_option maxHeartbeats 1000000
namespace Sim
open PySem L2
open Rp (rep)
open At1 (toV)
open K1 (key)
open KT (keys)
open Ow (own)

/-! ### slots -/
def setφ (φ : Nat → List Addr) (i : Nat) (fp : List Addr) : Nat → List Addr := fun j => if j = i then fp else φ j
theorem setφ_same {φ : Nat → List Addr} {i : Nat} {fp : List Addr} : setφ φ i fp i = fp := if_pos rfl
theorem setφ_ne {φ : Nat → List Addr} {i j : Nat} {fp : List Addr} (h : j ≠ i) : setφ φ i fp j = φ j := if_neg h
theorem mem_setφ {φ : Nat → List Addr} {i j : Nat} {fp : List Addr} {x : Addr} (h : x ∈ setφ φ i fp j) : (j = i ∧ x ∈ fp) ∨ (j ≠ i ∧ x ∈ φ j) := by
  by_cases e : j = i
  · subst e; rw [setφ_same] at h; exact .inl ⟨rfl, h⟩
  · rw [setφ_ne e] at h; exact .inr ⟨e, h⟩
/-- a slot is stored -/
theorem SlotsOk.set {Γ : Gm} {G H : Hp} {σ : St} {ρ : Sto} {φ : Nat → List Addr} (h : SlotsOk Γ G H σ ρ φ) {i : Nat} (hi : i < ρ.length) {o : Option V} {s : Slot} {fp : List Addr} (q : SlotOk Γ G H o s fp) (ap : ∀ j x, j ≠ i → x ∈ fp → x ∉ φ j) :
    SlotsOk Γ G H (σ.set i o) (ρ.set i s) (setφ φ i fp) := by
  refine ⟨by simp [h.len], fun j s' hj => ?_, fun j k x hx hy => ?_, fun j hj => ?_⟩
  · by_cases e : j = i
    · subst e
      rw [List.getElem?_set_self hi] at hj
      cases hj
      exact ⟨o, by rw [List.getElem?_set_self (by rw [h.len]; exact hi)], by rw [setφ_same]; exact q⟩
    · rw [List.getElem?_set_ne (Ne.symm e)] at hj
      obtain ⟨o', h1, h2⟩ := h.ok j s' hj
      exact ⟨o', by rw [List.getElem?_set_ne (Ne.symm e)]; exact h1, by rw [setφ_ne e]; exact h2⟩
  · rcases mem_setφ hx with ⟨e, hx⟩ | ⟨e, hx⟩ <;> rcases mem_setφ hy with ⟨e', hy⟩ | ⟨e', hy⟩
    · rw [e, e']
    · exact absurd hy (ap k x e' hx)
    · exact absurd hx (ap j x e hy)
    · exact h.apart j k x hx hy
  · have z : j ≠ i := by
      intro z
      rw [List.length_set, z] at hj
      omega
    rw [setφ_ne z]
    exact h.out j (by simpa using hj)
/-! ### locks on the way -/
section
variable {Γ : Gm} {B : Bs} {ρ : Sto} {G H : Hp} {σ : St}
/-- a value is stored -/
theorem At.setV {α : Type} [I : Rp α] {v : V} {a : α} {i : Nat} (A : At Γ B ρ G H σ) (hi : i < ρ.length) (r : rep Γ G v a) (nf : i ∉ B.fx) : At Γ B (ρ.set i (vl a)) G H (σ.set i (some v)) := by
  obtain ⟨φ, h1, h3⟩ := A.slots
  refine ⟨A.sub, A.le, A.keep, A.live, A.thin, ⟨setφ φ i [], h1.set hi ⟨rfl, v, rfl, r⟩ fun j x _ hx => by simp at hx, fun j a ha => ?_⟩, fun j hj => by
    rw [List.getElem?_set_ne fun z => nf (by rw [z]; exact hj)]
    exact A.fix j hj⟩
  rcases mem_setφ ha with ⟨_, q⟩ | ⟨_, q⟩
  · simp at q
  · exact h3 j a q
/-- a new object of one's own is stored -/
theorem At.setN {α : Type} [I : Ow α] {p : Addr} {o : HO} {v : V} {a : α} {i : Nat} (A : At Γ B ρ G H σ) (hi : i < ρ.length) (hp : H p = none) (r : own Γ G (upd H p o) v [p] a) (nf : i ∉ B.fx) : At Γ B (ρ.set i (ow a)) G (upd H p o) (σ.set i (some v)) := by
  have g := Grow.newO A.sub hp o
  obtain ⟨φ, h1, h3⟩ := A.slots
  have h1' := h1.grow (.refl G) (H' := upd H p o) fun j x _ u e => g.leH x u e
  have A' := A.grow g
  refine ⟨A'.sub, A'.le, A'.keep, A'.live, A'.thin, ⟨setφ φ i [p], h1'.set hi ⟨v, rfl, r⟩ fun j x hj hx hm => ?_, fun j a ha => ?_⟩, fun j hj => by
    rw [List.getElem?_set_ne fun z => nf (by rw [z]; exact hj)]
    exact A.fix j hj⟩
  · rw [List.mem_singleton.mp hx] at hm
    exact h1.there j p hm hp
  · rcases mem_setφ ha with ⟨_, q⟩ | ⟨_, q⟩
    · rw [List.mem_singleton.mp q]
      refine ⟨A.sub.none hp, .inl ?_⟩
      cases z : B.H p with
      | none => rfl
      | some u => exact absurd hp (A.live p (some_ne z))
    · exact h3 j a q
/-- a list of one's own is changed -/
theorem At.setO {α α' : Type} {I : Ow α} {I' : Ow α'} {p : Addr} {a : α} {a' : α'} {i : Nat} {ob : HO} (A : At Γ B ρ G H σ) (hi : ρ[i]? = some (.own α I a)) (hf : ∀ v fp, I.own Γ G H v fp a → ∃ q, v = .ref q ∧ fp = [q]) (hp : σ[i]? = some (some (.ref p)))
    (r : I'.own Γ G (upd H p ob) (.ref p) [p] a') : At Γ B (ρ.set i (.own α' I' a')) G (upd H p ob) σ := by
  obtain ⟨φ, h1, h3⟩ := A.slots
  have hi' : i < ρ.length := (List.getElem?_eq_some_iff.mp hi).1
  obtain ⟨o, e1, v, e2, ow'⟩ := h1.ok i _ hi
  obtain ⟨q, e3, e4⟩ := hf v _ ow'
  rw [e2, e3, hp] at e1
  have e1' : p = q := by injection e1 with e1; injection e1 with e1; injection e1
  subst e1'
  have hm : p ∈ φ i := by rw [e4]; exact List.mem_singleton.mpr rfl
  have hne : ∀ j x, j ≠ i → x ∈ φ j → x ≠ p := fun j x hj hx z => hj (h1.apart j i p (z ▸ hx) hm)
  have hs : i < σ.length := by rw [h1.len]; exact hi'
  have eσ : σ.set i (some (.ref p)) = σ := by
    have := List.getElem?_eq_getElem hs
    rw [this] at hp
    rw [← Option.some.inj hp]; simp
  have hpB := h3 i p hm
  refine ⟨fun x u e => ?_, A.le, fun x u hx e => ?_, fun x hx => ?_, A.thin, ⟨setφ φ i [p], ?_, fun j a ha => ?_⟩, A.fix⟩
  · have z : x ≠ p := fun z => by rw [z, hpB.1] at e; cases e
    rw [upd_ne z]; exact A.sub x u e
  · have z : x ≠ p := fun z => by
      rcases hpB.2 with w | w
      · rw [z, w] at e; cases e
      · exact hx (z ▸ w)
    rw [upd_ne z]; exact A.keep x u hx e
  · by_cases z : x = p
    · rw [z, upd_same]; simp
    · rw [upd_ne z]; exact A.live x hx
  · refine ⟨by simp [h1.len], fun j s hj => ?_, fun j k x hx hy => ?_, fun j hj => ?_⟩
    · by_cases z : j = i
      · subst z
        rw [List.getElem?_set_self hi'] at hj
        cases hj
        exact ⟨some (.ref p), hp, .ref p, rfl, by rw [setφ_same]; exact r⟩
      · rw [List.getElem?_set_ne (Ne.symm z)] at hj
        obtain ⟨o', q1, q2⟩ := h1.ok j s hj
        refine ⟨o', q1, ?_⟩
        rw [setφ_ne z]
        exact q2.grow (.refl _) fun x hx u e => by rw [upd_ne (hne j x z hx)]; exact e
    · rcases mem_setφ hx with ⟨e, hx⟩ | ⟨e, hx⟩ <;> rcases mem_setφ hy with ⟨e', hy⟩ | ⟨e', hy⟩
      · rw [e, e']
      · exact absurd (List.mem_singleton.mp hx) (hne k x e' hy)
      · exact absurd (List.mem_singleton.mp hy) (hne j x e hx)
      · exact h1.apart j k x hx hy
    · have z : j ≠ i := by
        intro z
        rw [List.length_set, z] at hj
        omega
      rw [setφ_ne z]
      exact h1.out j (by simpa using hj)
  · rcases mem_setφ ha with ⟨_, q⟩ | ⟨_, q⟩
    · rw [List.mem_singleton.mp q]; exact hpB
    · exact h3 j a q
theorem At.setL {α : Type} [Rp α] {p : Addr} {ws : List V} {xs ys : List α} {i : Nat} (A : At Γ B ρ G H σ) (hi : ρ[i]? = some (ow (OL.mk xs))) (hp : σ[i]? = some (some (.ref p))) (r : RpL Γ G ws ys) : At Γ B (ρ.set i (ow (OL.mk ys))) G (upd H p (.lst ws)) σ :=
  A.setO hi (fun v fp ⟨q, us, e3, e4, _⟩ => ⟨q, e3, e4⟩) hp ⟨p, ws, rfl, rfl, upd_same, r⟩
theorem At.get {α : Type} {I : Rp α} {a : α} {i : Nat} (A : At Γ B ρ G H σ) (h : ρ[i]? = some (.val α I a)) : ∃ v, σ[i]? = some (some v) ∧ rep Γ G v a := by
  obtain ⟨φ, h1, h3⟩ := A.slots
  obtain ⟨o, e, _, v, e2, r⟩ := h1.ok i _ h
  exact ⟨v, by rw [e, e2], r⟩
/-- a slot is given up, or what it holds is frozen -/
def Slot.wk : Slot → Bool → Slot
  | .own _ i a, true => if i.canF then .val i.F i.iF (i.toF a) else .dead
  | .val α i a, true => .val α i a
  | _, _ => .dead
def opAt : List (Nat × Bool) → Nat → Slot → Slot
  | [], _, s => s
  | (i, b) :: r, n, s => if Nat.beq i n = true then s.wk b else opAt r n s
def wksFrom (ops : List (Nat × Bool)) : Nat → Sto → Sto
  | _, [] => []
  | n, s :: r => opAt ops n s :: wksFrom ops (n + 1) r
def wks (ρ : Sto) (ops : List (Nat × Bool)) : Sto := wksFrom ops 0 ρ
theorem wksFrom_get (ops : List (Nat × Bool)) : ∀ (ρ : Sto) (n i : Nat), (wksFrom ops n ρ)[i]? = ρ[i]?.map (opAt ops (n + i))
  | [], n, i => by simp [wksFrom]
  | s :: r, n, 0 => by simp [wksFrom]
  | s :: r, n, i + 1 => by
    have := wksFrom_get ops r (n + 1) i
    simp only [wksFrom, List.getElem?_cons_succ, this]
    rw [show n + 1 + i = n + (i + 1) by omega]
theorem wksFrom_len (ops : List (Nat × Bool)) : ∀ (ρ : Sto) (n : Nat), (wksFrom ops n ρ).length = ρ.length
  | [], n => rfl
  | s :: r, n => by simp [wksFrom, wksFrom_len ops r (n + 1)]
/-- the first n slots are done -/
def wksN (ρ : Sto) (ops : List (Nat × Bool)) (n : Nat) : Sto := (wks ρ ops).take n ++ ρ.drop n
theorem wksN_zero (ρ : Sto) (ops : List (Nat × Bool)) : wksN ρ ops 0 = ρ := by simp [wksN]
theorem wksN_all (ρ : Sto) (ops : List (Nat × Bool)) : wksN ρ ops ρ.length = wks ρ ops := by
  unfold wksN wks
  rw [List.drop_length, List.append_nil, List.take_of_length_le (by rw [wksFrom_len]; exact Nat.le_refl _)]
theorem wksN_succ (ρ : Sto) (ops : List (Nat × Bool)) {n : Nat} {s : Slot} (h : ρ[n]? = some s) : wksN ρ ops (n + 1) = (wksN ρ ops n).set n (opAt ops n s) ∧ (wksN ρ ops n)[n]? = some s := by
  have hn : n < ρ.length := (List.getElem?_eq_some_iff.mp h).1
  have hl : (wks ρ ops).length = ρ.length := wksFrom_len ops ρ 0
  have ht : ((wks ρ ops).take n).length = n := by rw [List.length_take]; omega
  have hd : ρ.drop n = s :: ρ.drop (n + 1) := by
    obtain ⟨h1, h2⟩ := List.getElem?_eq_some_iff.mp h
    rw [List.drop_eq_getElem_cons h1, h2]
  have hw : (wks ρ ops)[n]? = some (opAt ops n s) := by
    have := wksFrom_get ops ρ 0 n
    rw [Nat.zero_add, h] at this
    exact this
  constructor
  · unfold wksN
    rw [hd]
    have e := List.set_append_right (s := List.take n (wks ρ ops)) (t := s :: List.drop (n + 1) ρ) (i := n) (x := opAt ops n s) (by omega)
    refine Eq.trans ?_ e.symm
    rw [ht, Nat.sub_self]
    show _ = List.take n (wks ρ ops) ++ (opAt ops n s :: List.drop (n + 1) ρ)
    rw [List.take_succ, hw]
    simp
  · unfold wksN
    rw [List.getElem?_append_right (by omega), ht, Nat.sub_self, hd]
    rfl
theorem At.drop {i : Nat} (A : At Γ B ρ G H σ) : At Γ B (ρ.set i .dead) G H σ := by
  by_cases hi : i < ρ.length
  · obtain ⟨φ, h1, h3⟩ := A.slots
    have hs : i < σ.length := by rw [h1.len]; exact hi
    have e : σ.set i σ[i] = σ := by simp
    refine ⟨A.sub, A.le, A.keep, A.live, A.thin, ⟨setφ φ i [], ?_, fun j a ha => ?_⟩, A.fix⟩
    · have := h1.set hi (o := σ[i]) (s := .dead) (fp := []) rfl fun j x _ hx => by simp at hx
      rw [e] at this
      exact this
    · rcases mem_setφ ha with ⟨_, q⟩ | ⟨_, q⟩
      · simp at q
      · exact h3 j a q
  · rw [List.set_eq_of_length_le (by omega)]
    exact A
/-! ### locks -/
/-- reached by locking -/
inductive LkT (P : Hp → Prop) : Hp → Prop
  | done {H : Hp} (h : P H) : LkT P H
  | lock {H : Hp} (d : Addr) (u : HO) (h : H d = some u) (mu : Mut (some u)) (k : ∀ od, LkT P (upd H d (.frz od u))) : LkT P H
theorem LkT.mono {P P' : Hp → Prop} {H : Hp} (h : LkT P H) (f : ∀ H, P H → P' H) : LkT P' H := by
  induction h with
  | done h => exact .done (f _ h)
  | lock d u h mu k ih => exact .lock d u h mu fun od => ih od
theorem LkT.join {P : Hp → Prop} {H : Hp} (h : LkT (fun H => LkT P H) H) : LkT P H := by
  induction h with
  | done h => exact h
  | lock d u h mu k ih => exact .lock d u h mu fun od => ih od
theorem LkT.run {P : Hp → Prop} {X : Cx} {pins : List (Addr × Obj)} {σ : St} {H : Hp} {s : Shared} (I : Inv X pins σ H s) (h : LkT P H) : ∃ H', Inv X pins σ H' s ∧ P H' := by
  induction h with
  | done h => exact ⟨_, I, h⟩
  | lock d u h mu k ih =>
    obtain ⟨od, I1⟩ := I.lock h mu
    exact ih od I1
theorem lkd_some {H : Hp} {fp : List Addr} {ob : Addr → Obj} {x : Addr} (h : H x ≠ none) : lkd H fp ob x ≠ none := by
  cases q : H x with
  | none => exact absurd q h
  | some o =>
    by_cases hx : x ∈ fp
    · by_cases n : isDk o
      · rw [lkd_d hx q n]; simp
      · rw [lkd_nd q n]; simp
    · rw [lkd_out hx, q]; simp
theorem lkd_T {P : Hp → Prop} : ∀ (fp : List Addr) {H : Hp}, (∀ ob, P (lkd H fp ob)) → LkT P H
  | [], H, h => .done (by
    have := h fun _ => default
    have e : lkd H [] (fun _ => default) = H := by funext x; unfold lkd; simp
    rw [e] at this; exact this)
  | a :: r, H, h => by
    have same : ¬ (∃ o, H a = some o ∧ isDk o) → LkT P H := fun hn => lkd_T r fun ob => by
      have e : lkd H r ob = lkd H (a :: r) ob := by
        funext x
        by_cases hx : x ∈ r
        · unfold lkd; rw [if_pos hx, if_pos (List.mem_cons_of_mem _ hx)]
        · by_cases hxa : x = a
          · subst hxa
            rw [lkd_out hx]
            cases q : H x with
            | none => unfold lkd; rw [if_pos List.mem_cons_self, q]
            | some o => rw [lkd_nd q fun n => hn ⟨o, q, n⟩]
          · rw [lkd_out hx, lkd_out]
            intro z
            rcases List.mem_cons.mp z with z | z
            · exact hxa z
            · exact hx z
      rw [e]; exact h ob
    have go : ∀ o, H a = some o → isDk o → Mut (some o) → LkT P H := fun o ho hd mu => .lock a o ho mu fun od => lkd_T r fun ob => by
      have e : lkd (upd H a (.frz od o)) r ob = lkd H (a :: r) (fun x => if x = a then od else ob x) := by
        funext x
        by_cases hxa : x = a
        · subst hxa
          rw [lkd_d (List.mem_cons_self) ho hd, if_pos rfl]
          exact lkd_nd upd_same fun q => q
        · by_cases hx : x ∈ r
          · unfold lkd
            rw [if_pos hx, if_pos (List.mem_cons_of_mem _ hx), upd_ne hxa]
            simp only [if_neg hxa]
          · rw [lkd_out hx, upd_ne hxa, lkd_out]
            intro z
            rcases List.mem_cons.mp z with z | z
            · exact hxa z
            · exact hx z
      rw [e]; exact h _
    cases q : H a with
    | none => exact same fun ⟨o, h1, _⟩ => by rw [q] at h1; cases h1
    | some o =>
      cases o with
      | dK k => exact go _ q trivial trivial
      | dT k => exact go _ q trivial trivial
      | _ => exact same fun ⟨o, h1, h2⟩ => by rw [q] at h1; cases h1; exact h2
/-- without what stands at fp -/
def drpd (G : Hp) (fp : List Addr) : Hp := fun x => if x ∈ fp then none else G x
theorem At.freezeX {α : Type} {I : Ow α} {a : α} {i : Nat} (A : At Γ B ρ G H σ) (h : ρ[i]? = some (.own α I a)) (hc : I.canF = true) {φ : Nat → List Addr} (h1 : SlotsOk Γ G H σ ρ φ) (h3 : ∀ i, ∀ a ∈ φ i, G a = none ∧ (B.H a = none ∨ a ∈ B.M)) (ob : Addr → Obj) : Le G (frzd G (lkd H (φ i) ob) (φ i)) ∧ At Γ B (ρ.set i (.val I.F I.iF (I.toF a))) (frzd G (lkd H (φ i) ob) (φ i)) (lkd H (φ i) ob) σ := by
  have hi : i < ρ.length := (List.getElem?_eq_some_iff.mp h).1
  obtain ⟨o, e1, v, e2, ow⟩ := h1.ok i _ h
  have le : Le G (frzd G (lkd H (φ i) ob) (φ i)) := fun x u e => by
    have hx : x ∉ φ i := fun hx => by rw [(h3 i x hx).1] at e; cases e
    show (if x ∈ φ i then lkd H (φ i) ob x else G x) = some u
    rw [if_neg hx]; exact e
  have hs : i < σ.length := by rw [h1.len]; exact hi
  have e : σ.set i (some v) = σ := by
    rw [e2] at e1
    have : σ[i] = some v := by
      have := List.getElem?_eq_getElem hs
      rw [this] at e1
      exact Option.some.inj e1
    rw [← this]; simp
  refine ⟨le, fun x u q => ?_, A.le.trans le, fun x u hx q => ?_, fun x hx => lkd_some (A.live x hx), fun x hxm hx hb => ?_, ⟨setφ φ i [], ?_, fun j x hx => ?_⟩, A.fix⟩
  · by_cases hx : x ∈ φ i
    · have q' : (if x ∈ φ i then lkd H (φ i) ob x else G x) = some u := q
      rw [if_pos hx] at q'
      exact q'
    · have q' : (if x ∈ φ i then lkd H (φ i) ob x else G x) = some u := q
      rw [if_neg hx] at q'
      rw [lkd_out hx]
      exact A.sub x u q'
  · have hm : x ∉ φ i := fun hm => by
      rcases (h3 i x hm).2 with w | w
      · rw [w] at q; cases q
      · exact hx w
    rw [lkd_out hm]; exact A.keep x u hx q
  · by_cases hm : x ∈ φ i
    · rcases (h3 i x hm).2 with q | q
      · exact absurd q hx
      · exact absurd q hxm
    · show Th _ (if x ∈ φ i then lkd H (φ i) ob x else G x)
      rw [if_neg hm]; exact A.thin x hxm hx hb
  · have h2 : SlotsOk Γ (frzd G (lkd H (φ i) ob) (φ i)) (lkd H (φ i) ob) σ (ρ.set i .dead) (setφ φ i []) := by
      refine ⟨by simp [h1.len], fun j s hj => ?_, fun j k x hx hy => ?_, fun j hj => ?_⟩
      · by_cases z : j = i
        · subst z
          rw [List.getElem?_set_self hi] at hj
          cases hj
          exact ⟨o, e1, by rw [setφ_same]; exact rfl⟩
        · rw [List.getElem?_set_ne (Ne.symm z)] at hj
          obtain ⟨o', q1, q2⟩ := h1.ok j s hj
          refine ⟨o', q1, ?_⟩
          rw [setφ_ne z]
          exact q2.grow le fun x hx u e => by rw [lkd_out fun hm => z (h1.apart j i x hx hm)]; exact e
      · rcases mem_setφ hx with ⟨e, hx⟩ | ⟨e, hx⟩
        · simp at hx
        · rcases mem_setφ hy with ⟨e', hy⟩ | ⟨e', hy⟩
          · simp at hy
          · exact h1.apart j k x hx hy
      · have z : j ≠ i := by
          intro z
          rw [List.length_set, z] at hj
          omega
        rw [setφ_ne z]
        exact h1.out j (by simpa using hj)
    have := h2.set (i := i) (by simpa using hi) (o := some v) (s := .val I.F I.iF (I.toF a)) (fp := []) ⟨rfl, v, rfl, I.fz hc ob ow le⟩ fun j x _ hx => by simp at hx
    rw [e, List.set_set] at this
    have ee : setφ (setφ φ i []) i [] = setφ φ i [] := by
      funext j
      unfold setφ
      by_cases hj : j = i
      · rw [if_pos hj, if_pos hj]
      · rw [if_neg hj, if_neg hj]
    rw [ee] at this
    exact this
  · rcases mem_setφ hx with ⟨_, q⟩ | ⟨hj, q⟩
    · simp at q
    · refine ⟨?_, (h3 j x q).2⟩
      have hm : x ∉ φ i := fun z => hj (h1.apart j i x q z)
      show (if x ∈ φ i then lkd H (φ i) ob x else G x) = none
      rw [if_neg hm]; exact (h3 j x q).1
theorem At.freeze {α : Type} {I : Ow α} {a : α} {i : Nat} (A : At Γ B ρ G H σ) (h : ρ[i]? = some (.own α I a)) (hc : I.canF = true) : LkT (fun H' => ∃ G', Le G G' ∧ At Γ B (ρ.set i (.val I.F I.iF (I.toF a))) G' H' σ) H := by
  obtain ⟨φ, h1, h3⟩ := A.slots
  exact lkd_T (φ i) fun ob => ⟨_, A.freezeX h hc h1 h3 ob⟩
theorem At.wk1 {i : Nat} {s : Slot} (b : Bool) (A : At Γ B ρ G H σ) (h : ρ[i]? = some s) : LkT (fun H' => ∃ G', Le G G' ∧ At Γ B (ρ.set i (s.wk b)) G' H' σ) H := by
  cases s with
  | dead => exact .done ⟨G, .refl _, A.drop⟩
  | val α I a =>
    cases b with
    | false => exact .done ⟨G, .refl _, A.drop⟩
    | true =>
      refine .done ⟨G, .refl _, ?_⟩
      have e : ρ.set i (.val α I a) = ρ := by
        obtain ⟨hi, e⟩ := List.getElem?_eq_some_iff.mp h
        rw [← e]; simp
      show At Γ B (ρ.set i (.val α I a)) G H σ
      rw [e]; exact A
  | own α I a =>
    cases b with
    | false => exact .done ⟨G, .refl _, A.drop⟩
    | true =>
      show LkT (fun H' => ∃ G', Le G G' ∧ At Γ B (ρ.set i (if I.canF then .val I.F I.iF (I.toF a) else .dead)) G' H' σ) H
      by_cases hc : I.canF = true
      · rw [if_pos hc]; exact A.freeze h hc
      · rw [if_neg hc]; exact .done ⟨G, .refl _, A.drop⟩
theorem At.op1 {i : Nat} {s : Slot} (ops : List (Nat × Bool)) (A : At Γ B ρ G H σ) (h : ρ[i]? = some s) : LkT (fun H' => ∃ G', Le G G' ∧ At Γ B (ρ.set i (opAt ops i s)) G' H' σ) H := by
  induction ops with
  | nil =>
    refine .done ⟨G, .refl _, ?_⟩
    have e : ρ.set i s = ρ := by
      obtain ⟨hi, e⟩ := List.getElem?_eq_some_iff.mp h
      rw [← e]; simp
    show At Γ B (ρ.set i s) G H σ
    rw [e]; exact A
  | cons o r ih =>
    obtain ⟨j, b⟩ := o
    unfold opAt
    by_cases hj : Nat.beq j i = true
    · rw [if_pos hj]; exact A.wk1 b h
    · rw [if_neg hj]; exact ih
theorem At.wksTo (ops : List (Nat × Bool)) : ∀ (n : Nat) {ρ : Sto} {G H : Hp}, n ≤ ρ.length → At Γ B ρ G H σ → LkT (fun H' => ∃ G', Le G G' ∧ At Γ B (wksN ρ ops n) G' H' σ) H
  | 0, ρ, G, H, _, A => .done ⟨G, .refl _, by rw [wksN_zero]; exact A⟩
  | n + 1, ρ, G, H, hn, A => by
    have h : ρ[n]? = some ρ[n] := List.getElem?_eq_getElem (by omega)
    obtain ⟨h1, h2⟩ := wksN_succ ρ ops h
    rw [h1]
    refine ((At.wksTo ops n (by omega) A).mono fun H1 ⟨G1, l1, A1⟩ => ?_).join
    exact (A1.op1 ops h2).mono fun H2 ⟨G2, l2, A2⟩ => ⟨G2, l1.trans l2, A2⟩
theorem At.wks (ops : List (Nat × Bool)) {ρ : Sto} {G H : Hp} (A : At Γ B ρ G H σ) : LkT (fun H' => ∃ G', Le G G' ∧ At Γ B (Sim.wks ρ ops) G' H' σ) H := by
  have := At.wksTo ops ρ.length (Nat.le_refl _) A
  rw [wksN_all] at this
  exact this
/-- what a slot of one's own holds -/
theorem At.getO {α : Type} {I : Ow α} {a : α} {i : Nat} (A : At Γ B ρ G H σ) (h : ρ[i]? = some (.own α I a)) : ∃ v fp, σ[i]? = some (some v) ∧ I.own Γ G H v fp a ∧ (∀ x ∈ fp, G x = none) := by
  obtain ⟨φ, h1, h3⟩ := A.slots
  obtain ⟨o, e, v, e2, r⟩ := h1.ok i _ h
  exact ⟨v, φ i, by rw [e, e2], r, fun x hx => (h3 i x hx).1⟩
end
end Sim

set_option Elab.async false
set_option autoImplicit false
set_option linter.all false
set_option maxRecDepth 100000
set_option maxHeartbeats 1000000
namespace Sim
open PySem L2
open Rp (rep)
open At1 (toV)
open K1 (key)
open KT (keys)
open Ow (own)

/-! ### the readings, in one form -/
/-- an expression whose value is m's, the store as it is -/
def cE (Γ : Gm) (B : Bs) (ρ : Sto) {α : Type} [Rp α] (m : Option α) : TE := fun σ H Q => ∃ G a, At Γ B ρ G H σ ∧ m = some a ∧ ∀ v G' H', Grow G H G' H' → rep Γ G' v a → Q v H'
def cT (Γ : Gm) (B : Bs) (ρ : Sto) (m : Option Bool) : TT := fun σ H Q => ∃ G a, At Γ B ρ G H σ ∧ m = some a ∧ ∀ G' H', Grow G H G' H' → Q a H'
/-- a list that can be read, frozen or not -/
def cR (Γ : Gm) (B : Bs) (ρ : Sto) {α : Type} [Rp α] (m : Option (List α)) : TE := fun σ H Q => ∃ G xs, At Γ B ρ G H σ ∧ m = some xs ∧ ∀ p vs G' H', Grow G H G' H' → H' p = some (.lst vs) → RpL Γ G' vs xs → Q (.ref p) H'
/-- .. a dict -/
def cDK (Γ : Gm) (B : Bs) (ρ : Sto) {κ α : Type} [K1 κ] [Rp α] (m : Option (List (κ × α))) : TE := fun σ H Q => ∃ G xs, At Γ B ρ G H σ ∧ m = some xs ∧ ∀ p kvs G' H', Grow G H G' H' → Rd H' p (.dK kvs) → RpK Γ G' kvs xs → Q (.ref p) H'
def cDT (Γ : Gm) (B : Bs) (ρ : Sto) {κ α : Type} [KT κ] [Rp α] (m : Option (List (κ × α))) : TE := fun σ H Q => ∃ G xs, At Γ B ρ G H σ ∧ m = some xs ∧ ∀ p kvs G' H', Grow G H G' H' → Rd H' p (.dT kvs) → RpT Γ G' kvs xs → Q (.ref p) H'
/-- argument lists -/
class RpA (τ : Type) where
  repA : Gm → Hp → List V → τ → Prop
  monoA : ∀ {Γ : Gm} {G G' : Hp} {v : List V} {a : τ}, Le G G' → repA Γ G v a → repA Γ G' v a
  num : Nat
  stoA : τ → Sto
  lenA : ∀ t, (stoA t).length = num
  okA : ∀ {Γ : Gm} {G H : Hp} {vs : List V} {t : τ}, repA Γ G vs t → vs.length = num ∧ ∀ (i : Nat) (s : Slot), (stoA t)[i]? = some s → ∃ v, vs[i]? = some v ∧ SlotOk Γ G H (some v) s []
open RpA (repA)
instance instRpAUnit : RpA Unit := ⟨fun _ _ vs _ => vs = [], fun _ h => h, 0, fun _ => [], fun _ => rfl, fun h => by
  subst h
  exact ⟨rfl, fun i s e => by simp at e⟩⟩
instance instRpAProd {α τ : Type} [I : Rp α] [RpA τ] : RpA (α × τ) := ⟨fun Γ G vs p => ∃ v r, vs = v :: r ∧ rep Γ G v p.1 ∧ repA Γ G r p.2, fun e ⟨v, r, h1, h2, h3⟩ => ⟨v, r, h1, Rp.mono e h2, RpA.monoA e h3⟩, RpA.num τ + 1, fun p => vl p.1 :: RpA.stoA p.2, fun p => by simp [RpA.lenA], fun {Γ G H vs t} h => by
  obtain ⟨v, r, h1, h2, h3⟩ := h
  subst h1
  have q := RpA.okA (H := H) h3
  refine ⟨by simp [q.1], fun i s e => ?_⟩
  cases i with
  | zero =>
    have e' : vl t.1 = s := Option.some.inj e
    subst e'
    exact ⟨v, rfl, rfl, v, rfl, h2⟩
  | succ i =>
    obtain ⟨v', q1, q2⟩ := q.2 i s (by simpa using e)
    exact ⟨v', by simpa using q1, q2⟩⟩
def cA (Γ : Gm) (B : Bs) (ρ : Sto) {τ : Type} [RpA τ] (m : Option τ) : TA := fun σ H Q => ∃ G a, At Γ B ρ G H σ ∧ m = some a ∧ ∀ vs G' H', Grow G H G' H' → repA Γ G' vs a → Q vs H'
/-- items alike -/
def seqO {α : Type} : List (Option α) → Option (List α)
  | [] => some []
  | m :: r => m.bind fun x => (seqO r).bind fun xs => some (x :: xs)
def cL (Γ : Gm) (B : Bs) (ρ : Sto) {α : Type} [Rp α] (ms : List (Option α)) : TA := fun σ H Q => ∃ G xs, At Γ B ρ G H σ ∧ seqO ms = some xs ∧ ∀ vs G' H', Grow G H G' H' → RpL Γ G' vs xs → Q vs H'

theorem imE {X : Cx} {e : Expr} {t t' : TE} (h : PE X e t) (k : ∀ σ H Q, t' σ H Q → t σ H Q) : PE X e t' := ⟨fun pins s σ H Q I q => h.run pins s σ H Q I (k σ H Q q)⟩
theorem imT {X : Cx} {e : Expr} {t t' : TT} (h : PT X e t) (k : ∀ σ H Q, t' σ H Q → t σ H Q) : PT X e t' := ⟨fun pins s σ H Q I q => h.run pins s σ H Q I (k σ H Q q)⟩
theorem imW {X : Cx} {e : Expr} {t t' : TT} (h : PW X e t) (k : ∀ σ H Q, t' σ H Q → t σ H Q) : PW X e t' := ⟨fun w pins s σ H Q I q => h.run w pins s σ H Q I (k σ H Q q)⟩
theorem imA {X : Cx} {e : List Expr} {t t' : TA} (h : PA X e t) (k : ∀ σ H Q, t' σ H Q → t σ H Q) : PA X e t' := ⟨fun p pins s σ H Q I q => h.run p pins s σ H Q I (k σ H Q q)⟩
theorem imS {X : Cx} {e : Stmt} {t t' : TS} (h : PS X e t) (k : ∀ D σ H, t' D σ H → t D σ H) : PS X e t' := ⟨fun pins s σ H D I q => h.run pins s σ H D I (k D σ H q)⟩
theorem imB {X : Cx} {e : List Stmt} {t t' : TS} (h : PSs X e t) (k : ∀ D σ H, t' D σ H → t D σ H) : PSs X e t' := ⟨fun pins s σ H D I q => h.run pins s σ H D I (k D σ H q)⟩
/-! locks ahead and behind -/
abbrev Ends.lk (D : Ends) : Ends := ⟨fun σ H => LkT (D.nx σ) H, fun v H => LkT (D.rt v) H, fun σ H => LkT (D.bk σ) H, fun σ H => LkT (D.ct σ) H⟩
theorem lkS {X : Cx} {e : Stmt} {t : TS} (h : PS X e t) : PS X e (fun D σ H => LkT (fun H' => t D σ H') H) := ⟨fun pins s σ H D I q => by
  obtain ⟨H', I', q'⟩ := q.run I
  exact h.run pins s σ H' D I' q'⟩
theorem lkB {X : Cx} {e : List Stmt} {t : TS} (h : PSs X e t) : PSs X e (fun D σ H => LkT (fun H' => t D σ H') H) := ⟨fun pins s σ H D I q => by
  obtain ⟨H', I', q'⟩ := q.run I
  exact h.run pins s σ H' D I' q'⟩
theorem sp_lk {X : Cx} {pins : List (Addr × Obj)} {D : Ends} {f : Flow} {s : Shared} (q : SP X pins (Ends.lk D) f s) : SP X pins D f s := by
  cases f with
  | next =>
    obtain ⟨σ', H', I', q⟩ := q
    obtain ⟨H2, I2, q2⟩ := LkT.run I' q
    exact ⟨σ', H2, I2, q2⟩
  | brk =>
    obtain ⟨σ', H', I', q⟩ := q
    obtain ⟨H2, I2, q2⟩ := LkT.run I' q
    exact ⟨σ', H2, I2, q2⟩
  | cont =>
    obtain ⟨σ', H', I', q⟩ := q
    obtain ⟨H2, I2, q2⟩ := LkT.run I' q
    exact ⟨σ', H2, I2, q2⟩
  | ret v =>
    obtain ⟨x, σ', H', I', r, q⟩ := q
    obtain ⟨H2, I2, q2⟩ := LkT.run I' q
    exact ⟨x, σ', H2, I2, r, q2⟩
theorem lkS' {X : Cx} {e : Stmt} {t : TS} (h : PS X e t) : PS X e (fun D σ H => t (Ends.lk D) σ H) := ⟨fun pins s σ H D I q => thn (h.run pins s σ H _ I q) fun f s1 q => sp_lk q⟩
theorem lkB' {X : Cx} {e : List Stmt} {t : TS} (h : PSs X e t) : PSs X e (fun D σ H => t (Ends.lk D) σ H) := ⟨fun pins s σ H D I q => thn (h.run pins s σ H _ I q) fun f s1 q => sp_lk q⟩

theorem allE {X : Cx} {e : Expr} {ι : Type} {t : ι → TE} (h : ∀ i, PE X e (t i)) : PE X e (fun σ H Q => ∃ i, t i σ H Q) := ⟨fun pins s σ H Q I ⟨i, q⟩ => (h i).run pins s σ H Q I q⟩
theorem allT {X : Cx} {e : Expr} {ι : Type} {t : ι → TT} (h : ∀ i, PT X e (t i)) : PT X e (fun σ H Q => ∃ i, t i σ H Q) := ⟨fun pins s σ H Q I ⟨i, q⟩ => (h i).run pins s σ H Q I q⟩
theorem allB {X : Cx} {e : List Stmt} {ι : Type} {t : ι → TS} (h : ∀ i, PSs X e (t i)) : PSs X e (fun D σ H => ∃ i, t i D σ H) := ⟨fun pins s σ H D I ⟨i, q⟩ => (h i).run pins s σ H D I q⟩

/-! ### where one stands -/
structure Cok (X : Cx) (Γ : Gm) (N : List Str) (sc : Scope) (k : Nat) : Prop where
  hP : X.prog = Γ.P
  hw : X.w = Γ.w
  hK : X.K = Γ.K
  hmg : X.mg = Γ.mg
  hbase : X.base = Γ.base
  hN : X.N = N
  nd : N.Nodup
  hsc : X.env.scope = sc
  calm : X.calm = true
  room : Room k X.A
theorem Cok.hu {X : Cx} {Γ : Gm} {N : List Str} {sc : Scope} {k : Nat} (c : Cok X Γ N sc k) : X.A.units + 1 < cLine := hu_of c.room
theorem Cok.hu64 {X : Cx} {Γ : Gm} {N : List Str} {sc : Scope} {k : Nat} (c : Cok X Γ N sc k) : X.A.units + 64 < cLine := c.room.units
/-- a name of the module's or a built-in one -/
def Glb (sc : Scope) (x : Str) : Prop := sc.names.lookup x = some .globalImplicit
theorem Cok.gl {X : Cx} {Γ : Gm} {N : List Str} {sc : Scope} {k : Nat} (c : Cok X Γ N sc k) {x : Str} (h : Glb sc x) : Gl X x := by
  unfold Gl Env.kindOf
  rw [c.hsc]
  exact h

abbrev XE (X : Cx) (Γ : Gm) (B : Bs) (ρ : Sto) (e : Expr) {α : Type} [Rp α] (m : Option α) : Prop := PE X e (cE Γ B ρ m)
abbrev XT (X : Cx) (Γ : Gm) (B : Bs) (ρ : Sto) (e : Expr) (m : Option Bool) : Prop := PT X e (cT Γ B ρ m)
abbrev XW (X : Cx) (Γ : Gm) (B : Bs) (ρ : Sto) (e : Expr) (m : Option Bool) : Prop := PW X e (cT Γ B ρ m)
abbrev XR (X : Cx) (Γ : Gm) (B : Bs) (ρ : Sto) (e : Expr) {α : Type} [Rp α] (m : Option (List α)) : Prop := PE X e (cR Γ B ρ m)
abbrev XDK (X : Cx) (Γ : Gm) (B : Bs) (ρ : Sto) (e : Expr) {κ α : Type} [K1 κ] [Rp α] (m : Option (List (κ × α))) : Prop := PE X e (cDK Γ B ρ m)
abbrev XDT (X : Cx) (Γ : Gm) (B : Bs) (ρ : Sto) (e : Expr) {κ α : Type} [KT κ] [Rp α] (m : Option (List (κ × α))) : Prop := PE X e (cDT Γ B ρ m)
abbrev XA (X : Cx) (Γ : Gm) (B : Bs) (ρ : Sto) (es : List Expr) {τ : Type} [RpA τ] (m : Option τ) : Prop := PA X es (cA Γ B ρ m)
abbrev XL (X : Cx) (Γ : Gm) (B : Bs) (ρ : Sto) (es : List Expr) {α : Type} [Rp α] (ms : List (Option α)) : Prop := PA X es (cL Γ B ρ ms)

/-- two operands -/
abbrev b2 {α β γ : Type} (ma : Option α) (mb : Option β) (f : α → β → Option γ) : Option γ := ma.bind fun x => mb.bind fun y => f x y
theorem ite_some {α : Type} {c : Prop} [Decidable c] {x z : α} (h : (if c then some x else none) = some z) : c ∧ x = z := by
  by_cases hc : c
  · rw [if_pos hc] at h; exact ⟨hc, Option.some.inj h⟩
  · rw [if_neg hc] at h; cases h

section
variable {X : Cx} {Γ : Gm} {B : Bs} {ρ : Sto} {N : List Str} {sc : Scope} {k : Nat} {pos : Pos} {e a b : Expr} {α β γ : Type} [Rp α] [Rp β] [Rp γ]
variable {m : Option α} {ma : Option α} {mb : Option β}

/-! ### names, constants -/
theorem pv_ (c : Cok X Γ N sc k) {x : Str} {i : Nat} (hN : N[i]? = some x) (hv : Vis sc x) (hd : (x == ("__debug__" : Str)) = false) (hcd : (x == ("__classdict__" : Str)) = false) : PE X (.Name x pos) (tVar i) :=
  pe_var (X := X) (i := i) (by rw [c.hN]; exact hN) (by rw [c.hsc]; exact hv) hd hcd
theorem xe_var (c : Cok X Γ N sc k) {x : Str} (i : Nat) {I : Rp α} {z : α} (hi : ρ[i]? = some (.val α I z)) (hN : N[i]? = some x) (hv : Vis sc x) (hd : (x == ("__debug__" : Str)) = false := by decide) (hcd : (x == ("__classdict__" : Str)) = false := by decide) :
    @XE X Γ B ρ (.Name x pos) α I (some z) := imE (pv_ c hN hv hd hcd) fun σ H Q ⟨G, z', A, e, q⟩ => by
  cases e
  obtain ⟨v, h1, h2⟩ := A.get hi
  exact ⟨v, h1, q v G H (.refl A.sub) h2⟩
/-- a list of one's own, read -/
theorem xr_own (c : Cok X Γ N sc k) {x : Str} (i : Nat) {xs : List α} (hi : ρ[i]? = some (ow (OL.mk xs))) (hN : N[i]? = some x) (hv : Vis sc x) (hd : (x == ("__debug__" : Str)) = false := by decide) (hcd : (x == ("__classdict__" : Str)) = false := by decide) :
    XR X Γ B ρ (.Name x pos) (some xs) := imE (pv_ c hN hv hd hcd) fun σ H Q ⟨G, z', A, e, q⟩ => by
  cases e
  obtain ⟨v, fp, h1, ⟨p, vs, rfl, h3, h4, h5⟩, h6⟩ := A.getO hi
  exact ⟨.ref p, h1, q p vs G H (.refl A.sub) h4 h5⟩
theorem xk_own {κ : Type} [K1 κ] (c : Cok X Γ N sc k) {x : Str} (i : Nat) {xs : List (κ × α)} (hi : ρ[i]? = some (ow (OK.mk xs))) (hN : N[i]? = some x) (hv : Vis sc x) (hd : (x == ("__debug__" : Str)) = false := by decide) (hcd : (x == ("__classdict__" : Str)) = false := by decide) :
    XDK X Γ B ρ (.Name x pos) (some xs) := imE (pv_ c hN hv hd hcd) fun σ H Q ⟨G, z', A, e, q⟩ => by
  cases e
  obtain ⟨v, fp, h1, ⟨p, vs, rfl, h3, h4, h5⟩, h6⟩ := A.getO hi
  exact ⟨.ref p, h1, q p vs G H (.refl A.sub) (.inl h4) h5⟩
theorem xt_own {κ : Type} [KT κ] (c : Cok X Γ N sc k) {x : Str} (i : Nat) {xs : List (κ × α)} (hi : ρ[i]? = some (ow (OT.mk xs))) (hN : N[i]? = some x) (hv : Vis sc x) (hd : (x == ("__debug__" : Str)) = false := by decide) (hcd : (x == ("__classdict__" : Str)) = false := by decide) :
    XDT X Γ B ρ (.Name x pos) (some xs) := imE (pv_ c hN hv hd hcd) fun σ H Q ⟨G, z', A, e, q⟩ => by
  cases e
  obtain ⟨v, fp, h1, ⟨p, vs, rfl, h3, h4, h5⟩, h6⟩ := A.getO hi
  exact ⟨.ref p, h1, q p vs G H (.refl A.sub) (.inl h4) h5⟩
/-- what is frozen can be read -/
theorem xr_of {m : Option (List α)} (h : XE X Γ B ρ e m) : XR X Γ B ρ e m := imE h fun σ H Q ⟨G, xs, A, e, q⟩ => ⟨G, xs, A, e, fun v G' H' g ⟨p, vs, h1, h2, h3⟩ => by
  subst h1
  exact q p vs G' H' g (g.sub.lst h2) h3⟩
theorem xk_of {κ : Type} [K1 κ] {m : Option (DK κ α)} (h : XE X Γ B ρ e m) : XDK X Γ B ρ e (m.bind fun d => some d.l) := imE h fun σ H Q ⟨G, xs, A, e, q⟩ => by
  cases m with
  | none => cases e
  | some d =>
    cases e
    exact ⟨G, d, A, rfl, fun v G' H' g ⟨p, vs, ob, h1, h2, h3⟩ => by
      subst h1
      exact q p vs G' H' g (g.sub.rd h2) h3⟩
theorem xt_of {κ : Type} [KT κ] {m : Option (DT κ α)} (h : XE X Γ B ρ e m) : XDT X Γ B ρ e (m.bind fun d => some d.l) := imE h fun σ H Q ⟨G, xs, A, e, q⟩ => by
  cases m with
  | none => cases e
  | some d =>
    cases e
    exact ⟨G, d, A, rfl, fun v G' H' g ⟨p, vs, ob, h1, h2, h3⟩ => by
      subst h1
      exact q p vs G' H' g (g.sub.rd h2) h3⟩
theorem xe_c {v : V} (h : PE X e (tC v)) {α : Type} [At1 α] {z : α} (hz : toV z = v) : XE X Γ B ρ e (some z) := imE h fun σ H Q ⟨G, z', A, e, q⟩ => by
  cases e
  exact q v G H (.refl A.sub) hz.symm
theorem xe_int {i : Int} {j : Nat} : XE X Γ B ρ (.Constant (.int i) j pos) (some i) := xe_c pe_int rfl
theorem xe_bl {b : Bool} {j : Nat} : XE X Γ B ρ (.Constant (.bool b) j pos) (some b) := xe_c pe_bl rfl
theorem xe_str {x : Str} {j : Nat} {h : PyData.strOk x = true} : XE X Γ B ρ (.Constant (.str x) j pos) (some (Tt.mk x h)) := xe_c pe_str rfl
theorem xe_unit {j : Nat} : XE X Γ B ρ (.Constant .none j pos) (some ()) := xe_c pe_non rfl
theorem xe_none {j : Nat} {α : Type} [Rp α] : XE X Γ B ρ (.Constant .none j pos) (some (none : Option α)) := imE pe_non fun σ H Q ⟨G, z', A, e, q⟩ => by
  cases e
  exact q _ G H (.refl A.sub) rfl
/-- a constant of the module's -/
theorem xe_glob (c : Cok X Γ N sc k) {x : Str} {u : Value} {α : Type} [At1 α] {z : α} (hg : Glb sc x) (hm : Γ.mg x = some u) (r : RelV (toV z) u) (hd : (x == ("__debug__" : Str)) = false := by decide) : XE X Γ B ρ (.Name x pos) (some z) :=
  xe_c (pe_glob (c.gl hg) (by rw [c.hmg]; exact hm) r hd) rfl
theorem xe_eq {m' : Option α} (h : XE X Γ B ρ e m) (q : m = m') : XE X Γ B ρ e m' := q ▸ h
/-- read as an optional one -/
theorem xe_opt (h : XE X Γ B ρ e m) (nn : ∀ Γ G v (a : α), rep Γ G v a → v ≠ .non) : XE X Γ B ρ e (m.bind fun a => some (some a)) := imE h fun σ H Q ⟨G, o, A, e, q⟩ => by
  cases m with
  | none => cases e
  | some z =>
    have e' : some z = o := Option.some.inj e
    subst e'
    exact ⟨G, z, A, rfl, fun v G' H' g r => q v G' H' g ⟨nn _ _ _ _ r, r⟩⟩
/-- slot i frozen while an expression is reckoned whose value leans on no dict -/
def isFz : HO → Prop
  | .frz _ _ => True
  | _ => False
class NoDk (α : Type) [Rp α] : Prop where
  nodk : ∀ {Γ : Gm} {G G' : Hp} {v : V} {a : α}, (∀ x o, ¬ isFz o → G x = some o → G' x = some o) → rep Γ G v a → rep Γ G' v a
instance (priority := 60) {α : Type} [At1 α] : NoDk α := ⟨fun _ r => rep1 r⟩
theorem RpL.nodk {α : Type} [Rp α] [NoDk α] {G G' : Hp} {vs : List V} {xs : List α} (h : ∀ x o, ¬ isFz o → G x = some o → G' x = some o) (r : RpL Γ G vs xs) : RpL Γ G' vs xs := Paired.mapP r fun _ _ r => NoDk.nodk h r
instance {α : Type} [Rp α] [NoDk α] : NoDk (List α) := ⟨fun h ⟨a, vs, h1, h2, h3⟩ => ⟨a, vs, h1, h _ _ (fun q => q) h2, h3.nodk h⟩⟩
instance {α : Type} [Rp α] [NoDk α] : NoDk (TL α) := ⟨fun h ⟨a, vs, h1, h2, h3⟩ => ⟨a, vs, h1, h _ _ (fun q => q) h2, RpL.nodk h h3⟩⟩
instance {α β : Type} [Rp α] [NoDk α] [Rp β] [NoDk β] : NoDk (α × β) := ⟨fun h ⟨a, x, y, h1, h2, h3, h4⟩ => ⟨a, x, y, h1, h _ _ (fun q => q) h2, NoDk.nodk h h3, NoDk.nodk h h4⟩⟩
instance {α β γ : Type} [Rp α] [NoDk α] [Rp β] [NoDk β] [Rp γ] [NoDk γ] : NoDk (T3 α β γ) := ⟨fun h ⟨a, x, y, z, h1, h2, h3, h4, h5⟩ => ⟨a, x, y, z, h1, h _ _ (fun q => q) h2, NoDk.nodk h h3, NoDk.nodk h h4, NoDk.nodk h h5⟩⟩
instance {α : Type} [Rp α] [NoDk α] : NoDk (Option α) := ⟨fun {Γ G G' v o} h r => by
  cases o with
  | none => exact r
  | some a => exact ⟨r.1, NoDk.nodk h r.2⟩⟩
theorem frz1 {G H : Hp} {q x : Addr} (h : x ≠ q) : frzd G H [q] x = G x := if_neg fun z => h (List.mem_singleton.mp z)
theorem drp1 {G : Hp} {q x : Addr} (h : x ≠ q) : drpd G [q] x = G x := if_neg fun z => h (List.mem_singleton.mp z)
theorem drp0 {G : Hp} {q : Addr} : drpd G [q] q = none := if_pos (List.mem_singleton.mpr rfl)
theorem lkd1 {H : Hp} {q x : Addr} {ob : Addr → Obj} (h : x ≠ q) : lkd H [q] ob x = H x := if_neg fun z => h (List.mem_singleton.mp z)
/-- the growth behind such a while -/
theorem thaw_grow {B : Bs} {σ : St} {G H G' H' : Hp} {q : Addr} {o : HO} {ob : Addr → Obj} (sub : Sub G H) (hg : G q = none) (ho : H q = some o) (hd : isDk o) (g : Grow (frzd G (lkd H [q] ob) [q]) (lkd H [q] ob) G' H') : Grow G H (drpd G' [q]) (upd H' q o) := by
  refine ⟨fun a u e => ?_, fun a u e => ?_, fun a u e => ?_, fun a ha e => ?_⟩
  · have z : a ≠ q := fun z => by rw [z, hg] at e; cases e
    rw [drp1 z]; exact g.leG a u (by rw [frz1 z]; exact e)
  · by_cases z : a = q
    · subst z; rw [upd_same, ← ho]; exact e
    · rw [upd_ne z]; exact g.leH a u (by rw [lkd1 z]; exact e)
  · have z : a ≠ q := fun z => by rw [z, drp0] at e; cases e
    rw [drp1 z] at e
    rw [upd_ne z]; exact g.sub a u e
  · by_cases z : a = q
    · rw [z, drp0]; exact .inl rfl
    · rw [drp1 z]
      have t := g.thin a (by rw [lkd1 z]; exact ha) (by rw [frz1 z]; exact e)
      rw [lkd1 z] at t
      exact t
theorem xe_thawD {γ : Type} [Rp γ] [NoDk γ] {m : Option γ} (i : Nat) {α : Type} {I : Ow α} {z : α} (hi : ρ[i]? = some (.own α I z)) (hc : I.canF = true) (hdk : ∀ G H v fp, I.own Γ G H v fp z → ∃ q o, fp = [q] ∧ H q = some o ∧ isDk o ∧ Mut (some o)) (h : XE X Γ B (ρ.set i (.val I.F I.iF (I.toF z))) e m) : XE X Γ B ρ e m := imE (pe_lock h) fun σ H Q ⟨G, x, A, e, q⟩ => by
  obtain ⟨φ, h1, h3⟩ := A.slots
  obtain ⟨o', e1, v, e2, ow⟩ := h1.ok i _ hi
  obtain ⟨d, o, ef, ho, hd, mu⟩ := hdk _ _ _ _ ow
  have hg : G d = none := (h3 i d (by rw [ef]; exact List.mem_singleton.mpr rfl)).1
  refine ⟨d, o, ho, mu, fun od => ?_⟩
  have A1 := (A.freezeX hi hc h1 h3 fun _ => od).2
  rw [ef] at A1
  have eH : upd H d (.frz od o) = lkd H [d] (fun _ => od) := by
    funext y
    by_cases z : y = d
    · subst z; rw [upd_same, lkd_d (List.mem_singleton.mpr rfl) ho hd]
    · rw [upd_ne z, lkd1 z]
  rw [eH]
  refine ⟨_, x, A1, e, fun v G' H' g r => ?_⟩
  have ed := g.leH d _ (lkd_d (List.mem_singleton.mpr rfl) ho hd)
  refine ⟨ed, q v _ _ (thaw_grow (B := B) (σ := σ) A.sub hg ho hd g) (NoDk.nodk (fun y u hu hy => ?_) r)⟩
  have z : y ≠ d := fun z => by
    have := g.leG d _ (by show (if d ∈ [d] then lkd H [d] (fun _ => od) d else G d) = some (.frz od o); rw [if_pos (List.mem_singleton.mpr rfl)]; exact lkd_d (List.mem_singleton.mpr rfl) ho hd)
    rw [z, this] at hy
    cases hy
    exact hu trivial
  rw [drp1 z]; exact hy
/-- .. a list of one's own, for a plain value -/
theorem xe_thawL {γ : Type} [At1 γ] {m : Option γ} (i : Nat) {α : Type} {I : Ow α} {z : α} (hi : ρ[i]? = some (.own α I z)) (hc : I.canF = true) (hdk : ∀ G H v fp, I.own Γ G H v fp z → ∃ q o, fp = [q] ∧ H q = some o ∧ ¬ isDk o) (h : XE X Γ B (ρ.set i (.val I.F I.iF (I.toF z))) e m) : XE X Γ B ρ e m := imE h fun σ H Q ⟨G, x, A, e, q⟩ => by
  obtain ⟨φ, h1, h3⟩ := A.slots
  obtain ⟨o', e1, v, e2, ow⟩ := h1.ok i _ hi
  obtain ⟨d, o, ef, ho, hd⟩ := hdk _ _ _ _ ow
  obtain ⟨l1, A1⟩ := A.freezeX hi hc h1 h3 fun _ => default
  rw [ef] at A1 l1
  have eH : lkd H [d] (fun _ => default) = H := by
    funext y
    by_cases z : y = d
    · subst z; rw [lkd_nd ho hd, ho]
    · rw [lkd1 z]
  rw [eH] at A1 l1
  exact ⟨_, x, A1, e, fun v G' H' g r => q v G H' ⟨.refl _, g.leH, fun a o q => g.sub a o (g.leG a o (l1 a o q)), fun _ _ q => .inl q⟩ (rep1 r)⟩
theorem ol_one {α : Type} [Rp α] {xs : List α} : ∀ G H v fp, Ow.own Γ G H v fp (OL.mk xs) → ∃ q o, fp = [q] ∧ H q = some o ∧ ¬ isDk o := fun _ _ _ _ ⟨a, vs, _, h2, h3, _⟩ => ⟨a, _, h2, h3, fun q => q⟩
theorem ok_one {κ α : Type} [K1 κ] [Rp α] {xs : List (κ × α)} : ∀ G H v fp, Ow.own Γ G H v fp (OK.mk xs) → ∃ q o, fp = [q] ∧ H q = some o ∧ isDk o ∧ Mut (some o) := fun _ _ _ _ ⟨a, vs, _, h2, h3, _⟩ => ⟨a, _, h2, h3, trivial, trivial⟩
theorem ot_one {κ α : Type} [KT κ] [Rp α] {xs : List (κ × α)} : ∀ G H v fp, Ow.own Γ G H v fp (OT.mk xs) → ∃ q o, fp = [q] ∧ H q = some o ∧ isDk o ∧ Mut (some o) := fun _ _ _ _ ⟨a, vs, _, h2, h3, _⟩ => ⟨a, _, h2, h3, trivial, trivial⟩

/-! ### two operands -/
/-- an operation on two values: a value that is there, or new things -/
def Op2 (Γ : Gm) (r : R2) (f : α → β → Option γ) : Prop := ∀ (G H : Hp) (x y : V) (p : α) (q : β) (z : γ), Sub G H → rep Γ G x p → rep Γ G y q → f p q = some z → ∀ Q : VK, (∀ v G' H', Grow G H G' H' → rep Γ G' v z → Q v H') → r x y H Q
theorem sim2 {r : R2} {f : α → β → Option γ} (hf : Op2 Γ r f) {σ : St} {H : Hp} {Q : VK} (h : cE Γ B ρ (b2 ma mb f) σ H Q) : tOp r (cE Γ B ρ ma) (cE Γ B ρ mb) σ H Q := by
  obtain ⟨G, z, A, e, q⟩ := h
  cases ma with
  | none => cases e
  | some x =>
    cases mb with
    | none => cases e
    | some y =>
      refine ⟨G, x, A, rfl, fun v1 G1 H1 g1 r1 => ⟨G1, y, A.grow g1, rfl, fun v2 G2 H2 g2 r2 => ?_⟩⟩
      exact hf G2 H2 v1 v2 x y z g2.sub (Rp.mono g2.leG r1) r2 e _ fun v G' H' g r => q v G' H' ((g1.trans g2).trans g) r
theorem xe_op2 {op : Operator} {r : R2} {f : α → β → Option γ} (ho : OpR X (binaryOp op) r) (hf : Op2 Γ r f) (ha : XE X Γ B ρ a ma) (hb : XE X Γ B ρ b mb) : XE X Γ B ρ (.BinOp a op b pos) (b2 ma mb f) :=
  imE (pe_op ho ha hb) fun _ _ _ h => sim2 hf h
theorem xe_cmp2 {op : CmpOp} {r : R2} {f : α → β → Option γ} (ho : OpR X (compareOp op) r) (hf : Op2 Γ r f) (ha : XE X Γ B ρ a ma) (hb : XE X Γ B ρ b mb) (hm : behindInMarks op b = false) : XE X Γ B ρ (.Compare a [op] [b] pos) (b2 ma mb f) :=
  imE (pe_cmpR ho ha hb hm) fun _ _ _ h => sim2 hf h
/-- a value that the heap has no part in -/
theorem op2_pure {α β γ : Type} [At1 α] [At1 β] [At1 γ] {r : R2} {f : α → β → Option γ} (h : ∀ (p : α) (q : β) (z : γ) (H : Hp) (Q : VK), f p q = some z → Q (toV z) H → r (toV p) (toV q) H Q) : Op2 Γ r f :=
  fun G H x y p q z s h1 h2 e Q k => by
    rw [rep1 h1, rep1 h2]
    exact h p q z H Q e (k _ G H (.refl s) rfl)
theorem o_add : Op2 Γ (rI0 fun i j => .int (i + j)) fun (i j : Int) => some (i + j) := op2_pure fun p q z H Q e k => ⟨p, q, rfl, rfl, by cases e; exact k⟩
theorem o_sub : Op2 Γ (rI0 fun i j => .int (i - j)) fun (i j : Int) => some (i - j) := op2_pure fun p q z H Q e k => ⟨p, q, rfl, rfl, by cases e; exact k⟩
theorem o_lt : Op2 Γ (rI0 fun i j => .bl (decide (i < j))) fun (i j : Int) => some (decide (i < j)) := op2_pure fun p q z H Q e k => ⟨p, q, rfl, rfl, by cases e; exact k⟩
theorem o_le : Op2 Γ (rI0 fun i j => .bl (decide (i ≤ j))) fun (i j : Int) => some (decide (i ≤ j)) := op2_pure fun p q z H Q e k => ⟨p, q, rfl, rfl, by cases e; exact k⟩
theorem o_gt : Op2 Γ (rI0 fun i j => .bl (decide (j < i))) fun (i j : Int) => some (decide (j < i)) := op2_pure fun p q z H Q e k => ⟨p, q, rfl, rfl, by cases e; exact k⟩
theorem o_ge : Op2 Γ (rI0 fun i j => .bl (decide (j ≤ i))) fun (i j : Int) => some (decide (j ≤ i)) := op2_pure fun p q z H Q e k => ⟨p, q, rfl, rfl, by cases e; exact k⟩
/-- % and // by a positive number -/
@[irreducible] def pmod (i j : Int) : Option Int := if 0 < j then some (i % j) else none
@[irreducible] def pdiv (i j : Int) : Option Int := if 0 < j ∧ j.natAbs < 1073741824 then some (i / j) else none
@[irreducible] def pmul (i j : Int) : Option Int := if i.natAbs < 2 ^ 64 ∨ j.natAbs < 2 ^ 64 then some (i * j) else none
theorem o_mod : Op2 Γ (rI (fun _ j => 0 < j) fun i j => .int (i % j)) pmod := op2_pure fun p q z H Q e k => by
  unfold pmod at e
  obtain ⟨h, e⟩ := ite_some e
  exact ⟨p, q, rfl, rfl, h, by subst e; exact k⟩
theorem o_div : Op2 Γ (rI CDiv fun i j => .int (i / j)) pdiv := op2_pure fun p q z H Q e k => by
  unfold pdiv at e
  obtain ⟨h, e⟩ := ite_some e
  exact ⟨p, q, rfl, rfl, ⟨h.1, by omega⟩, by subst e; exact k⟩
theorem o_mul : Op2 Γ (rI CMul fun i j => .int (i * j)) pmul := op2_pure fun p q z H Q e k => by
  unfold pmul at e
  obtain ⟨h, e⟩ := ite_some e
  exact ⟨p, q, rfl, rfl, h.imp (fun h => by omega) (fun h => by omega), by subst e; exact k⟩
/-- == of plain values of one kind -/
theorem scal_int (i j : Int) : scal (.int i) (.int j) = true := rfl
theorem o_eqI : Op2 Γ rEq fun (i j : Int) => some (decide (i = j)) := op2_pure fun p q z H Q e k => ⟨rfl, by cases e; first | (show Q (V.bl (decide (V.int p = V.int q))) H; rw [dec_int, Bool.beq_eq_decide_eq]; exact k) | (show Q (V.bl (!decide (V.int p = V.int q))) H; rw [dec_int, Bool.beq_eq_decide_eq]; exact k)⟩
theorem o_neI : Op2 Γ rNe fun (i j : Int) => some (!decide (i = j)) := op2_pure fun p q z H Q e k => ⟨rfl, by cases e; first | (show Q (V.bl (decide (V.int p = V.int q))) H; rw [dec_int, Bool.beq_eq_decide_eq]; exact k) | (show Q (V.bl (!decide (V.int p = V.int q))) H; rw [dec_int, Bool.beq_eq_decide_eq]; exact k)⟩
theorem o_eqB : Op2 Γ rEq fun (i j : Bool) => some (decide (i = j)) := op2_pure fun p q z H Q e k => ⟨rfl, by cases e; first | (show Q (V.bl (decide (V.bl p = V.bl q))) H; rw [dec_bl, Bool.beq_eq_decide_eq]; exact k) | (show Q (V.bl (!decide (V.bl p = V.bl q))) H; rw [dec_bl, Bool.beq_eq_decide_eq]; exact k)⟩
theorem o_neB : Op2 Γ rNe fun (i j : Bool) => some (!decide (i = j)) := op2_pure fun p q z H Q e k => ⟨rfl, by cases e; first | (show Q (V.bl (decide (V.bl p = V.bl q))) H; rw [dec_bl, Bool.beq_eq_decide_eq]; exact k) | (show Q (V.bl (!decide (V.bl p = V.bl q))) H; rw [dec_bl, Bool.beq_eq_decide_eq]; exact k)⟩
theorem decTt (p q : Tt) : decide (V.str p.s = V.str q.s) = decide (p = q) := decide_eq_decide.mpr ⟨fun h => Tt.ext' (V.str.inj h), fun h => by rw [h]⟩
theorem o_eqS : Op2 Γ rEq fun (i j : Tt) => some (decide (i = j)) := op2_pure fun p q z H Q e k => ⟨rfl, by cases e; show Q (V.bl (decide (V.str p.s = V.str q.s))) H; rw [decTt]; exact k⟩
theorem o_neS : Op2 Γ rNe fun (i j : Tt) => some (!decide (i = j)) := op2_pure fun p q z H Q e k => ⟨rfl, by cases e; show Q (V.bl (!decide (V.str p.s = V.str q.s))) H; rw [decTt]; exact k⟩
/-- is None -/
theorem xe_isN {op : Option α} {m : Option (Option α)} {j : Nat} {p2 : Pos} (h : XE X Γ B ρ a m) : XE X Γ B ρ (.Compare a [.Is] [.Constant .none j p2] pos) (m.bind fun o => some o.isNone) := imE (pe_cmpR op_isN h pe_non (nomark _)) fun σ H Q ⟨G, z, A, e, q⟩ => by
  cases m with
  | none => cases e
  | some o =>
    refine ⟨G, o, A, rfl, fun v G1 H1 g1 r => ⟨rfl, ?_⟩⟩
    have e' : o.isNone = z := Option.some.inj e
    subst e'
    refine q _ G1 H1 g1 ?_
    show V.bl (decide (v = .non)) = V.bl o.isNone
    cases o with
    | none => rw [show v = .non from r]; rfl
    | some y => rw [decide_eq_false r.1]; rfl
theorem xe_notN {op : Option α} {m : Option (Option α)} {j : Nat} {p2 : Pos} (h : XE X Γ B ρ a m) : XE X Γ B ρ (.Compare a [.IsNot] [.Constant .none j p2] pos) (m.bind fun o => some o.isSome) := imE (pe_cmpR op_notN h pe_non (nomark _)) fun σ H Q ⟨G, z, A, e, q⟩ => by
  cases m with
  | none => cases e
  | some o =>
    refine ⟨G, o, A, rfl, fun v G1 H1 g1 r => ⟨rfl, ?_⟩⟩
    have e' : o.isSome = z := Option.some.inj e
    subst e'
    refine q _ G1 H1 g1 ?_
    show V.bl (!decide (v = .non)) = V.bl o.isSome
    cases o with
    | none => rw [show v = .non from r]; rfl
    | some y => rw [decide_eq_false r.1]; rfl
end
end Sim

set_option Elab.async false
set_option autoImplicit false
set_option linter.all false
set_option maxRecDepth 100000
set_option maxHeartbeats 1000000
namespace Sim
open PySem L2
open Rp (rep)
open At1 (toV)
open K1 (key)
open KT (keys)
open Ow (own)
open RpA (repA)

/-! ### exceptions -/
/-- the class's number among the program's own, the line of the one class that has a line -/
structure Er where
  cls : Nat
  line : Int := 0
/-- how it lies: the line stands in its own dict -/
def IsEr (Γ : Gm) (e : Er) (cls : Value) (d : Option Addr) (H : Hp) : Prop := cls = .ref (Γ.C e.cls) ∧ if e.cls = 9 then ∃ dd, d = some dd ∧ H dd = some (.xd [("line", .int e.line)]) else d = none

/-! ### what a block comes to -/
inductive Fl (S L β C : Type) : Type
  | nx (s : S) | bk (l : L) | ct (l : L) | ret (b : β) (c : C) | err (e : Er) (c : C)
/-- what a block may do but go on -/
structure Kt (L β C : Type) where
  stb : L → Sto
  stc : L → Sto
  str : C → Sto
  fr : Bool
  W : WX
def Fresh (H : Hp) (v : V) : Prop := ∀ p, v = .ref p → H p = none
def Post (Γ : Gm) (B : Bs) {L β C : Type} [Rp β] (F : Kt L β C) {S : Type} (sto : S → Sto) (D : Ends) : Fl S L β C → Prop
  | .nx s => ∀ G' H' σ', At Γ B (sto s) G' H' σ' → D.nx σ' H'
  | .bk l => ∀ G' H' σ', At Γ B (F.stb l) G' H' σ' → D.bk σ' H'
  | .ct l => ∀ G' H' σ', At Γ B (F.stc l) G' H' σ' → D.ct σ' H'
  | .ret b c => ∀ v G' H' σ', At Γ B (F.str c) G' H' σ' → rep Γ G' v b → (F.fr = true → Fresh B.H v) → D.rt v H'
  | .err e c => ∀ cls d G' H' σ', At Γ B (F.str c) G' H' σ' → IsEr Γ e cls d H' → F.W cls d σ' H'
/-- a block that only goes on -/
def cP (Γ : Gm) (B : Bs) (ρ : Sto) {S : Type} (m : Option S) (sto : S → Sto) : TS := fun D σ H => ∃ G s, At Γ B ρ G H σ ∧ m = some s ∧ ∀ G' H' σ', At Γ B (sto s) G' H' σ' → D.nx σ' H'
/-- any block -/
def cS (Γ : Gm) (B : Bs) {L β C : Type} [Rp β] (F : Kt L β C) (ρ : Sto) {S : Type} (m : Option (Fl S L β C)) (sto : S → Sto) : TS := fun D σ H => ∃ G r, At Γ B ρ G H σ ∧ m = some r ∧ Post Γ B F sto D r
abbrev XP1 (X : Cx) (Γ : Gm) (B : Bs) (ρ : Sto) (st : Stmt) {S : Type} (m : Option S) (sto : S → Sto) : Prop := PS X st (cP Γ B ρ m sto)
abbrev XP (X : Cx) (Γ : Gm) (B : Bs) (ρ : Sto) (st : List Stmt) {S : Type} (m : Option S) (sto : S → Sto) : Prop := PSs X st (cP Γ B ρ m sto)
abbrev XB1 (X : Cx) (Γ : Gm) (B : Bs) {L β C : Type} [Rp β] (F : Kt L β C) (ρ : Sto) (st : Stmt) {S : Type} (m : Option (Fl S L β C)) (sto : S → Sto) : Prop := PS X st (cS Γ B F ρ m sto)
abbrev XB (X : Cx) (Γ : Gm) (B : Bs) {L β C : Type} [Rp β] (F : Kt L β C) (ρ : Sto) (st : List Stmt) {S : Type} (m : Option (Fl S L β C)) (sto : S → Sto) : Prop := PSs X st (cS Γ B F ρ m sto)

/-- where a def's body stands -/
structure Dok (X : Cx) (Γ : Gm) (B : Bs) (N : List Str) (sc : Scope) (k : Nat) (fx : List Nat) (W : WX) (M : List Addr) : Prop extends Cok X Γ N sc k where
  own : PassesOwn (model X.prog X.w) X.A X.env X.xe
  hfn : ∀ x, X.fn x = true
  tk : Takes X W
  hfx : B.fx = fx
  hM : B.M = M
  stk : X.stack = X.env :: X.outer
  frm : X.env.frame = some X.env.locals

section
variable {X : Cx} {Γ : Gm} {B : Bs} {L β C : Type} [Rp β] {F : Kt L β C} {ρ ρ' : Sto} {N : List Str} {sc : Scope} {k : Nat} {fx : List Nat} {W : WX} {M : List Addr} {pos : Pos} {e a b : Expr} {st : Stmt} {sts rest : List Stmt} {S S1 S2 : Type} {m : Option S} {sto : S → Sto}
variable {α : Type} [Rp α]

/-! ### tests -/
theorem xt_val {m : Option Bool} (h : XE X Γ B ρ e m) (he : ∀ whole, isTrue e X.env whole = (do let v ← whole; standAt e.pos; holding [v] (truthy v)) := by intro _; rfl) : XT X Γ B ρ e m := imT (pt_val h he) fun σ H Q ⟨G, z, A, e, q⟩ =>
  ⟨G, z, A, e, fun v G' H' g r => ⟨z, rep1 r, q G' H' g⟩⟩
theorem xt_cmp2 {α β : Type} [Rp α] [Rp β] {ma : Option α} {mb : Option β} {op : CmpOp} {r : R2} {f : α → β → Option Bool} (ho : OpR X (compareOp op) r) (hf : Op2 Γ r f) (ha : XE X Γ B ρ a ma) (hb : XE X Γ B ρ b mb) (hm : behindInMarks op b = false) : XT X Γ B ρ (.Compare a [op] [b] pos) (b2 ma mb f) :=
  imT (pt_cmpR ho ha hb hm) fun σ H Q ⟨G, z, A, e, q⟩ => sim2 hf ⟨G, z, A, e, fun v G' H' g r => ⟨z, rep1 r, q G' H' g⟩⟩
theorem xt_not {m : Option Bool} (h : XT X Γ B ρ a m) : XT X Γ B ρ (.UnaryOp .Not a pos) (m.bind fun x => some (!x)) := imT (pt_not h) fun σ H Q ⟨G, z, A, e, q⟩ => by
  cases m with
  | none => cases e
  | some x =>
    cases e
    exact ⟨G, x, A, rfl, q⟩
theorem xw_and1 {m : Option Bool} (h : XT X Γ B ρ a m) : XW X Γ B ρ (.BoolOp .And [a] pos) m := pw_and1 h
theorem xw_or1 {m : Option Bool} (h : XT X Γ B ρ a m) : XW X Γ B ρ (.BoolOp .Or [a] pos) m := pw_or1 h
def andM (a b : Option Bool) : Option Bool := a.bind fun x => if x = true then b else some false
def orM (a b : Option Bool) : Option Bool := a.bind fun x => if x = true then some true else b
theorem xw_and {ma mb : Option Bool} {es : List Expr} (ha : XT X Γ B ρ a ma) (hb : XW X Γ B ρ (.BoolOp .And (b :: es) pos) mb) : XW X Γ B ρ (.BoolOp .And (a :: b :: es) pos) (andM ma mb) := imW (pw_and ha hb) fun σ H Q ⟨G, z, A, e, q⟩ => by
  cases ma with
  | none => cases e
  | some x =>
    refine ⟨G, x, A, rfl, fun G1 H1 g1 => ?_⟩
    cases x with
    | true => exact ⟨G1, z, A.grow g1, e, fun G' H' g => q G' H' (g1.trans g)⟩
    | false =>
      cases e
      exact q G1 H1 g1
theorem xw_or {ma mb : Option Bool} {es : List Expr} (ha : XT X Γ B ρ a ma) (hb : XW X Γ B ρ (.BoolOp .Or (b :: es) pos) mb) : XW X Γ B ρ (.BoolOp .Or (a :: b :: es) pos) (orM ma mb) := imW (pw_or ha hb) fun σ H Q ⟨G, z, A, e, q⟩ => by
  cases ma with
  | none => cases e
  | some x =>
    refine ⟨G, x, A, rfl, fun G1 H1 g1 => ?_⟩
    cases x with
    | false => exact ⟨G1, z, A.grow g1, e, fun G' H' g => q G' H' (g1.trans g)⟩
    | true =>
      cases e
      exact q G1 H1 g1
theorem xt_w {m : Option Bool} (h : XW X Γ B ρ e m) : XT X Γ B ρ e m := PW.pt h
theorem xt_eq {m m' : Option Bool} (h : XT X Γ B ρ e m) (q : m = m') : XT X Γ B ρ e m' := q ▸ h
/-- .. as values -/
theorem xe_and1 {op : BoolOp} {m : Option Bool} (h : XE X Γ B ρ a m) : XE X Γ B ρ (.BoolOp op [a] pos) m := pe_one h
theorem xe_and {ma mb : Option Bool} {es : List Expr} (ha : XE X Γ B ρ a ma) (hb : XE X Γ B ρ (.BoolOp .And (b :: es) pos) mb) : XE X Γ B ρ (.BoolOp .And (a :: b :: es) pos) (andM ma mb) := imE (pe_and ha hb) fun σ H Q ⟨G, z, A, e, q⟩ => by
  cases ma with
  | none => cases e
  | some x =>
    refine ⟨G, x, A, rfl, fun v G1 H1 g1 r1 => ⟨x, rep1 r1, ?_⟩⟩
    cases x with
    | true => exact ⟨G1, z, A.grow g1, e, fun v G' H' g r => q v G' H' (g1.trans g) r⟩
    | false =>
      cases e
      exact q _ G1 H1 g1 rfl
theorem xe_or {ma mb : Option Bool} {es : List Expr} (ha : XE X Γ B ρ a ma) (hb : XE X Γ B ρ (.BoolOp .Or (b :: es) pos) mb) : XE X Γ B ρ (.BoolOp .Or (a :: b :: es) pos) (orM ma mb) := imE (pe_or ha hb) fun σ H Q ⟨G, z, A, e, q⟩ => by
  cases ma with
  | none => cases e
  | some x =>
    refine ⟨G, x, A, rfl, fun v G1 H1 g1 r1 => ⟨x, rep1 r1, ?_⟩⟩
    cases x with
    | false => exact ⟨G1, z, A.grow g1, e, fun v G' H' g r => q v G' H' (g1.trans g) r⟩
    | true =>
      cases e
      exact q _ G1 H1 g1 rfl
theorem xe_not {m : Option Bool} (h : XE X Γ B ρ a m) : XE X Γ B ρ (.UnaryOp .Not a pos) (m.bind fun x => some (!x)) := imE (pe_not h) fun σ H Q ⟨G, z, A, e, q⟩ => by
  cases m with
  | none => cases e
  | some x =>
    cases e
    exact ⟨G, x, A, rfl, fun v G1 H1 g1 r1 => ⟨x, rep1 r1, q _ G1 H1 g1 rfl⟩⟩
theorem xe_ifExp {α : Type} [Rp α] {c : Expr} {mc : Option Bool} {ma mb : Option α} (hc : XT X Γ B ρ c mc) (ha : XE X Γ B ρ a ma) (hb : XE X Γ B ρ b mb) : XE X Γ B ρ (.IfExp c a b pos) (mc.bind fun t => if t = true then ma else mb) := imE (pe_ifExp hc ha hb) fun σ H Q ⟨G, z, A, e, q⟩ => by
  cases mc with
  | none => cases e
  | some x =>
    refine ⟨G, x, A, rfl, fun G1 H1 g1 => ?_⟩
    cases x with
    | false => exact ⟨G1, z, A.grow g1, e, fun v G' H' g r => q v G' H' (g1.trans g) r⟩
    | true => exact ⟨G1, z, A.grow g1, e, fun v G' H' g r => q v G' H' (g1.trans g) r⟩
/-- a < b < c of ints -/
theorem xe_chain {op op' : CmpOp} {p p' : Int → Int → Bool} {c : Expr} {ma mb mc : Option Int} (ho : OpR X (compareOp op) (rI0 fun i j => .bl (p i j))) (ho' : OpR X (compareOp op') (rI0 fun i j => .bl (p' i j))) (ha : XE X Γ B ρ a ma) (hb : XE X Γ B ρ b mb) (hc : XE X Γ B ρ c mc)
    (h1 : lastMarks [op, op'] [b, c] = false := by rfl) : XE X Γ B ρ (.Compare a [op, op'] [b, c] pos) (ma.bind fun x => mb.bind fun y => if p x y = true then mc.bind fun z => some (p' y z) else some false) := imE (pe_chain ho ho' ha hb hc h1) fun σ H Q ⟨G, z, A, e, q⟩ => by
  cases ma with
  | none => cases e
  | some x =>
    cases mb with
    | none => cases e
    | some y =>
      refine ⟨G, x, A, rfl, fun v1 G1 H1 g1 r1 => ⟨G1, y, A.grow g1, rfl, fun v2 G2 H2 g2 r2 => ⟨x, y, rep1 r1, rep1 r2, p x y, rfl, ?_⟩⟩⟩
      have e : (if p x y = true then mc.bind (fun z => some (p' y z)) else some false) = some z := e
      cases hp : p x y with
      | true =>
        rw [hp, if_pos rfl] at e
        rw [if_pos rfl]
        cases mc with
        | none => cases e
        | some w =>
          cases e
          exact ⟨G2, w, A.grow (g1.trans g2), rfl, fun v3 G3 H3 g3 r3 => ⟨y, w, rep1 r2, rep1 r3, q _ G3 H3 ((g1.trans g2).trans g3) rfl⟩⟩
      | false =>
        rw [hp, if_neg Bool.false_ne_true] at e
        rw [if_neg Bool.false_ne_true]
        cases e
        exact q _ G2 H2 (g1.trans g2) rfl

/-! ### blocks -/
theorem xp_nil : XP X Γ B ρ [] (some ()) (fun _ => ρ) := imB pss_nil fun D σ H ⟨G, s, A, e, q⟩ => q G H σ A
theorem xp_seq {m1 : Option S1} {sto1 : S1 → Sto} {m2 : S1 → Option S2} {sto2 : S2 → Sto} (h1 : XP1 X Γ B ρ st m1 sto1) (h2 : ∀ s, XP X Γ B (sto1 s) rest (m2 s) sto2) : XP X Γ B ρ (st :: rest) (m1.bind m2) sto2 := imB (pss_cons h1 (allB h2)) fun D σ H ⟨G, s, A, e, q⟩ => by
  cases m1 with
  | none => cases e
  | some s1 => exact ⟨G, s1, A, rfl, fun G' H' σ' A' => ⟨s1, G', s, A', e, q⟩⟩
theorem xp_one (h : XP1 X Γ B ρ st m sto) : XP X Γ B ρ [st] m sto := pss_one h
theorem xb_pseq {m1 : Option S1} {sto1 : S1 → Sto} {m2 : S1 → Option (Fl S2 L β C)} {sto2 : S2 → Sto} (h1 : XP1 X Γ B ρ st m1 sto1) (h2 : ∀ s, XB X Γ B F (sto1 s) rest (m2 s) sto2) : XB X Γ B F ρ (st :: rest) (m1.bind m2) sto2 := imB (pss_cons h1 (allB h2)) fun D σ H ⟨G, s, A, e, q⟩ => by
  cases m1 with
  | none => cases e
  | some s1 => exact ⟨G, s1, A, rfl, fun G' H' σ' A' => ⟨s1, G', s, A', e, by cases s <;> exact q⟩⟩
/-- on, or what else it came to -/
def flb {S1 S2 L β C : Type} (m1 : Option (Fl S1 L β C)) (m2 : S1 → Option (Fl S2 L β C)) : Option (Fl S2 L β C) := m1.bind fun r => match r with
  | .nx s => m2 s
  | .bk l => some (.bk l)
  | .ct l => some (.ct l)
  | .ret b c => some (.ret b c)
  | .err e c => some (.err e c)
theorem xb_seq {m1 : Option (Fl S1 L β C)} {sto1 : S1 → Sto} {m2 : S1 → Option (Fl S2 L β C)} {sto2 : S2 → Sto} (h1 : XB1 X Γ B F ρ st m1 sto1) (h2 : ∀ s, XB X Γ B F (sto1 s) rest (m2 s) sto2) : XB X Γ B F ρ (st :: rest) (flb m1 m2) sto2 := imB (pss_cons h1 (allB h2)) fun D σ H ⟨G, s, A, e, q⟩ => by
  cases m1 with
  | none => cases e
  | some r =>
    refine ⟨G, r, A, rfl, ?_⟩
    cases r with
    | nx s1 => exact fun G' H' σ' A' => ⟨s1, G', s, A', e, by cases s <;> exact q⟩
    | bk l => cases e; exact q
    | ct l => cases e; exact q
    | ret b c => cases e; exact q
    | err b c => cases e; exact q
theorem xb_one {m : Option (Fl S L β C)} (h : XB1 X Γ B F ρ st m sto) : XB X Γ B F ρ [st] m sto := pss_one h
/-- a block that only goes on, as any block -/
theorem xb_of (h : XP X Γ B ρ sts m sto) : XB X Γ B F ρ sts (m.bind fun s => some (.nx s)) sto := imB h fun D σ H ⟨G, s, A, e, q⟩ => by
  cases m with
  | none => cases e
  | some s1 =>
    cases e
    exact ⟨G, s1, A, rfl, q⟩
theorem xb1_of (h : XP1 X Γ B ρ st m sto) : XB1 X Γ B F ρ st (m.bind fun s => some (.nx s)) sto := imS h fun D σ H ⟨G, s, A, e, q⟩ => by
  cases m with
  | none => cases e
  | some s1 =>
    cases e
    exact ⟨G, s1, A, rfl, q⟩
/-- what is of no more interest is given up, or frozen -/
theorem xp_pre (ops : List (Nat × Bool)) (h : XP X Γ B ρ' sts m sto) (e : Sim.wks ρ ops = ρ') : XP X Γ B ρ sts m sto := imB (lkB h) fun D σ H ⟨G, s, A, e1, q⟩ => (A.wks ops).mono fun H' ⟨G', l, A'⟩ => ⟨G', s, e ▸ A', e1, q⟩
theorem xb_pre {m : Option (Fl S L β C)} (ops : List (Nat × Bool)) (h : XB X Γ B F ρ' sts m sto) (e : Sim.wks ρ ops = ρ') : XB X Γ B F ρ sts m sto := imB (lkB h) fun D σ H ⟨G, s, A, e1, q⟩ => (A.wks ops).mono fun H' ⟨G', l, A'⟩ => ⟨G', s, e ▸ A', e1, q⟩
theorem xp1_pre (ops : List (Nat × Bool)) (h : XP1 X Γ B ρ' st m sto) (e : Sim.wks ρ ops = ρ') : XP1 X Γ B ρ st m sto := imS (lkS h) fun D σ H ⟨G, s, A, e1, q⟩ => (A.wks ops).mono fun H' ⟨G', l, A'⟩ => ⟨G', s, e ▸ A', e1, q⟩
theorem xb1_pre {m : Option (Fl S L β C)} (ops : List (Nat × Bool)) (h : XB1 X Γ B F ρ' st m sto) (e : Sim.wks ρ ops = ρ') : XB1 X Γ B F ρ st m sto := imS (lkS h) fun D σ H ⟨G, s, A, e1, q⟩ => (A.wks ops).mono fun H' ⟨G', l, A'⟩ => ⟨G', s, e ▸ A', e1, q⟩
/-- .. behind -/
theorem xp_wk {sto' : S → Sto} (ops : List (Nat × Bool)) (h : XP X Γ B ρ sts m sto) (e : ∀ s, Sim.wks (sto s) ops = sto' s) : XP X Γ B ρ sts m sto' := imB (lkB' h) fun D σ H ⟨G, s, A, e1, q⟩ => ⟨G, s, A, e1, fun G' H' σ' A' => (A'.wks ops).mono fun H2 ⟨G2, l, A2⟩ => q G2 H2 σ' (e s ▸ A2)⟩
theorem xp1_wk {sto' : S → Sto} (ops : List (Nat × Bool)) (h : XP1 X Γ B ρ st m sto) (e : ∀ s, Sim.wks (sto s) ops = sto' s) : XP1 X Γ B ρ st m sto' := imS (lkS' h) fun D σ H ⟨G, s, A, e1, q⟩ => ⟨G, s, A, e1, fun G' H' σ' A' => (A'.wks ops).mono fun H2 ⟨G2, l, A2⟩ => q G2 H2 σ' (e s ▸ A2)⟩
theorem xb_wk {m : Option (Fl S L β C)} {sto' : S → Sto} (ops : List (Nat × Bool)) (h : XB X Γ B F ρ sts m sto) (e : ∀ s, Sim.wks (sto s) ops = sto' s) : XB X Γ B F ρ sts m sto' := imB (lkB' h) fun D σ H ⟨G, s, A, e1, q⟩ => ⟨G, s, A, e1, by
  cases s with
  | nx s => exact fun G' H' σ' A' => (A'.wks ops).mono fun H2 ⟨G2, l, A2⟩ => q G2 H2 σ' (e s ▸ A2)
  | bk l => exact fun G' H' σ' A' => .done (q G' H' σ' A')
  | ct l => exact fun G' H' σ' A' => .done (q G' H' σ' A')
  | ret b c => exact fun v G' H' σ' A' r f => .done (q v G' H' σ' A' r f)
  | err b c => exact q⟩
/-- the outcome told in another way -/
theorem xp_map (f : S → S2) {sto2 : S2 → Sto} (h : XP X Γ B ρ sts m sto) (e : ∀ s, sto2 (f s) = sto s) : XP X Γ B ρ sts (m.bind fun s => some (f s)) sto2 := imB h fun D σ H ⟨G, s, A, e1, q⟩ => by
  cases m with
  | none => cases e1
  | some s1 =>
    cases e1
    exact ⟨G, s1, A, rfl, fun G' H' σ' A' => q G' H' σ' (by rw [e]; exact A')⟩

/-! ### statements -/
theorem xp_pass : XP1 X Γ B ρ (.Pass pos) (some ()) (fun _ => ρ) := imS ps_pass fun D σ H ⟨G, s, A, e, q⟩ => q G H σ A
theorem xp_set (d : Dok X Γ B N sc k fx W M) {α : Type} [I : Rp α] {m : Option α} {x : Str} (i : Nat) {p' : Pos} (he : XE X Γ B ρ e m) (hi : N[i]? = some x) (hx : Loc sc x) (hρ : Nat.ble (i + 1) ρ.length = true := by rfl) (hf : fx.contains i = false := by rfl) (hs : swapsWith e (some (.Name x p')) pos.line X.env = pure false := by rfl) :
    XP1 X Γ B ρ (.Assign [.Name x p'] e pos) m (fun z => ρ.set i (vl z)) := imS (ps_set (i := i) (by rw [d.hN]; exact d.nd) (by rw [d.hN]; exact hi) (by rw [d.hsc]; exact hx) he hs (.inl (d.hfn x))) fun D σ H ⟨G, s, A, e, q⟩ =>
  ⟨G, s, A, e, fun v G' H' g r => q G' H' _ ((A.grow g).setV (Nat.le_of_ble_eq_true hρ) r fun hm => by rw [d.hfx] at hm; rw [List.contains_iff_mem.mpr hm] at hf; cases hf)⟩
theorem xb_ret {m : Option β} {c : C} (he : XE X Γ B ρ e m) (hc : F.str c = ρ') (ops : List (Nat × Bool)) (hw : Sim.wks ρ ops = ρ') (hfr : F.fr = false) : XB1 X Γ B F ρ (.Return (some e) pos) (S := S) (m.bind fun b => some (.ret b c)) sto := imS (lkS' (ps_ret he)) fun D σ H ⟨G, s, A, e, q⟩ => by
  cases m with
  | none => cases e
  | some b =>
    cases e
    exact ⟨G, b, A, rfl, fun v G' H' g r => ((A.grow g).wks ops).mono fun H2 ⟨G2, l2, A2⟩ => q v G2 H2 σ (by rw [hc, ← hw]; exact A2) (Rp.mono l2 r) fun z => by rw [hfr] at z; cases z⟩
theorem xp_if {c : Expr} {mc : Option Bool} {m1 m2 : Option S} (hc : XT X Γ B ρ c mc) (h1 : XP X Γ B ρ sts m1 sto) (h2 : XP X Γ B ρ rest m2 sto) : XP1 X Γ B ρ (.If c sts rest pos) (mc.bind fun t => if t = true then m1 else m2) sto := imS (ps_if hc h1 h2) fun D σ H ⟨G, s, A, e, q⟩ => by
  cases mc with
  | none => cases e
  | some x =>
    refine ⟨G, x, A, rfl, fun G1 H1 g1 => ?_⟩
    cases x with
    | true => exact ⟨G1, s, A.grow g1, e, q⟩
    | false => exact ⟨G1, s, A.grow g1, e, q⟩
theorem xb_if {c : Expr} {mc : Option Bool} {m1 m2 : Option (Fl S L β C)} (hc : XT X Γ B ρ c mc) (h1 : XB X Γ B F ρ sts m1 sto) (h2 : XB X Γ B F ρ rest m2 sto) : XB1 X Γ B F ρ (.If c sts rest pos) (mc.bind fun t => if t = true then m1 else m2) sto := imS (ps_if hc h1 h2) fun D σ H ⟨G, s, A, e, q⟩ => by
  cases mc with
  | none => cases e
  | some x =>
    refine ⟨G, x, A, rfl, fun G1 H1 g1 => ?_⟩
    cases x with
    | true => exact ⟨G1, s, A.grow g1, e, by cases s <;> exact q⟩
    | false => exact ⟨G1, s, A.grow g1, e, by cases s <;> exact q⟩
theorem xb_break {l : L} (h : F.stb l = ρ) : XB1 X Γ B F ρ (.Break pos) (S := S) (some (.bk l)) sto := imS ps_break fun D σ H ⟨G, s, A, e, q⟩ => by
  cases e
  exact q G H σ (h ▸ A)
theorem xb_continue {l : L} (h : F.stc l = ρ) : XB1 X Γ B F ρ (.Continue pos) (S := S) (some (.ct l)) sto := imS ps_continue fun D σ H ⟨G, s, A, e, q⟩ => by
  cases e
  exact q G H σ (h ▸ A)
end
end Sim

set_option Elab.async false
set_option autoImplicit false
set_option linter.all false
set_option maxRecDepth 100000
set_option maxHeartbeats 1000000
namespace Sim
open PySem L2
open Rp (rep)
open At1 (toV)
open K1 (key)
open KT (keys)
open Ow (own)
open RpA (repA)

/-! ### what is walked -/
def WalkR (Γ : Gm) (G : Hp) (J : It) {α : Type} [Rp α] (xs : List α) : Prop := ∃ Y, Walk J xs.length (fun H => ∃ G1, Le G G1 ∧ Sub G1 H) Y ∧
  ∀ i H v H1, i < xs.length → Y i H v H1 → ∀ G1, Le G G1 → Sub G1 H → ∃ x G2, xs[i]? = some x ∧ Grow G1 H G2 H1 ∧ rep Γ G2 v x
def cI (Γ : Gm) (B : Bs) (ρ : Sto) {α : Type} [Rp α] (m : Option (List α)) : TI := fun σ H R => ∃ G xs, At Γ B ρ G H σ ∧ m = some xs ∧ ∀ J G' H', Grow G H G' H' → WalkR Γ G' J xs → R J H'
abbrev XI (X : Cx) (Γ : Gm) (B : Bs) (ρ : Sto) (tg e : Expr) {α : Type} [Rp α] (m : Option (List α)) : Prop := PI X tg e (cI Γ B ρ m)
/-- targets -/
def cG (Γ : Gm) (B : Bs) {S α : Type} [Rp α] (ρ : S → Sto) (ρt : S → α → Sto) : TG := fun v σ H Q => ∃ s a G, At Γ B (ρ s) G H σ ∧ rep Γ G v a ∧ ∀ G' H' σ', Le G G' → At Γ B (ρt s a) G' H' σ' → Q σ' H'
abbrev XG (X : Cx) (Γ : Gm) (B : Bs) (tg : Expr) {S α : Type} [Rp α] (ρ : S → Sto) (ρt : S → α → Sto) : Prop := PG X tg (cG Γ B ρ ρt)
theorem imI {X : Cx} {tg e : Expr} {t t' : TI} (h : PI X tg e t) (k : ∀ σ H R, t' σ H R → t σ H R) : PI X tg e t' := ⟨fun pins s σ H R I q => h.run pins s σ H R I (k σ H R q)⟩
theorem imG {X : Cx} {tg : Expr} {t t' : TG} (h : PG X tg t) (k : ∀ v σ H Q, t' v σ H Q → t v σ H Q) : PG X tg t' := ⟨fun pins s σ H v u Q I r q => h.run pins s σ H v u Q I r (k v σ H Q q)⟩

def flNext {S L β C : Type} (k : S → Option (Fl S L β C)) : Fl S S β C → Option (Fl S L β C)
  | .nx s' => k s'
  | .ct s' => k s'
  | .bk s' => some (.nx s')
  | .ret b c => some (.ret b c)
  | .err e c => some (.err e c)
def forF {S α L β C : Type} (f : S → α → Option (Fl S S β C)) : S → List α → Option (Fl S L β C)
  | s, [] => some (.nx s)
  | s, x :: r => (f s x).bind (flNext fun s' => forF f s' r)
def forP {S α : Type} (f : S → α → Option S) : S → List α → Option S
  | s, [] => some s
  | s, x :: r => (f s x).bind fun s' => forP f s' r
def whileF {S L β C : Type} (c : S → Option Bool) (f : S → Option (Fl S S β C)) : Nat → S → Option (Fl S L β C)
  | 0, _ => none
  | n + 1, s => (c s).bind fun t => if t = true then (f s).bind (flNext fun s' => whileF c f n s') else some (.nx s)
def whileP {S : Type} (c : S → Option Bool) (f : S → Option S) : Nat → S → Option S
  | 0, _ => none
  | n + 1, s => (c s).bind fun t => if t = true then (f s).bind fun s' => whileP c f n s' else some s
abbrev Kt.loop {L β C : Type} (F : Kt L β C) (S : Type) (sto : S → Sto) : Kt S β C := ⟨sto, sto, F.str, F.fr, F.W⟩
/-- the base with more frozen -/
abbrev Bs.up (B : Bs) (G : Hp) : Bs := { B with G := G }
theorem At.up {Γ : Gm} {B : Bs} {ρ ρ' : Sto} {G H G' H' : Hp} {σ σ' : St} (A0 : At Γ B ρ G H σ) (A : At Γ B ρ' G' H' σ') (l : Le G G') : At Γ (B.up G) ρ' G' H' σ' :=
  ⟨A.sub, l, A.keep, A.live, fun a hm hb hg => A.thin a hm hb (by
    cases q : B.G a with
    | none => rfl
    | some o => exact absurd ((A0.le a o q).symm.trans hg) (by simp)), A.slots, A.fix⟩
theorem At.down {Γ : Gm} {B : Bs} {ρ ρ' : Sto} {G H G' H' : Hp} {σ σ' : St} (A0 : At Γ B ρ G H σ) (A : At Γ (B.up G) ρ' G' H' σ') : At Γ B ρ' G' H' σ' :=
  ⟨A.sub, A0.le.trans A.le, A.keep, A.live, fun a hm hb hg => (A0.thin a hm hb hg).trans (A.thin a hm hb), A.slots, A.fix⟩
section
variable {X : Cx} {Γ : Gm} {B : Bs} {L β C : Type} [Rp β] {F : Kt L β C} {ρ ρ' : Sto} {N : List Str} {sc : Scope} {k : Nat} {fx : List Nat} {W : WX} {M : List Addr} {pos : Pos} {e a b tg it : Expr} {st : Stmt} {sts rest body : List Stmt} {S S1 S2 : Type} {m : Option S} {sto : S → Sto}
variable {α : Type} [Rp α]
theorem xg_name (d : Dok X Γ B N sc k fx W M) {ρ : S → Sto} {x : Str} (i : Nat) (hi : N[i]? = some x) (hx : Loc sc x) (hρ : ∀ s, Nat.ble (i + 1) (ρ s).length = true := by intro _; rfl) (hf : fx.contains i = false := by rfl) : XG X Γ B (.Name x pos) ρ (fun s (a : α) => (ρ s).set i (vl a)) :=
  imG (pg_name (i := i) (by rw [d.hN]; exact d.nd) (by rw [d.hN]; exact hi) (by rw [d.hsc]; exact hx) (.inl (d.hfn x))) fun v σ H Q ⟨s, a, G, A, r, q⟩ => q G H _ (.refl _) (A.setV (Nat.le_of_ble_eq_true (hρ s)) r fun hm => by
    rw [d.hfx] at hm
    rw [List.contains_iff_mem.mpr hm] at hf
    cases hf)
theorem xb_for (d : Dok X Γ B N sc k fx W M) {mxs : Option (List α)} {ρt : S → α → Sto} {f : S → α → Option (Fl S S β C)} (s0 : S) (hi : XI X Γ B (sto s0) tg it mxs) (hg : ∀ B', Dok X Γ B' N sc k fx W M → XG X Γ B' tg sto ρt)
    (hb : ∀ B', Dok X Γ B' N sc k fx W M → ∀ s a, XB X Γ B' (F.loop S sto) (ρt s a) body (f s a) sto) (hs : ∀ x, foldedSetIterable it X.env x = pure x := by intro _; rfl) : XB1 X Γ B F (sto s0) (.For tg it body [] pos) (mxs.bind fun xs => forF f s0 xs) sto := by
  -- the base grows at the loop's start: the loop's rule is taken for each base
  have up : ∀ G, Dok X Γ (B.up G) N sc k fx W M := fun G => ⟨d.toCok, d.own, d.hfn, d.tk, d.hfx, d.hM, d.stk, d.frm⟩
  refine imS (ps_for (g := fun v σ H Q => ∃ G, cG Γ (B.up G) sto ρt v σ H Q) (tb := fun D σ H => ∃ p : Hp × S × α, cS Γ (B.up p.1) (F.loop S sto) (ρt p.2.1 p.2.2) (f p.2.1 p.2.2) sto D σ H) d.own d.calm hi ⟨fun pins s σ H v u Q I r ⟨G, q⟩ => (hg (B.up G) (up G)).run pins s σ H v u Q I r q⟩ (allB fun p => hb (B.up p.1) (up p.1) p.2.1 p.2.2) hs) fun D σ H ⟨G, r, A, e, q⟩ => ?_
  cases mxs with
  | none => cases e
  | some xs =>
    refine ⟨G, xs, A, rfl, fun J G' H' g ⟨Y, hw, hy⟩ => ?_⟩
    have A' := A.grow g
    refine for_it (g := fun v σ H Q => ∃ G, cG Γ (B.up G) sto ρt v σ H Q) (tb := fun D σ H => ∃ p : Hp × S × α, cS Γ (B.up p.1) (F.loop S sto) (ρt p.2.1 p.2.2) (f p.2.1 p.2.2) sto D σ H) (D := D) hw (fun i σ H => ∃ s G1, At Γ B (sto s) G1 H σ ∧ Le G' G1 ∧ (forF f s (xs.drop i) : Option (Fl S L β C)) = some r) ⟨s0, G', A', .refl _, e⟩ (fun i σ H _ ⟨s, G1, A1, l1, _⟩ => ⟨G1, l1, A1.sub⟩) ?_ ?_
    · rintro i v σ1 H1 H2 hi ⟨s, G1, A1, l1, e1⟩ y
      obtain ⟨x, G2, hx, g2, r2⟩ := hy i H1 v H2 hi y G1 l1 A1.sub
      have A2 := A1.grow g2
      refine ⟨G', s, x, G2, A'.up A2 (l1.trans g2.leG), r2, fun G3 H3 σ3 l3 A3 => ?_⟩
      have ed : xs.drop i = x :: xs.drop (i + 1) := by
        obtain ⟨h1, h2⟩ := List.getElem?_eq_some_iff.mp hx
        rw [List.drop_eq_getElem_cons h1, h2]
      rw [ed] at e1
      refine ⟨⟨G', s, x⟩, ?_⟩
      have e1 : ((f s x).bind (flNext fun s' => forF f s' (xs.drop (i + 1)))) = some r := e1
      cases hf : f s x with
      | none => rw [hf] at e1; cases e1
      | some o =>
        rw [hf] at e1
        refine ⟨G3, o, A3, by first | exact hf | rfl, ?_⟩
        cases o with
        | nx s' => exact fun G4 H4 σ4 A4 => ⟨s', G4, A'.down A4, A4.le, e1⟩
        | ct s' => exact fun G4 H4 σ4 A4 => ⟨s', G4, A'.down A4, A4.le, e1⟩
        | bk s' =>
          have e1 := Option.some.inj e1
          subst e1
          exact fun G4 H4 σ4 A4 => q G4 H4 σ4 (A'.down A4)
        | ret b c =>
          have e1 := Option.some.inj e1
          subst e1
          exact fun v G4 H4 σ4 A4 => q v G4 H4 σ4 (A'.down A4)
        | err e c =>
          have e1 := Option.some.inj e1
          subst e1
          exact fun cls d G4 H4 σ4 A4 => q cls d G4 H4 σ4 (A'.down A4)
    · rintro σ1 H1 ⟨s, G1, A1, l1, e1⟩
      rw [List.drop_length] at e1
      have e1 := Option.some.inj e1
      subst e1
      exact q G1 H1 σ1 A1
theorem xp_for (d : Dok X Γ B N sc k fx W M) {mxs : Option (List α)} {ρt : S → α → Sto} {f : S → α → Option S} (s0 : S) (hi : XI X Γ B (sto s0) tg it mxs) (hg : ∀ B', Dok X Γ B' N sc k fx W M → XG X Γ B' tg sto ρt)
    (hb : ∀ B', Dok X Γ B' N sc k fx W M → ∀ s a, XP X Γ B' (ρt s a) body (f s a) sto) (hs : ∀ x, foldedSetIterable it X.env x = pure x := by intro _; rfl) : XP1 X Γ B (sto s0) (.For tg it body [] pos) (mxs.bind fun xs => forP f s0 xs) sto := by
  have up : ∀ G, Dok X Γ (B.up G) N sc k fx W M := fun G => ⟨d.toCok, d.own, d.hfn, d.tk, d.hfx, d.hM, d.stk, d.frm⟩
  refine imS (ps_for (g := fun v σ H Q => ∃ G, cG Γ (B.up G) sto ρt v σ H Q) (tb := fun D σ H => ∃ p : Hp × S × α, cP Γ (B.up p.1) (ρt p.2.1 p.2.2) (f p.2.1 p.2.2) sto D σ H) d.own d.calm hi ⟨fun pins s σ H v u Q I r ⟨G, q⟩ => (hg (B.up G) (up G)).run pins s σ H v u Q I r q⟩ (allB fun p => hb (B.up p.1) (up p.1) p.2.1 p.2.2) hs) fun D σ H ⟨G, r, A, e, q⟩ => ?_
  cases mxs with
  | none => cases e
  | some xs =>
    refine ⟨G, xs, A, rfl, fun J G' H' g ⟨Y, hw, hy⟩ => ?_⟩
    have A' := A.grow g
    refine for_it (g := fun v σ H Q => ∃ G, cG Γ (B.up G) sto ρt v σ H Q) (tb := fun D σ H => ∃ p : Hp × S × α, cP Γ (B.up p.1) (ρt p.2.1 p.2.2) (f p.2.1 p.2.2) sto D σ H) (D := D) hw (fun i σ H => ∃ s G1, At Γ B (sto s) G1 H σ ∧ Le G' G1 ∧ forP f s (xs.drop i) = some r) ⟨s0, G', A', .refl _, e⟩ (fun i σ H _ ⟨s, G1, A1, l1, _⟩ => ⟨G1, l1, A1.sub⟩) ?_ ?_
    · rintro i v σ1 H1 H2 hi ⟨s, G1, A1, l1, e1⟩ y
      obtain ⟨x, G2, hx, g2, r2⟩ := hy i H1 v H2 hi y G1 l1 A1.sub
      have A2 := A1.grow g2
      refine ⟨G', s, x, G2, A'.up A2 (l1.trans g2.leG), r2, fun G3 H3 σ3 l3 A3 => ?_⟩
      have ed : xs.drop i = x :: xs.drop (i + 1) := by
        obtain ⟨h1, h2⟩ := List.getElem?_eq_some_iff.mp hx
        rw [List.drop_eq_getElem_cons h1, h2]
      rw [ed] at e1
      have e1 : ((f s x).bind fun s' => forP f s' (xs.drop (i + 1))) = some r := e1
      cases hf : f s x with
      | none => rw [hf] at e1; cases e1
      | some s' =>
        rw [hf] at e1
        exact ⟨⟨G', s, x⟩, G3, s', A3, by first | exact hf | rfl, fun G4 H4 σ4 A4 => ⟨s', G4, A'.down A4, A4.le, e1⟩⟩
    · rintro σ1 H1 ⟨s, G1, A1, l1, e1⟩
      rw [List.drop_length] at e1
      have e1 := Option.some.inj e1
      subst e1
      exact q G1 H1 σ1 A1
theorem xb_while (d : Dok X Γ B N sc k fx W M) {c : Expr} {mc : S → Option Bool} {f : S → Option (Fl S S β C)} (s0 : S) (n : Nat) (hc : ∀ s, XT X Γ B (sto s) c (mc s)) (hb : ∀ s, XB X Γ B (F.loop S sto) (sto s) body (f s) sto) : XB1 X Γ B F (sto s0) (.While c body [] pos) (whileF mc f n s0) sto := by
  refine imS (ps_while d.own (allT hc) (allB hb)) fun D σ H ⟨G, r, A, e, q⟩ => ?_
  refine ⟨fun m σ H => ∃ s G1, At Γ B (sto s) G1 H σ ∧ (whileF mc f m s : Option (Fl S L β C)) = some r, ⟨n, s0, G, A, e⟩, ?_⟩
  rintro m σ1 H1 ⟨s, G1, A1, e1⟩
  cases m with
  | zero => cases e1
  | succ m =>
    have e1 : ((mc s).bind fun t => if t = true then (f s).bind (flNext fun s' => whileF mc f m s') else some (.nx s)) = some r := e1
    cases ht : mc s with
    | none => rw [ht] at e1; cases e1
    | some t =>
      rw [ht] at e1
      refine ⟨s, G1, t, A1, ht, fun G2 H2 g2 => ?_⟩
      have A2 := A1.grow g2
      cases t with
      | false =>
        have e1 := Option.some.inj e1
        subst e1
        show D.nx σ1 H2
        exact q G2 H2 σ1 A2
      | true =>
        refine ⟨fun σ H => ∃ s G1, At Γ B (sto s) G1 H σ ∧ (whileF mc f m s : Option (Fl S L β C)) = some r, fun σ' H' w => ⟨m, Nat.lt_succ_self _, w⟩, s, ?_⟩
        have e1 : ((f s).bind (flNext fun s' => whileF mc f m s')) = some r := e1
        cases hf : f s with
        | none => rw [hf] at e1; cases e1
        | some o =>
          rw [hf] at e1
          refine ⟨G2, o, A2, by first | exact hf | rfl, ?_⟩
          cases o with
          | nx s' => exact fun G4 H4 σ4 A4 => ⟨s', G4, A4, e1⟩
          | ct s' => exact fun G4 H4 σ4 A4 => ⟨s', G4, A4, e1⟩
          | bk s' =>
            have e1 := Option.some.inj e1
            subst e1
            exact q
          | ret b c =>
            have e1 := Option.some.inj e1
            subst e1
            exact q
          | err e c =>
            have e1 := Option.some.inj e1
            subst e1
            exact q
theorem xp_while (d : Dok X Γ B N sc k fx W M) {c : Expr} {mc : S → Option Bool} {f : S → Option S} (s0 : S) (n : Nat) (hc : ∀ s, XT X Γ B (sto s) c (mc s)) (hb : ∀ s, XP X Γ B (sto s) body (f s) sto) : XP1 X Γ B (sto s0) (.While c body [] pos) (whileP mc f n s0) sto := by
  refine imS (ps_while d.own (allT hc) (allB hb)) fun D σ H ⟨G, r, A, e, q⟩ => ?_
  refine ⟨fun m σ H => ∃ s G1, At Γ B (sto s) G1 H σ ∧ whileP mc f m s = some r, ⟨n, s0, G, A, e⟩, ?_⟩
  rintro m σ1 H1 ⟨s, G1, A1, e1⟩
  cases m with
  | zero => cases e1
  | succ m =>
    have e1 : ((mc s).bind fun t => if t = true then (f s).bind fun s' => whileP mc f m s' else some s) = some r := e1
    cases ht : mc s with
    | none => rw [ht] at e1; cases e1
    | some t =>
      rw [ht] at e1
      refine ⟨s, G1, t, A1, ht, fun G2 H2 g2 => ?_⟩
      have A2 := A1.grow g2
      cases t with
      | false =>
        have e1 := Option.some.inj e1
        subst e1
        show D.nx σ1 H2
        exact q G2 H2 σ1 A2
      | true =>
        refine ⟨fun σ H => ∃ s G1, At Γ B (sto s) G1 H σ ∧ whileP mc f m s = some r, fun σ' H' w => ⟨m, Nat.lt_succ_self _, w⟩, s, ?_⟩
        have e1 : ((f s).bind fun s' => whileP mc f m s') = some r := e1
        cases hf : f s with
        | none => rw [hf] at e1; cases e1
        | some s' =>
          rw [hf] at e1
          exact ⟨G2, s', A2, by first | exact hf | rfl, fun G4 H4 σ4 A4 => ⟨s', G4, A4, e1⟩⟩

/-! ### iterables -/
theorem xi_list {m : Option (List α)} (h : XE X Γ B ρ e m) : XI X Γ B ρ tg e m := imI (pi_list h) fun σ H R ⟨G, xs, A, e, q⟩ => ⟨G, xs, A, e, fun v G' H' g ⟨p, vs, h1, h2, h3⟩ => by
  subst h1
  have hK : ∀ {G1 : Hp} {H1 : Hp}, Le G' G1 → Sub G1 H1 → SqL X.K H1 p vs := fun l s => SqL.of (s.lst (l _ _ h2))
  refine ⟨p, rfl, ⟨vs, hK (.refl _) g.sub⟩, q _ G' H' g ⟨YAt vs, ?_, fun i H v H1 hi ⟨y1, y2⟩ G1 l1 s1 => ?_⟩⟩
  · rw [← h3.length]
    exact (walk_list (K := X.K) (a := p) (xs := vs)).mono (fun H ⟨G1, l1, s1⟩ => hK l1 s1) fun i H x H' _ _ y => y
  · subst y1
    obtain ⟨x, hx, r⟩ := h3.getV y2
    exact ⟨x, G1, hx, .refl s1, Rp.mono l1 r⟩⟩
theorem xi_tup {m : Option (TL α)} (h : XE X Γ B ρ e m) : XI X Γ B ρ tg e (m.bind fun t => some t.l) := imI (pi_tup h) fun σ H R ⟨G, xs, A, e, q⟩ => by
  cases m with
  | none => cases e
  | some t =>
    cases e
    refine ⟨G, t, A, rfl, fun v G' H' g ⟨p, vs, h1, h2, h3⟩ => ?_⟩
    subst h1
    have hK : ∀ {G1 : Hp} {H1 : Hp}, Le G' G1 → Sub G1 H1 → SqT X.K H1 p vs := fun l s => SqT.of (s.tup (l _ _ h2))
    refine ⟨p, rfl, ⟨vs, hK (.refl _) g.sub⟩, q _ G' H' g ⟨YAt vs, ?_, fun i H v H1 hi ⟨y1, y2⟩ G1 l1 s1 => ?_⟩⟩
    · rw [← h3.length]
      exact (walk_tup (K := X.K) (a := p) (xs := vs)).mono (fun H ⟨G1, l1, s1⟩ => hK l1 s1) fun i H x H' _ _ y => y
    · subst y1
      obtain ⟨x, hx, r⟩ := h3.getV y2
      exact ⟨x, G1, hx, .refl s1, Rp.mono l1 r⟩
/-- lo, lo + 1, .. below hi -/
def rangeL (lo hi : Int) : List Int := (List.range (hi - lo).toNat).map fun (i : Nat) => lo + (i : Int)
@[irreducible] def prange (lo hi : Int) : Option (List Int) := if lo.natAbs < 2 ^ 62 ∧ hi.natAbs < 2 ^ 62 then some (rangeL lo hi) else none
theorem pr_b {lo hi : Int} (h : lo.natAbs < 2 ^ 62 ∧ hi.natAbs < 2 ^ 62) : -(2 ^ 62) ≤ lo ∧ lo < 2 ^ 62 ∧ -(2 ^ 62) ≤ hi ∧ hi < 2 ^ 62 := by omega
theorem rangeL_length (lo hi : Int) : (rangeL lo hi).length = (hi - lo).toNat := by simp [rangeL]
theorem walkR_range {G : Hp} (lo hi : Int) : WalkR Γ G (Itr lo (hi - lo).toNat) (rangeL lo hi) := by
  refine ⟨YFn fun i => .int (lo + i), by rw [rangeL_length]; exact walk_range.mono (fun _ _ => trivial) fun i H x H' _ _ y => y, fun i H v H1 hi' ⟨y1, y2⟩ G1 l1 s1 => ?_⟩
  subst y1
  refine ⟨lo + (i : Int), G1, ?_, .refl s1, y2⟩
  rw [rangeL_length] at hi'
  simp [rangeL, hi']
theorem xi_range2 (c : Cok X Γ N sc k) {p : Pos} {ma mb : Option Int} (ha : XE X Γ B ρ a ma) (hb : XE X Γ B ρ b mb) (hg : Glb sc "range") (hm : Γ.mg "range" = none) (s1 : starEach [a, b] X.env = [(false, eval a X.env), (false, eval b X.env)] := by rfl) (s2 : starEach [b] X.env = [(false, eval b X.env)] := by rfl) :
    XI X Γ B ρ tg (.Call (.Name "range" p) [a, b] [] pos) (b2 ma mb prange) := imI (pi_range2 (c.gl hg) (by rw [c.hmg]; exact hm) (pa_cons ha (pa_cons hb pa_nil (by rw [s2]; rfl)) (by rw [s1, s2])) s1 s2) fun σ H R ⟨G, xs, A, e, q⟩ => by
  cases ma with
  | none => cases e
  | some x =>
    cases mb with
    | none => cases e
    | some y =>
      obtain ⟨hb, e⟩ := ite_some (by have qq : prange x y = some xs := e; unfold prange at qq; exact qq)
      have hb := pr_b hb
      refine ⟨G, x, A, rfl, fun v1 G1 H1 g1 r1 => ⟨G1, y, A.grow g1, rfl, fun v2 G2 H2 g2 r2 => ⟨x, y, by rw [rep1 r1, rep1 r2]; rfl, hb, ?_⟩⟩⟩
      subst e
      exact q _ G2 H2 (g1.trans g2) (walkR_range x y)
theorem xi_range1 (c : Cok X Γ N sc k) {p : Pos} {ma : Option Int} (ha : XE X Γ B ρ a ma) (hg : Glb sc "range") (hm : Γ.mg "range" = none) (s1 : starEach [a] X.env = [(false, eval a X.env)] := by rfl) :
    XI X Γ B ρ tg (.Call (.Name "range" p) [a] [] pos) (ma.bind fun y => prange 0 y) := imI (pi_range1 (c.gl hg) (by rw [c.hmg]; exact hm) (pa_cons ha pa_nil (by rw [s1]; rfl)) s1) fun σ H R ⟨G, xs, A, e, q⟩ => by
  cases ma with
  | none => cases e
  | some y =>
    obtain ⟨hb, e⟩ := ite_some (by have qq : prange 0 y = some xs := e; unfold prange at qq; exact qq)
    have hb := pr_b hb
    refine ⟨G, y, A, rfl, fun v1 G1 H1 g1 r1 => ⟨y, by rw [rep1 r1]; rfl, hb.2.2.1, hb.2.2.2, ?_⟩⟩
    subst e
    have w := walkR_range (Γ := Γ) (G := G1) 0 y
    rw [Int.sub_zero] at w
    exact q _ G1 H1 g1 w
end
end Sim

set_option Elab.async false
set_option autoImplicit false
set_option linter.all false
set_option maxRecDepth 100000
set_option maxHeartbeats 1000000
namespace Sim
open PySem L2
open Rp (rep)
open At1 (toV)
open K1 (key)
open KT (keys)
open Ow (own)
open RpA (repA stoA)

/-! ### promises -/
/-- a def that changes nothing and lets nothing out; fr: what it gives is new -/
def specP (Γ : Gm) (fr : Bool) {τ β : Type} [RpA τ] [Rp β] (f : τ → Option β) : Sp := fun vs H Q _ => ∃ G t b, Sub G H ∧ repA Γ G vs t ∧ f t = some b ∧ ∀ v G' H', Grow G H G' H' → rep Γ G' v b → (fr = true → Fresh H v) → Q v H'
/-- .. that may raise -/
def specE (Γ : Gm) (fr : Bool) {τ β : Type} [RpA τ] [Rp β] (f : τ → Option (Except Er β)) : Sp := fun vs H Q E => ∃ G t b, Sub G H ∧ repA Γ G vs t ∧ f t = some b ∧ match b with
  | .ok b => ∀ v G' H', Grow G H G' H' → rep Γ G' v b → (fr = true → Fresh H v) → Q v H'
  | .error e => ∀ cls d G' H', Grow G H G' H' → IsEr Γ e cls d H' → E cls d H'
/-- a def of the module's as a caller sees it -/
structure Cal (Γ : Gm) (x : Str) (k : Nat) (fr : Bool) {τ β : Type} [RpA τ] [Rp β] (f : τ → Option β) : Prop where
  ex : ∃ a fd ps, FnOk Γ.P Γ.w Γ.K Γ.mg Γ.base CX0 k a fd ps (specP Γ fr f) ∧ Γ.mg x = some (.ref a) ∧ PySem.W.keepIn Γ.K (.ref a) = true ∧ Binds Γ.K fd ps []
structure CalE (Γ : Gm) (x : Str) (k : Nat) (fr : Bool) {τ β : Type} [RpA τ] [Rp β] (f : τ → Option (Except Er β)) : Prop where
  ex : ∃ a fd ps, FnOk Γ.P Γ.w Γ.K Γ.mg Γ.base (L2.CX Γ.P Γ.w) k a fd ps (specE Γ fr f) ∧ Γ.mg x = some (.ref a) ∧ PySem.W.keepIn Γ.K (.ref a) = true ∧ Binds Γ.K fd ps []
/-- a def of the text -/
structure Def (Γ : Gm) (x : Str) (st : Stmt) (ps : List Str) : Prop where
  ex : ∃ a fd, Fun Γ.K x x st a fd ∧ Γ.mg x = some (.ref a) ∧ Binds Γ.K fd ps []

/-! ### at a def's entry -/
abbrev deads (n : Nat) : Sto := List.replicate n .dead
theorem get_rep {α : Type _} {n i : Nat} {a b : α} (h : (List.replicate n a)[i]? = some b) : b = a ∧ i < n := by
  obtain ⟨h1, h2⟩ := List.getElem?_eq_some_iff.mp h
  simp at h1 h2
  exact ⟨h2.symm, h1⟩
theorem at_start {Γ : Gm} {G H : Hp} {τ : Type} [RpA τ] {N : List Str} {vs : List V} {t : τ} {fx : List Nat} (s : Sub G H) (r : repA Γ G vs t) (hn : RpA.num τ ≤ N.length) :
    At Γ ⟨G, H, [], L2.start N vs, fx⟩ (stoA t ++ deads (N.length - RpA.num τ)) G H (L2.start N vs) := by
  have q := RpA.okA (H := H) r
  have hl : (stoA t).length = RpA.num τ := RpA.lenA t
  refine ⟨s, .refl _, fun _ _ _ h => h, fun _ h => h, fun _ _ _ h => .inl h, ⟨fun _ => [], ⟨by simp [L2.start, hl, q.1], fun i sl e => ?_, fun i j x h => by simp at h, fun _ _ => rfl⟩, fun i a h => by simp at h⟩, fun _ _ => rfl⟩
  unfold L2.start
  by_cases hi : i < RpA.num τ
  · rw [List.getElem?_append_left (by rw [hl]; exact hi)] at e
    obtain ⟨v, q1, q2⟩ := q.2 i sl e
    exact ⟨some v, by rw [List.getElem?_append_left (by simp [q.1, hi])]; simp [q1], q2⟩
  · rw [List.getElem?_append_right (by rw [hl]; omega)] at e
    obtain ⟨e1, e2⟩ := get_rep e
    rw [hl] at e2
    subst e1
    refine ⟨none, ?_, rfl⟩
    rw [List.getElem?_append_right (by simp [q.1]; omega)]
    simp [q.1, e2]
theorem At.deads {Γ : Gm} {B : Bs} {ρ : Sto} {G H : Hp} {σ : St} (A : At Γ B ρ G H σ) {n : Nat} (hn : ρ.length = n) : At Γ B (Sim.deads n) G H σ := by
  obtain ⟨φ, h1, h3⟩ := A.slots
  refine ⟨A.sub, A.le, A.keep, A.live, A.thin, ⟨fun _ => [], ⟨by simp [h1.len, hn], fun i s hs => ?_, fun i j x h => by simp at h, fun _ _ => rfl⟩, fun i a h => by simp at h⟩, A.fix⟩
  obtain ⟨e1, e2⟩ := get_rep hs
  have hi : i < σ.length := by rw [h1.len, hn]; exact e2
  exact ⟨σ[i], by simp [hi], by subst e1; exact rfl⟩
theorem At.len {Γ : Gm} {B : Bs} {ρ : Sto} {G H : Hp} {σ : St} (A : At Γ B ρ G H σ) : σ.length = ρ.length := by
  obtain ⟨φ, h1, _⟩ := A.slots
  exact h1.len
theorem At.grown {Γ : Gm} {G0 H0 : Hp} {σ0 : St} {fx : List Nat} {ρ : Sto} {G H : Hp} {σ : St} (A : At Γ ⟨G0, H0, [], σ0, fx⟩ ρ G H σ) : Grow G0 H0 G H :=
  ⟨A.le, fun a o e => A.keep a o (by simp) e, A.sub, fun a h1 h2 => A.thin a (by simp) h1 h2⟩
/-- a def's own outcomes -/
abbrev ktP (β : Type) (fr : Bool) (n : Nat) : Kt Empty β Unit := ⟨fun l => l.elim, fun l => l.elim, fun _ => deads n, fr, fun _ _ _ _ => False⟩
abbrev ktE (β : Type) (fr : Bool) (n : Nat) (W : WX) : Kt Empty β Unit := ⟨fun l => l.elim, fun l => l.elim, fun _ => deads n, fr, W⟩
def retP {S β : Type} (fin : S → β) : Fl S Empty β Unit → Option β
  | .nx s => some (fin s)
  | .ret b _ => some b
  | .bk l => l.elim
  | .ct l => l.elim
  | .err _ _ => none
def retE {S β : Type} (fin : S → β) : Fl S Empty β Unit → Option (Except Er β)
  | .nx s => some (.ok (fin s))
  | .ret b _ => some (.ok b)
  | .bk l => l.elim
  | .ct l => l.elim
  | .err e _ => some (.error e)
section
variable {Γ : Gm} {x : Str} {st : Stmt} {N ps : List Str} {k : Nat} {τ β : Type} [RpA τ] [Rp β] {fr : Bool} {S : Type} {sto : S → Sto}
/-- THE RULE for a def that is pure -/
theorem cal_of (D : Def Γ x st ps) (Sc : FnScope N ps (defScope st)) {m : τ → Option (Fl S Empty β Unit)} (fin : S → β) (hfin : ∀ s (G : Hp), rep Γ G .non (fin s)) (hps : RpA.num τ = ps.length)
    (hb : ∀ (X : Cx) (B : Bs) (t : τ), Dok X Γ B N (defScope st) k [] (fun _ _ _ _ => False) [] → XB X Γ B (ktP β fr N.length) (stoA t ++ deads (N.length - RpA.num τ)) (defBody st) (m t) sto) (fm : τ → Option β) (hm : ∀ t, fm t = (m t).bind (retP fin)) : Cal Γ x (k + 1) fr fm := by
  obtain ⟨a, fd, F, hg, bi⟩ := D.ex
  refine ⟨a, fd, ps, F.ok Sc (fun vs H Q E h => ?_) (fun cdv A outer s H vs Q E hr h => ?_), hg, F.kp, bi⟩
  · obtain ⟨G, t, b, h1, h2, _⟩ := h
    rw [(RpA.okA (H := H) h2).1, hps]
  · obtain ⟨G, t, b, h1, h2, h3, q⟩ := h
    have hN : RpA.num τ ≤ N.length := by
      rw [hps]
      have z := congrArg List.length Sc.pre
      rw [List.length_take] at z
      omega
    have A0 := at_start (fx := []) h1 h2 hN
    refine ⟨_, hb _ ⟨G, H, [], L2.start N vs, []⟩ t ⟨⟨rfl, rfl, rfl, rfl, rfl, rfl, Sc.nd, rfl, rfl, hr⟩, PassesOwn.never, fun _ => rfl, takes0, rfl, rfl, rfl, rfl⟩, ?_⟩
    rw [hm] at h3
    cases e : m t with
    | none => rw [e] at h3; cases h3
    | some r =>
      rw [e] at h3
      refine ⟨G, r, A0, by first | exact e | rfl, ?_⟩
      cases r with
      | nx s1 =>
        have h3 : some (fin s1) = some b := h3
        have h3 := Option.some.inj h3
        subst h3
        intro G' H' σ' A'
        exact q .non G' H' A'.grown (hfin s1 G') fun _ p z => by cases z
      | bk l => exact l.elim
      | ct l => exact l.elim
      | ret b' c =>
        have h3 : some b' = some b := h3
        have h3 := Option.some.inj h3
        subst h3
        intro v G' H' σ' A' r f
        exact q v G' H' A'.grown r f
      | err e' c => cases h3
/-- .. that may raise -/
theorem calE_of (D : Def Γ x st ps) (Sc : FnScope N ps (defScope st)) {m : τ → Option (Fl S Empty β Unit)} (fin : S → β) (hfin : ∀ s (G : Hp), rep Γ G .non (fin s)) (hps : RpA.num τ = ps.length)
    (hb : ∀ (X : Cx) (B : Bs) (t : τ) (W : WX), Dok X Γ B N (defScope st) k [] W [] → XB X Γ B (ktE β fr N.length W) (stoA t ++ deads (N.length - RpA.num τ)) (defBody st) (m t) sto) (fm : τ → Option (Except Er β)) (hm : ∀ t, fm t = (m t).bind (retE fin)) : CalE Γ x (k + 1) fr fm := by
  obtain ⟨a, fd, F, hg, bi⟩ := D.ex
  refine ⟨a, fd, ps, F.okX Sc (fun vs H Q E h => ?_) (fun cdv A outer s H vs Q E hr h => ?_), hg, F.kp, bi⟩
  · obtain ⟨G, t, b, h1, h2, _⟩ := h
    rw [(RpA.okA (H := H) h2).1, hps]
  · obtain ⟨G, t, b, h1, h2, h3, q⟩ := h
    have hN : RpA.num τ ≤ N.length := by
      rw [hps]
      have z := congrArg List.length Sc.pre
      rw [List.length_take] at z
      omega
    have A0 := at_start (fx := []) h1 h2 hN
    refine ⟨_, hb _ ⟨G, H, [], L2.start N vs, []⟩ t (fun cls d _ H => E cls d H) ⟨⟨rfl, rfl, rfl, rfl, rfl, rfl, Sc.nd, rfl, rfl, hr⟩, passes_of rfl, fun _ => rfl, takes_of rfl rfl rfl rfl, rfl, rfl, rfl, rfl⟩, ?_⟩
    rw [hm] at h3
    cases e : m t with
    | none => rw [e] at h3; cases h3
    | some r =>
      rw [e] at h3
      refine ⟨G, r, A0, by first | exact e | rfl, ?_⟩
      cases r with
      | nx s1 =>
        have h3 : some (.ok (fin s1)) = some b := h3
        have h3 := Option.some.inj h3
        subst h3
        intro G' H' σ' A'
        exact q .non G' H' A'.grown (hfin s1 G') fun _ p z => by cases z
      | bk l => exact l.elim
      | ct l => exact l.elim
      | ret b' c =>
        have h3 : some (.ok b') = some b := h3
        have h3 := Option.some.inj h3
        subst h3
        intro v G' H' σ' A' r f
        exact q v G' H' A'.grown r f
      | err e' c =>
        have h3 : some (.error e') = some b := h3
        have h3 := Option.some.inj h3
        subst h3
        intro cls d G' H' σ' A' r
        exact q cls d G' H' A'.grown r
end
/-! ### calls -/
section
variable {X : Cx} {Γ : Gm} {B : Bs} {ρ : Sto} {N : List Str} {sc : Scope} {k j : Nat} {pos p : Pos} {e : Expr} {es : List Expr} {x : Str} {α τ β : Type} [Rp α] [RpA τ] [Rp β] {fr : Bool}
theorem xa_nil : XA X Γ B ρ [] (some ()) := imA pa_nil fun σ H Q ⟨G, z, A, e, q⟩ => q [] G H (.refl A.sub) rfl
theorem xa_cons {m : Option α} {mt : Option τ} (he : XE X Γ B ρ e m) (ht : XA X Γ B ρ es mt) (hs : starEach (e :: es) X.env = (false, eval e X.env) :: starEach es X.env := by rfl) : XA X Γ B ρ (e :: es) (b2 m mt fun a t => some (a, t)) := imA (pa_cons he ht hs) fun σ H Q ⟨G, z, A, e, q⟩ => by
  cases m with
  | none => cases e
  | some y =>
    cases mt with
    | none => cases e
    | some t =>
      cases e
      exact ⟨G, y, A, rfl, fun v G1 H1 g1 r1 => ⟨G1, t, A.grow g1, rfl, fun vs G2 H2 g2 r2 => q (v :: vs) G2 H2 (g1.trans g2) ⟨v, vs, rfl, Rp.mono g2.leG r1, r2⟩⟩⟩
theorem xe_call (c : Cok X Γ N sc k) {f : τ → Option β} {mt : Option τ} (h : Cal Γ x j fr f) (hk : j ≤ k) (hg : Glb sc x) (ha : XA X Γ B ρ (e :: es) mt) (hdb : (x == ("__debug__" : Str)) = false := by decide) (he : starEach (e :: es) X.env = (false, eval e X.env) :: starEach es X.env := by rfl) (hpl : (backTo pos (starEach es X.env)).any (·.1) = false := by rfl) :
    XE X Γ B ρ (.Call (.Name x p) (e :: es) [] pos) (mt.bind f) := by
  obtain ⟨a, fd, ps, F, hm, kp, bi⟩ := h.ex
  refine imE (pe_call (dvs := []) (CX := CX0) (E := E0) (by rw [c.hP, c.hw, c.hK, c.hmg, c.hbase]; exact F) (c.room.mono hk) (c.gl hg) (by rw [c.hmg]; exact hm) (by rw [c.hK]; exact kp) (by rw [c.hK]; exact bi) .nil pass0 ha hdb he hpl) fun σ H Q ⟨G, z, A, e, q⟩ => ?_
  cases mt with
  | none => cases e
  | some t =>
    refine ⟨G, t, A, rfl, fun vs G1 H1 g1 r1 => ?_⟩
    show specP Γ fr f (vs ++ []) H1 Q E0
    rw [List.append_nil]
    exact ⟨G1, t, z, g1.sub, r1, e, fun v G2 H2 g2 r2 _ => q v G2 H2 (g1.trans g2) r2⟩
/-- a def that may raise, where it doesn't -/
def okOf {β : Type} : Except Er β → Option β
  | .ok b => some b
  | .error _ => none
theorem xe_callE (c : Cok X Γ N sc k) {f : τ → Option (Except Er β)} {mt : Option τ} (h : CalE Γ x j fr f) (hk : j ≤ k) (hg : Glb sc x) (ha : XA X Γ B ρ (e :: es) mt) (hdb : (x == ("__debug__" : Str)) = false := by decide) (he : starEach (e :: es) X.env = (false, eval e X.env) :: starEach es X.env := by rfl) (hpl : (backTo pos (starEach es X.env)).any (·.1) = false := by rfl) :
    XE X Γ B ρ (.Call (.Name x p) (e :: es) [] pos) (mt.bind fun t => (f t).bind okOf) := by
  obtain ⟨a, fd, ps, F, hm, kp, bi⟩ := h.ex
  refine imE (pe_call (dvs := []) (CX := L2.CX X.prog X.w) (E := E0) (by rw [c.hP, c.hw, c.hK, c.hmg, c.hbase]; exact F) (c.room.mono hk) (c.gl hg) (by rw [c.hmg]; exact hm) (by rw [c.hK]; exact kp) (by rw [c.hK]; exact bi) .nil passL ha hdb he hpl) fun σ H Q ⟨G, z, A, e, q⟩ => ?_
  cases mt with
  | none => cases e
  | some t =>
    refine ⟨G, t, A, rfl, fun vs G1 H1 g1 r1 => ?_⟩
    show specE Γ fr f (vs ++ []) H1 Q E0
    rw [List.append_nil]
    have e : (f t).bind okOf = some z := e
    cases hf : f t with
    | none => rw [hf] at e; cases e
    | some r =>
      rw [hf] at e
      cases r with
      | error er => cases e
      | ok b =>
        have e : some b = some z := e
        have e := Option.some.inj e
        subst e
        exact ⟨G1, t, .ok b, g1.sub, r1, by first | exact hf | rfl, fun v G2 H2 g2 r2 _ => q v G2 H2 (g1.trans g2) r2⟩
end
end Sim

set_option Elab.async false
set_option autoImplicit false
set_option linter.all false
set_option maxRecDepth 100000
set_option maxHeartbeats 1000000
namespace Sim
open PySem L2
open Rp (rep)
open At1 (toV)
open K1 (key)
open KT (keys)
open Ow (own)
open RpA (repA stoA)

/-- a new list -/
def cN (Γ : Gm) (B : Bs) (ρ : Sto) {α : Type} [Rp α] (m : Option (List α)) : TE := fun σ H Q => ∃ G xs, At Γ B ρ G H σ ∧ m = some xs ∧ ∀ p vs G1 H1, Grow G H G1 H1 → H1 p = none → RpL Γ G1 vs xs → Q (.ref p) (upd H1 p (.lst vs))
abbrev XN (X : Cx) (Γ : Gm) (B : Bs) (ρ : Sto) (e : Expr) {α : Type} [Rp α] (m : Option (List α)) : Prop := PE X e (cN Γ B ρ m)
/-- a size that the model has room for -/
def BIG : Nat := 1000000
theorem big_le {n : Nat} (h : n ≤ BIG) : n ≤ sizeLine := Nat.le_trans h (by decide)
theorem big_lt {n : Nat} (h : n ≤ BIG) : n < sizeLine := Nat.lt_of_le_of_lt h (by decide)

section
variable {X : Cx} {Γ : Gm} {B : Bs} {ρ ρ' : Sto} {N : List Str} {sc : Scope} {k : Nat} {fx : List Nat} {W : WX} {M : List Addr} {pos p p' : Pos} {e a b o : Expr} {es : List Expr} {S : Type} {sto : S → Sto}
variable {α β : Type} [Rp α] [Rp β]

/-! ### new lists -/
theorem xe_ofN {m : Option (List α)} (h : XN X Γ B ρ e m) : XE X Γ B ρ e m := imE h fun σ H Q ⟨G, xs, A, e, q⟩ => ⟨G, xs, A, e, fun p vs G1 H1 g hp r => by
  have g2 := Grow.new g.sub hp (.lst vs)
  exact q _ _ _ (g.trans g2) ⟨p, vs, rfl, upd_same, r.mono g2.leG⟩⟩
theorem xr_ofN {m : Option (List α)} (h : XN X Γ B ρ e m) : XR X Γ B ρ e m := xr_of (xe_ofN h)
theorem xp_setN (d : Dok X Γ B N sc k fx W M) {m : Option (List α)} {x : Str} (i : Nat) (he : XN X Γ B ρ e m) (hi : N[i]? = some x) (hx : Loc sc x) (hρ : Nat.ble (i + 1) ρ.length = true := by rfl) (hf : fx.contains i = false := by rfl) (hs : swapsWith e (some (.Name x p')) pos.line X.env = pure false := by rfl) :
    XP1 X Γ B ρ (.Assign [.Name x p'] e pos) m (fun z => ρ.set i (ow (OL.mk z))) := imS (ps_set (i := i) (by rw [d.hN]; exact d.nd) (by rw [d.hN]; exact hi) (by rw [d.hsc]; exact hx) he hs (.inl (d.hfn x))) fun D σ H ⟨G, s, A, e, q⟩ =>
  ⟨G, s, A, e, fun p vs G1 H1 g hp r => q G1 _ _ ((A.grow g).setN (Nat.le_of_ble_eq_true hρ) hp ⟨p, vs, rfl, rfl, upd_same, r⟩ fun hm => by
    rw [d.hfx] at hm
    rw [List.contains_iff_mem.mpr hm] at hf
    cases hf)⟩
theorem seqO_length : ∀ {ms : List (Option α)} {xs : List α}, seqO ms = some xs → xs.length = ms.length
  | [], xs, h => by cases h; rfl
  | m :: r, xs, h => by
    cases m with
    | none => cases h
    | some y =>
      cases hr : seqO r with
      | none =>
        have h : (seqO r).bind (fun xs => some (y :: xs)) = some xs := h
        rw [hr] at h; cases h
      | some ys =>
        have h : (seqO r).bind (fun xs => some (y :: xs)) = some xs := h
        rw [hr] at h
        cases h
        rw [List.length_cons, List.length_cons, seqO_length hr]
theorem xl_nil : XL X Γ B ρ [] (α := α) [] := imA pa_nil fun σ H Q ⟨G, z, A, e, q⟩ => by
  cases e
  exact q [] G H (.refl A.sub) .nil
theorem xl_cons {m : Option α} {ms : List (Option α)} (he : XE X Γ B ρ e m) (ht : XL X Γ B ρ es ms) (hs : starEach (e :: es) X.env = (false, eval e X.env) :: starEach es X.env := by rfl) : XL X Γ B ρ (e :: es) (m :: ms) := imA (pa_cons he ht hs) fun σ H Q ⟨G, z, A, e, q⟩ => by
  cases m with
  | none => cases e
  | some y =>
    have e : (seqO ms).bind (fun xs => some (y :: xs)) = some z := e
    cases ht : seqO ms with
    | none => rw [ht] at e; cases e
    | some ys =>
      rw [ht] at e
      cases e
      exact ⟨G, y, A, rfl, fun v G1 H1 g1 r1 => ⟨G1, ys, A.grow g1, ht, fun vs G2 H2 g2 r2 => q (v :: vs) G2 H2 (g1.trans g2) (.cons (Rp.mono g2.leG r1) r2)⟩⟩
theorem xn_list {ms : List (Option α)} (h : XL X Γ B ρ es ms) (hl : Nat.ble ms.length 1000 = true := by rfl) : XN X Γ B ρ (.List es pos) (seqO ms) := imE (pe_lst h) fun σ H Q ⟨G, xs, A, e, q⟩ => ⟨G, xs, A, e, fun vs G' H' g r => ⟨by
  rw [r.length, seqO_length e]
  exact Nat.le_trans (Nat.le_of_ble_eq_true hl) (by decide), fun p hp => q p vs G' H' g hp r⟩⟩
theorem xe_tup2 {j : Nat} {ma : Option α} {mb : Option β} (ha : XE X Γ B ρ a ma) (hb : XE X Γ B ρ b mb) (s1 : starEach [a, b] X.env = (false, eval a X.env) :: starEach [b] X.env := by rfl) (s2 : starEach [b] X.env = (false, eval b X.env) :: starEach [] X.env := by rfl) : XE X Γ B ρ (.Tuple [a, b] j pos) (b2 ma mb fun x y => some (x, y)) :=
  imE (pe_tup (pa_cons ha (pa_cons hb pa_nil s2) s1)) fun σ H Q ⟨G, z, A, e, q⟩ => by
  cases ma with
  | none => cases e
  | some x =>
    cases mb with
    | none => cases e
    | some y =>
      cases e
      refine ⟨G, x, A, rfl, fun v1 G1 H1 g1 r1 => ⟨G1, y, A.grow g1, rfl, fun v2 G2 H2 g2 r2 => ⟨(by show 2 ≤ sizeLine; decide), fun p hp => ?_⟩⟩⟩
      have g3 := Grow.new g2.sub hp (.tup [v1, v2])
      exact q _ _ _ ((g1.trans g2).trans g3) ⟨p, v1, v2, rfl, upd_same, Rp.mono (g2.leG.trans g3.leG) r1, Rp.mono g3.leG r2⟩
theorem xe_tup3 {γ : Type} [Rp γ] {c : Expr} {j : Nat} {ma : Option α} {mb : Option β} {mc : Option γ} (ha : XE X Γ B ρ a ma) (hb : XE X Γ B ρ b mb) (hc : XE X Γ B ρ c mc) (s1 : starEach [a, b, c] X.env = (false, eval a X.env) :: starEach [b, c] X.env := by rfl)
    (s2 : starEach [b, c] X.env = (false, eval b X.env) :: starEach [c] X.env := by rfl) (s3 : starEach [c] X.env = (false, eval c X.env) :: starEach [] X.env := by rfl) : XE X Γ B ρ (.Tuple [a, b, c] j pos) (ma.bind fun x => mb.bind fun y => mc.bind fun z => some (T3.mk x y z)) :=
  imE (pe_tup (pa_cons ha (pa_cons hb (pa_cons hc pa_nil s3) s2) s1)) fun σ H Q ⟨G, z, A, e, q⟩ => by
  cases ma with
  | none => cases e
  | some x =>
    cases mb with
    | none => cases e
    | some y =>
      cases mc with
      | none => cases e
      | some w =>
        cases e
        refine ⟨G, x, A, rfl, fun v1 G1 H1 g1 r1 => ⟨G1, y, A.grow g1, rfl, fun v2 G2 H2 g2 r2 => ⟨G2, w, A.grow (g1.trans g2), rfl, fun v3 G3 H3 g3 r3 => ⟨(by show 3 ≤ sizeLine; decide), fun p hp => ?_⟩⟩⟩⟩
        have g4 := Grow.new g3.sub hp (.tup [v1, v2, v3])
        exact q _ _ _ (((g1.trans g2).trans g3).trans g4) ⟨p, v1, v2, v3, rfl, upd_same, Rp.mono ((g2.leG.trans g3.leG).trans g4.leG) r1, Rp.mono (g3.leG.trans g4.leG) r2, Rp.mono g4.leG r3⟩
/-- a tuple of alike things -/
theorem xe_tupL {ms : List (Option α)} {j : Nat} (h : XL X Γ B ρ es ms) (hl : Nat.ble ms.length 1000 = true := by rfl) : XE X Γ B ρ (.Tuple es j pos) ((seqO ms).bind fun xs => some (TL.mk xs)) := imE (pe_tup h) fun σ H Q ⟨G, z, A, e, q⟩ => by
  cases hs : seqO ms with
  | none => rw [hs] at e; cases e
  | some xs =>
    rw [hs] at e
    cases e
    refine ⟨G, xs, A, hs, fun vs G' H' g r => ⟨by
      rw [r.length, seqO_length hs]
      exact Nat.le_trans (Nat.le_of_ble_eq_true hl) (by decide), fun p hp => ?_⟩⟩
    have g4 := Grow.new g.sub hp (.tup vs)
    exact q _ _ _ (g.trans g4) ⟨p, vs, rfl, upd_same, RpL.mono g4.leG r⟩

/-! ### lists -/
theorem atI_rep {G : Hp} {vs : List V} {xs : List α} (r : RpL Γ G vs xs) {i : Int} {x : α} (h : atI xs i = some x) : ∃ v, atI vs i = some v ∧ rep Γ G v x := by
  unfold atI at h ⊢
  rw [r.length]
  cases hi : ixN xs.length i with
  | none => rw [hi] at h; cases h
  | some j =>
    rw [hi] at h
    exact r.get h
theorem xe_ix {ma : Option (List α)} {mb : Option Int} (ha : XR X Γ B ρ a ma) (hb : XE X Γ B ρ b mb) (hs : PlainIx b := by intro _ _; rfl) : XE X Γ B ρ (.Subscript a b pos) (b2 ma mb fun xs i => atI xs i) := imE (pe_ix ix_list ha hb hs) fun σ H Q ⟨G, z, A, e, q⟩ => by
  cases ma with
  | none => cases e
  | some xs =>
    cases mb with
    | none => cases e
    | some i =>
      refine ⟨G, xs, A, rfl, fun p vs G1 H1 g1 hp r1 => ⟨G1, i, A.grow g1, rfl, fun v2 G2 H2 g2 r2 => ?_⟩⟩
      obtain ⟨v, hv, r⟩ := atI_rep r1 (show atI xs i = some z from e)
      exact ⟨p, vs, i, v, rfl, rep1 r2, SqL.of (g2.leH _ _ hp), hv, q v G2 H2 (g1.trans g2) (Rp.mono g2.leG r)⟩
/-- places in a tuple -/
theorem xe_fst {m : Option (α × β)} {j : Nat} {p1 : Pos} (ha : XE X Γ B ρ a m) : XE X Γ B ρ (.Subscript a (.Constant (.int 0) j p1) pos) (m.bind fun t => some t.1) := imE (pe_ix ix_tup ha pe_int fun _ _ => rfl) fun σ H Q ⟨G, z, A, e, q⟩ => by
  cases m with
  | none => cases e
  | some t =>
    cases e
    refine ⟨G, t, A, rfl, fun v G1 H1 g1 ⟨p, x, y, h1, h2, h3, h4⟩ => ?_⟩
    exact ⟨p, [x, y], 0, x, h1, rfl, SqT.of (g1.sub.tup h2), rfl, q x G1 H1 g1 h3⟩
theorem xe_snd {m : Option (α × β)} {j : Nat} {p1 : Pos} (ha : XE X Γ B ρ a m) : XE X Γ B ρ (.Subscript a (.Constant (.int 1) j p1) pos) (m.bind fun t => some t.2) := imE (pe_ix ix_tup ha pe_int fun _ _ => rfl) fun σ H Q ⟨G, z, A, e, q⟩ => by
  cases m with
  | none => cases e
  | some t =>
    cases e
    refine ⟨G, t, A, rfl, fun v G1 H1 g1 ⟨p, x, y, h1, h2, h3, h4⟩ => ?_⟩
    exact ⟨p, [x, y], 1, y, h1, rfl, SqT.of (g1.sub.tup h2), rfl, q y G1 H1 g1 h4⟩
/-- len -/
theorem xe_lenR (c : Cok X Γ N sc k) {m : Option (List α)} (ha : XR X Γ B ρ a m) (hg : Glb sc "len") (hm : Γ.mg "len" = none) (s1 : starEach [a] X.env = (false, eval a X.env) :: starEach [] X.env := by rfl) (hpl : (backTo pos (starEach [] X.env)).any (·.1) = false := by rfl) : XE X Γ B ρ (.Call (.Name "len" p) [a] [] pos) (m.bind fun xs => some (xs.length : Int)) :=
  imE (pe_callB call_len_seq (c.gl hg) (by rw [c.hmg]; exact hm) PySem.boot_len (pa_cons ha pa_nil s1) (he := s1)) fun σ H Q ⟨G, z, A, e, q⟩ => by
  cases m with
  | none => cases e
  | some xs =>
    cases e
    exact ⟨G, xs, A, rfl, fun p vs G1 H1 g1 hp r1 => ⟨p, vs, rfl, .inl (SqL.of hp), q _ G1 H1 g1 (by show V.int _ = V.int _; rw [r1.length])⟩⟩
/-- + -/
@[irreducible] def pcat {α : Type} (xs ys : List α) : Option (List α) := if xs.length + ys.length ≤ BIG then some (xs ++ ys) else none
theorem xn_cat {ma mb : Option (List α)} (ha : XR X Γ B ρ a ma) (hb : XR X Γ B ρ b mb) : XN X Γ B ρ (.BinOp a .Add b pos) (b2 ma mb pcat) := imE (pe_op op_cat ha hb) fun σ H Q ⟨G, z, A, e, q⟩ => by
  cases ma with
  | none => cases e
  | some xs =>
    cases mb with
    | none => cases e
    | some ys =>
      obtain ⟨hl, e⟩ := ite_some (by have qq : pcat xs ys = some z := e; unfold pcat at qq; exact qq)
      subst e
      refine ⟨G, xs, A, rfl, fun p1 vs G1 H1 g1 h1 r1 => ⟨G1, ys, A.grow g1, rfl, fun p2 ws G2 H2 g2 h2 r2 => ?_⟩⟩
      exact ⟨p1, p2, vs, ws, rfl, rfl, g2.leH _ _ h1, h2, by rw [r1.length, r2.length]; exact big_le hl, fun p hp => q p _ G2 H2 (g1.trans g2) hp ((r1.mono g2.leG).append r2)⟩
/-- slices -/
def cut {α : Type} (xs : List α) (lo hi : Option Int) : List α := (xs.drop (HT.sIx xs.length 0 lo)).take (HT.sIx xs.length xs.length hi - HT.sIx xs.length 0 lo)
theorem cutV_rep {G : Hp} {vs : List V} {xs : List α} (r : RpL Γ G vs xs) (lo hi : Option Int) : RpL Γ G (cutV vs lo hi) (cut xs lo hi) := by
  unfold cutV cut
  rw [r.length]
  exact (r.drop _).take _
def cO (Γ : Gm) (B : Bs) (ρ : Sto) (m : Option (Option Int)) : TO := fun σ H Q => ∃ G z, At Γ B ρ G H σ ∧ m = some z ∧ ∀ G' H', Grow G H G' H' → Q z H'
abbrev XO (X : Cx) (Γ : Gm) (B : Bs) (ρ : Sto) (e : Option Expr) (m : Option (Option Int)) : Prop := PO X e (cO Γ B ρ m)
theorem xo_none : XO X Γ B ρ none (some none) := ⟨fun pins s σ H Q I ⟨G, z, A, e, q⟩ => (po_none (X := X)).run pins s σ H Q I (by cases e; exact q G H (.refl A.sub))⟩
theorem xo_some {m : Option Int} (h : XE X Γ B ρ e m) : XO X Γ B ρ (some e) (m.bind fun i => some (some i)) := ⟨fun pins s σ H Q I ⟨G, z, A, e, q⟩ => (po_some h).run pins s σ H Q I (by
  cases m with
  | none => cases e
  | some i =>
    cases e
    exact ⟨G, i, A, rfl, fun v G1 H1 g1 r1 => ⟨i, rep1 r1, q G1 H1 g1⟩⟩)⟩
theorem xn_slice {m : Option (List α)} {lo hi : Option Expr} {ml mh : Option (Option Int)} {p2 : Pos} (ha : XR X Γ B ρ a m) (hl : XO X Γ B ρ lo ml) (hh : XO X Γ B ρ hi mh) : XN X Γ B ρ (.Subscript a (.Slice lo hi none p2) pos) (m.bind fun xs => ml.bind fun l => mh.bind fun h => some (cut xs l h)) := imE (pe_slice sl_list ha hl hh) fun σ H Q ⟨G, z, A, e, q⟩ => by
  cases m with
  | none => cases e
  | some xs =>
    cases ml with
    | none => cases e
    | some l =>
      cases mh with
      | none => cases e
      | some h =>
        cases e
        exact ⟨G, xs, A, rfl, fun p vs G1 H1 g1 hp r1 => ⟨G1, l, A.grow g1, rfl, fun G2 H2 g2 => ⟨G2, h, A.grow (g1.trans g2), rfl, fun G3 H3 g3 =>
          ⟨p, vs, rfl, SqL.of (g3.leH _ _ (g2.leH _ _ hp)), fun q' hq => q q' _ G3 H3 ((g1.trans g2).trans g3) hq (RpL.mono (g2.leG.trans g3.leG) (cutV_rep r1 l h))⟩⟩⟩⟩
/-- list(xs) -/
theorem xn_listOf (c : Cok X Γ N sc k) {m : Option (List α)} (ha : XR X Γ B ρ a m) (hg : Glb sc "list") (hm : Γ.mg "list" = none) (s1 : starEach [a] X.env = (false, eval a X.env) :: starEach [] X.env := by rfl) : XN X Γ B ρ (.Call (.Name "list" p) [a] [] pos) m :=
  imE (pe_callTy call_list_of (c.gl hg) (by rw [c.hmg]; exact hm) (by decide +kernel) (pa_cons ha pa_nil s1) (he := s1)) fun σ H Q ⟨G, xs, A, e, q⟩ =>
  ⟨G, xs, A, e, fun p vs G1 H1 g1 hp r1 => ⟨p, vs, rfl, .inl (SqL.of hp), fun l hl => q l vs G1 H1 g1 hl r1⟩⟩
/-- in, not in: plain values -/
class AtE (α : Type) [At1 α] [DecidableEq α] : Prop where
  eqv : ∀ a b : α, eqV (toV a) (toV b) = decide (a = b)
instance : AtE Int := ⟨fun a b => by show (a == b) = _; exact Bool.beq_eq_decide_eq a b⟩
instance : AtE Tt := ⟨fun a b => by show (a.s == b.s) = _; rw [Bool.beq_eq_decide_eq]; exact decide_eq_decide.mpr ⟨fun h => Tt.ext' h, fun h => by rw [h]⟩⟩
instance : AtE Bool := ⟨fun a b => by show (a == b) = _; exact Bool.beq_eq_decide_eq a b⟩
theorem inV_dec {α : Type} [At1 α] [DecidableEq α] [AtE α] (x : α) (xs : List α) : inV (toV x) (xs.map toV) = decide (x ∈ xs) := by
  unfold inV
  rw [List.any_map, Bool.eq_iff_iff, List.any_eq_true, decide_eq_true_iff]
  constructor
  · rintro ⟨y, hy, e⟩
    have e : eqV (toV y) (toV x) = true := e
    rw [AtE.eqv] at e
    rw [← of_decide_eq_true e]
    exact hy
  · intro h
    exact ⟨x, h, by show eqV (toV x) (toV x) = true; rw [AtE.eqv]; exact decide_eq_true rfl⟩
theorem flat_map {α : Type} [At1 α] (xs : List α) : (xs.map toV).all flatV = true := by
  rw [List.all_map, List.all_eq_true]
  intro x _
  exact At1.flat x
theorem xe_in {α : Type} [At1 α] [DecidableEq α] [AtE α] {ma : Option α} {mb : Option (List α)} (ha : XE X Γ B ρ a ma) (hb : XR X Γ B ρ b mb) (hm : behindInMarks .In b = false) : XE X Γ B ρ (.Compare a [.In] [b] pos) (b2 ma mb fun x xs => some (isIn x xs)) := imE (pe_cmpR op_in_seq ha hb hm) fun σ H Q ⟨G, z, A, e, q⟩ => by
  cases ma with
  | none => cases e
  | some x =>
    cases mb with
    | none => cases e
    | some xs =>
      cases e
      refine ⟨G, x, A, rfl, fun v G1 H1 g1 r1 => ⟨G1, xs, A.grow g1, rfl, fun p vs G2 H2 g2 hp r2 => ⟨p, vs, rfl, .inl (SqL.of hp), by rw [rep1 r1]; exact At1.flat x, by rw [r2.toV]; exact flat_map xs, q _ G2 H2 (g1.trans g2) ?_⟩⟩⟩
      show V.bl (inV v vs) = V.bl _
      rw [rep1 r1, r2.toV, inV_dec]
theorem xe_notIn {α : Type} [At1 α] [DecidableEq α] [AtE α] {ma : Option α} {mb : Option (List α)} (ha : XE X Γ B ρ a ma) (hb : XR X Γ B ρ b mb) (hm : behindInMarks .NotIn b = false) : XE X Γ B ρ (.Compare a [.NotIn] [b] pos) (b2 ma mb fun x xs => some (!isIn x xs)) := imE (pe_cmpR op_notIn_seq ha hb hm) fun σ H Q ⟨G, z, A, e, q⟩ => by
  cases ma with
  | none => cases e
  | some x =>
    cases mb with
    | none => cases e
    | some xs =>
      cases e
      refine ⟨G, x, A, rfl, fun v G1 H1 g1 r1 => ⟨G1, xs, A.grow g1, rfl, fun p vs G2 H2 g2 hp r2 => ⟨p, vs, rfl, .inl (SqL.of hp), by rw [rep1 r1]; exact At1.flat x, by rw [r2.toV]; exact flat_map xs, q _ G2 H2 (g1.trans g2) ?_⟩⟩⟩
      show V.bl (!inV v vs) = V.bl _
      rw [rep1 r1, r2.toV, inV_dec]
/-- append to a list of one's own -/
@[irreducible] def push {α : Type} (xs : List α) (x : α) : Option (List α) := if xs.length + 1 ≤ BIG then some (xs ++ [x]) else none
theorem xp_append (d : Dok X Γ B N sc k fx W M) {m : Option α} {x : Str} (i : Nat) {xs : List α} {apos cpos : Pos} (hi : ρ[i]? = some (ow (OL.mk xs))) (hN : N[i]? = some x) (hv : Vis sc x) (he : XE X Γ B ρ e m) (hd : (x == ("__debug__" : Str)) = false := by decide) (hcd : (x == ("__classdict__" : Str)) = false := by decide)
    (hfew : ((backTo cpos (starEach [e] X.env)).all (fun x => !x.1) && (backToKw cpos (keywordEach [] X.env)).all (fun x => x.1.isSome)
      && decide ([e].length + ([] : List Keyword).length + (if ([] : List Keyword).isEmpty then 0 else 1) < 30)) = true := by rfl)
    (hline : (apos.endLine == cpos.line) = true := by rfl) (hs : starEach [e] X.env = (false, eval e X.env) :: starEach [] X.env := by rfl) (hw : swapsWith (.Call (.Attribute (.Name x p) "append" apos) [e] [] cpos) none pos.line X.env = pure false := by rfl) :
    XP1 X Γ B ρ (.Expr (.Call (.Attribute (.Name x p) "append" apos) [e] [] cpos) pos) (m.bind fun y => push xs y) (fun ys => ρ.set i (ow (OL.mk ys))) :=
  imS (ps_expr (pe_bm PySem.F.plainAttrs_list PySem.F.slot_list_append PySem.F.type_list_append mt_append (pv_ d.toCok hN hv hd hcd) (pa_cons he pa_nil hs) (by rfl) hfew hline hs (by rfl)) hw) fun D σ H ⟨G, s, A, e, q⟩ => by
  cases m with
  | none => cases e
  | some y =>
    obtain ⟨hl, e⟩ := ite_some (by have qq : push xs y = some s := e; unfold push at qq; exact qq)
    subst e
    obtain ⟨v, fp, h1, ⟨p, vs, rfl, h3, h4, h5⟩, h6⟩ := A.getO hi
    refine ⟨.ref p, h1, .inl ⟨rfl, vs, SqL.of h4⟩, G, y, A, rfl, fun v G1 H1 g1 r1 => ⟨p, vs, v, rfl, rfl, g1.leH _ _ h4, by rw [show vs.length = xs.length from h5.length]; exact big_lt (by omega), ?_⟩⟩
    exact q G1 _ σ ((A.grow g1).setL hi h1 ((h5.mono g1.leG).append (.cons r1 .nil)))
/-- what is there, of an optional thing -/
theorem xe_unopt {m : Option (Option α)} (h : XE X Γ B ρ e m) : XE X Γ B ρ e (m.bind fun o => o) := imE h fun σ H Q ⟨G, z, A, e, q⟩ => by
  cases m with
  | none => cases e
  | some o =>
    cases o with
    | none => cases e
    | some y =>
      have e : some y = some z := e
      have e := Option.some.inj e
      subst e
      exact ⟨G, some y, A, rfl, fun v G' H' g r => q v G' H' g r.2⟩
/-- return of a list of one's own -/
theorem xb_retO {L β C : Type} [Rp β] {F : Kt L β C} (c0 : Cok X Γ N sc k) {x : Str} (i : Nat) {α : Type} {I : Ow α} {z : α} {c : C} (hi : ρ[i]? = some (.own α I z)) (hc : I.canF = true) (hN : N[i]? = some x) (hv : Vis sc x) {b : β} (hb : ∀ G v, I.iF.rep Γ G v (I.toF z) → rep Γ G v b)
    (hfp : ∀ G H v fp, I.own Γ G H v fp z → ∀ p, v = .ref p → p ∈ fp) (hM : F.fr = true → B.M = []) (ops : List (Nat × Bool)) (hw : Sim.wks (ρ.set i (.val I.F I.iF (I.toF z))) ops = F.str c) (hd : (x == ("__debug__" : Str)) = false := by decide) (hcd : (x == ("__classdict__" : Str)) = false := by decide) :
    XB1 X Γ B F ρ (.Return (some (.Name x p)) pos) (S := S) (some (.ret b c)) sto := imS (lkS' (ps_ret (pv_ c0 hN hv hd hcd))) fun D σ H ⟨G, s, A, e, q⟩ => by
  cases e
  have hlen : i < ρ.length := (List.getElem?_eq_some_iff.mp hi).1
  obtain ⟨φ, s1, s2⟩ := A.slots
  obtain ⟨o, e1, v, e2, ow'⟩ := s1.ok i _ hi
  rw [e2] at e1
  refine ⟨v, e1, ((A.freeze hi hc).mono fun H1 ⟨G', l, A'⟩ => ?_).join⟩
  refine (A'.wks ops).mono fun H2 ⟨G2, l2, A2⟩ => ?_
  obtain ⟨w, h1, h2⟩ := A'.get (α := I.F) (I := I.iF) (a := I.toF z) (i := i) (by rw [List.getElem?_set_self hlen])
  rw [e1] at h1
  cases h1
  refine q v G2 H2 σ (hw ▸ A2) (Rp.mono l2 (hb _ _ h2)) fun hfr p hp => ?_
  rcases (s2 i p (hfp _ _ _ _ ow' p hp)).2 with z | z
  · exact z
  · rw [hM hfr] at z; simp at z
/-! ### dicts -/
def look {κ α : Type} [DecidableEq κ] (d : List (κ × α)) (k : κ) : Option α := (d.find? fun kv => decide (kv.1 = k)).map (·.2)
theorem look_nil {κ α : Type} [DecidableEq κ] {x : κ} : look ([] : List (κ × α)) x = none := rfl
theorem look_pos {κ α : Type} [DecidableEq κ] {q : κ × α} {r : List (κ × α)} {x : κ} (e : q.1 = x) : look (q :: r) x = some q.2 := by simp [look, List.find?_cons, e]
theorem look_neg {κ α : Type} [DecidableEq κ] {q : κ × α} {r : List (κ × α)} {x : κ} (e : ¬ q.1 = x) : look (q :: r) x = look r x := by simp [look, List.find?_cons, e]
theorem RpK.look {κ : Type} [K1 κ] [DecidableEq κ] {G : Hp} {x : κ} : ∀ {kvs : List (Key × V)} {d : List (κ × α)}, RpK Γ G kvs d → (∀ y, Sim.look d x = some y → ∃ v, valV kvs (key x) = some v ∧ rep Γ G v y) ∧ (Sim.look d x = none → valV kvs (key x) = none)
  | _, _, .nil => ⟨fun y h => (by cases h), fun _ => rfl⟩
  | p :: _, q :: d', .cons r t => by
    have ih := RpK.look (x := x) t
    by_cases e : q.1 = x
    · refine ⟨fun y h => ?_, fun h => ?_⟩
      · rw [look_pos e] at h
        cases h
        exact ⟨p.2, valV_pos (by rw [r.1, e]), r.2⟩
      · rw [look_pos e] at h
        cases h
    · have ne : ¬ p.1 = key x := fun z => e (K1.inj _ _ (r.1.symm.trans z))
      rw [look_neg e, valV_neg ne]
      exact ih
theorem K1_kV {κ : Type} [K1 κ] [At1 κ] (h : ∀ x : κ, kV (key x) = toV x) {G : Hp} {v : V} {x : κ} (r : rep Γ G v x) : v = kV (key x) := by rw [h]; exact rep1 r
class KAt (κ : Type) [K1 κ] [At1 κ] : Prop where
  same : ∀ x : κ, kV (key x) = toV x
instance : KAt Int := ⟨fun _ => rfl⟩
instance : KAt Tt := ⟨fun _ => rfl⟩
theorem xe_dget (c : Cok X Γ N sc k) {κ : Type} [K1 κ] [At1 κ] [KAt κ] [DecidableEq κ] {md : Option (List (κ × α))} {mk : Option κ} (ha : XDK X Γ B ρ a md) (hb : XE X Γ B ρ b mk) (hs : NoSl b := by intro _ _; rfl) : XE X Γ B ρ (.Subscript a b pos) (b2 md mk look) := imE (pe_dget c.hu ha hb hs) fun σ H Q ⟨G, z, A, e, q⟩ => by
  cases md with
  | none => cases e
  | some d =>
    cases mk with
    | none => cases e
    | some x =>
      refine ⟨G, d, A, rfl, fun p kvs G1 H1 g1 hp r1 => ⟨G1, x, A.grow g1, rfl, fun v2 G2 H2 g2 r2 => ?_⟩⟩
      obtain ⟨v, hv, r⟩ := (RpK.look (x := x) r1).1 z e
      have rd : Rd H2 p (.dK kvs) := by
        rcases hp with hp | ⟨ob, hp⟩
        · exact .inl (g2.leH _ _ hp)
        · exact .inr ⟨ob, g2.leH _ _ hp⟩
      exact ⟨p, v, rfl, .inl ⟨kvs, key x, rd, by rw [KAt.same]; exact rep1 r2, hv.symm⟩, q v G2 H2 (g1.trans g2) (Rp.mono g2.leG r)⟩
theorem xe_din (c : Cok X Γ N sc k) {κ : Type} [K1 κ] [At1 κ] [KAt κ] [DecidableEq κ] {md : Option (List (κ × α))} {mk : Option κ} (ha : XE X Γ B ρ a mk) (hb : XDK X Γ B ρ b md) (h1 : behindInMarks .In b = false := by rfl) : XE X Γ B ρ (.Compare a [.In] [b] pos) (b2 mk md fun x d => some (look d x).isSome) := imE (pe_cmp (pc_din c.hu ha hb) h1) fun σ H Q ⟨G, z, A, e, q⟩ => by
  cases mk with
  | none => cases e
  | some x =>
    cases md with
    | none => cases e
    | some d =>
      cases e
      refine ⟨G, x, A, rfl, fun v G1 H1 g1 r1 => ⟨G1, d, A.grow g1, rfl, fun p kvs G2 H2 g2 hp r2 => ⟨p, valV kvs (key x), rfl, .inl ⟨kvs, key x, hp, by rw [KAt.same]; exact rep1 r1, rfl⟩, q _ G2 H2 (g1.trans g2) ?_⟩⟩⟩
      show V.bl _ = V.bl _
      cases hl : look d x with
      | none => rw [(RpK.look (x := x) r2).2 hl]; rfl
      | some y =>
        obtain ⟨v', hv, _⟩ := (RpK.look (x := x) r2).1 y hl
        rw [hv]; rfl
theorem xe_dnotIn (c : Cok X Γ N sc k) {κ : Type} [K1 κ] [At1 κ] [KAt κ] [DecidableEq κ] {md : Option (List (κ × α))} {mk : Option κ} (ha : XE X Γ B ρ a mk) (hb : XDK X Γ B ρ b md) (h1 : behindInMarks .NotIn b = false := by rfl) : XE X Γ B ρ (.Compare a [.NotIn] [b] pos) (b2 mk md fun x d => some (!(look d x).isSome)) := imE (pe_cmp (pc_dnotin c.hu ha hb) h1) fun σ H Q ⟨G, z, A, e, q⟩ => by
  cases mk with
  | none => cases e
  | some x =>
    cases md with
    | none => cases e
    | some d =>
      cases e
      refine ⟨G, x, A, rfl, fun v G1 H1 g1 r1 => ⟨G1, d, A.grow g1, rfl, fun p kvs G2 H2 g2 hp r2 => ⟨p, valV kvs (key x), rfl, .inl ⟨kvs, key x, hp, by rw [KAt.same]; exact rep1 r1, rfl⟩, q _ G2 H2 (g1.trans g2) ?_⟩⟩⟩
      show V.bl _ = V.bl _
      cases hl : look d x with
      | none => rw [(RpK.look (x := x) r2).2 hl]; rfl
      | some y =>
        obtain ⟨v', hv, _⟩ := (RpK.look (x := x) r2).1 y hl
        rw [hv]; rfl
end
end Sim

set_option Elab.async false
set_option autoImplicit false
set_option linter.all false
set_option maxRecDepth 100000
set_option maxHeartbeats 1000000
namespace Sim
open PySem L2
open Rp (rep)
open At1 (toV)
open K1 (key)
open KT (keys)
open Ow (own)
open RpA (repA stoA)

/-! ### texts, sign by sign -/
/-- a text of one sign -/
structure Ch where
  c : Nat
  ok : c < 0x110000
  deriving DecidableEq
instance : At1 Ch := ⟨fun x => .str ⟨#[x.c]⟩, fun _ => rfl⟩
theorem Ch.ext' {a b : Ch} (h : a.c = b.c) : a = b := by
  cases a; cases b; cases h; rfl
theorem Tt.get (z : Tt) {i c : Nat} (h : z.s.cps[i]? = some c) : c < 0x110000 := by
  have q := z.ok
  unfold PyData.strOk at q
  rw [Array.all_eq_true] at q
  obtain ⟨h1, h2⟩ := Array.getElem?_eq_some_iff.mp h
  have := q i h1
  rw [h2] at this
  exact of_decide_eq_true this
theorem Tt.mem (z : Tt) {c : Nat} (h : c ∈ z.s.cps.toList) : c < 0x110000 := by
  obtain ⟨i, hi⟩ := List.getElem?_of_mem h
  exact z.get (i := i) (by simpa using hi)
def signs (z : Tt) : List Ch := z.s.cps.toList.pmap Ch.mk fun _ h => z.mem h
theorem signs_get (z : Tt) {i c : Nat} (h : z.s.cps[i]? = some c) : (signs z)[i]? = some ⟨c, z.get h⟩ := by
  unfold signs
  have h : z.s.cps.toList[i]? = some c := by simpa using h
  rw [List.getElem?_pmap]
  simp [h]
theorem signs_length (z : Tt) : (signs z).length = z.s.cps.size := by simp [signs]
def inS (c : Ch) (z : Tt) : Bool := decide (c.c ∈ z.s.cps.toList)
section
variable {X : Cx} {Γ : Gm} {B : Bs} {ρ ρ' : Sto} {N : List Str} {sc : Scope} {k : Nat} {fx : List Nat} {W : WX} {M : List Addr} {pos p p' : Pos} {e a b o tg it elt : Expr} {es : List Expr} {S : Type} {sto : S → Sto}
variable {α β γ : Type} [Rp α] [Rp β] [Rp γ]
theorem xi_str {m : Option Tt} (h : XE X Γ B ρ e m) : XI X Γ B ρ tg e (m.bind fun z => some (signs z)) := imI (pi_str h) fun σ H R ⟨G, xs, A, e, q⟩ => by
  cases m with
  | none => cases e
  | some z =>
    cases e
    refine ⟨G, z, A, rfl, fun v G1 H1 g1 r1 => ⟨z.s, rep1 r1, q _ G1 H1 g1 ⟨fun i H v H' => H' = H ∧ ∃ c, z.s.cps[i]? = some c ∧ v = .str ⟨#[c]⟩, ?_, fun i H v H1 hi ⟨y1, c, y2, y3⟩ G2 l2 s2 => ?_⟩⟩⟩
    · rw [signs_length]
      exact walk_str.mono (fun _ _ => trivial) fun i H x H' _ _ y => y
    · subst y1
      exact ⟨⟨c, z.get y2⟩, G2, signs_get z y2, .refl s2, y3⟩
theorem o_inS : Op2 Γ (fun x y H Q => ∃ (c : Nat) (z : Str), x = .str ⟨#[c]⟩ ∧ y = .str z ∧ Q (.bl (decide (c ∈ z.cps.toList))) H) fun (c : Ch) (z : Tt) => some (inS c z) := op2_pure fun p q z H Q e k => ⟨p.c, q.s, rfl, rfl, by cases e; exact k⟩
theorem o_notInS : Op2 Γ (fun x y H Q => ∃ (c : Nat) (z : Str), x = .str ⟨#[c]⟩ ∧ y = .str z ∧ Q (.bl (!decide (c ∈ z.cps.toList))) H) fun (c : Ch) (z : Tt) => some (!inS c z) := op2_pure fun p q z H Q e k => ⟨p.c, q.s, rfl, rfl, by cases e; exact k⟩
/-- len of a text -/
@[irreducible] def slen (z : Tt) : Option Int := if z.s.length ≤ BIG then some (z.s.length : Int) else none
theorem xe_lenS (c : Cok X Γ N sc k) {m : Option Tt} (ha : XE X Γ B ρ a m) (hg : Glb sc "len") (hm : Γ.mg "len" = none) (s1 : starEach [a] X.env = (false, eval a X.env) :: starEach [] X.env := by rfl) : XE X Γ B ρ (.Call (.Name "len" p) [a] [] pos) (m.bind slen) :=
  imE (pe_callB call_len_str (c.gl hg) (by rw [c.hmg]; exact hm) PySem.boot_len (pa_cons ha pa_nil s1) (he := s1)) fun σ H Q ⟨G, z, A, e, q⟩ => by
  cases m with
  | none => cases e
  | some x =>
    obtain ⟨hl, e⟩ := ite_some (by have qq : slen x = some z := e; unfold slen at qq; exact qq)
    subst e
    exact ⟨G, x, A, rfl, fun v G1 H1 g1 r1 => ⟨x.s, by rw [rep1 r1]; rfl, big_le hl, q _ G1 H1 g1 rfl⟩⟩

/-! ### list comprehensions -/
def lcM {α γ : Type} (t : α → Option Bool) (f : α → Option γ) : List α → Option (List γ)
  | [] => some []
  | x :: r => (t x).bind fun b => if b = true then (f x).bind fun y => (lcM t f r).bind fun ys => some (y :: ys) else lcM t f r
/-- .. where there is room -/
@[irreducible] def lcB {α γ : Type} (t : α → Option Bool) (f : α → Option γ) (xs : List α) : Option (List γ) := if xs.length ≤ BIG then lcM t f xs else none
theorem lcM_len {α γ : Type} {t : α → Option Bool} {f : α → Option γ} : ∀ {xs : List α} {ys : List γ}, lcM t f xs = some ys → ys.length ≤ xs.length
  | [], ys, h => by cases h; exact Nat.le_refl _
  | x :: r, ys, h => by
    unfold lcM at h
    cases ht : t x with
    | none => rw [ht] at h; cases h
    | some b =>
      rw [ht] at h
      cases b with
      | false =>
        have h : lcM t f r = some ys := h
        exact Nat.le_succ_of_le (lcM_len h)
      | true =>
        cases hf : f x with
        | none => rw [hf] at h; cases h
        | some y =>
          rw [hf] at h
          cases hr : lcM t f r with
          | none => rw [hr] at h; cases h
          | some zs =>
            rw [hr] at h
            cases h
            exact Nat.succ_le_succ (lcM_len hr)
theorem At.wiped {G H : Hp} {σ : St} (A : At Γ B ρ G H σ) (i : Nat) (hf : i ∉ B.fx) : At Γ B (ρ.set i .dead) G H (σ.set i none) := by
  by_cases hi : i < ρ.length
  · obtain ⟨φ, h1, h3⟩ := A.slots
    refine ⟨A.sub, A.le, A.keep, A.live, A.thin, ⟨setφ φ i [], h1.set hi rfl fun j x _ hx => by simp at hx, fun j a ha => ?_⟩, fun j hj => ?_⟩
    · rcases mem_setφ ha with ⟨_, q⟩ | ⟨_, q⟩
      · simp at q
      · exact h3 j a q
    · rw [List.getElem?_set_ne fun z => hf (by rw [z]; exact hj)]
      exact A.fix j hj
  · rw [List.set_eq_of_length_le (by omega), List.set_eq_of_length_le (by rw [A.len]; omega)]
    exact A
theorem wipe_set1 {σ : St} {i : Nat} {v : V} : wipe ((wipe σ [i]).set i (some v)) [i] = wipe σ [i] := by
  show (((σ.set i none).set i (some v)).set i none) = σ.set i none
  simp
/-- the heap without the list in the making -/
def hideD (H : Hp) (D : Addr) : Hp := fun a => if a = D then none else H a
theorem Grow.hide {G0 H0 G H : Hp} {D : Addr} (g : Grow G0 H0 G H) (h0 : H0 D = none) (hG : G D = none) : Grow G0 H0 G (hideD H D) := by
  refine ⟨g.leG, fun a o e => ?_, fun a o e => ?_, g.thin⟩
  · have z : a ≠ D := fun z => by rw [z, h0] at e; cases e
    show (if a = D then none else H a) = some o
    rw [if_neg z]; exact g.leH a o e
  · have z : a ≠ D := fun z => by rw [z, hG] at e; cases e
    have hz : hideD H D a = H a := if_neg z
    rw [hz]
    exact g.sub a o e
theorem upd_hide {H : Hp} {D : Addr} {o : HO} (h : H D = some o) : upd (hideD H D) D o = H := by
  funext a
  unfold upd hideD
  by_cases z : a = D
  · rw [if_pos z, z, h]
  · rw [if_neg z, if_neg z]
/-- a step of growth beside the list in the making, then an item -/
theorem Grow.item {G0 H0 G1 H1 G2 H2 : Hp} {D : Addr} {vs ws : List V} (g : Grow G0 H0 G1 H1) (h0 : H0 D = none) (hG : G1 D = none) (hD : H1 D = some (.lst vs)) (g2 : Grow G1 H1 G2 H2) :
    Grow G0 H0 G2 (upd H2 D (.lst ws)) ∧ G2 D = none ∧ H2 D = some (.lst vs) := by
  have hG2 : G2 D = none := (g2.thin D (some_ne hD) hG).none fun ws e => by rw [hD] at e; cases e
  have g3 := g.trans g2
  refine ⟨⟨g3.leG, fun a o e => ?_, fun a o e => ?_, g3.thin⟩, hG2, g2.leH _ _ hD⟩
  · have z : a ≠ D := fun z => by rw [z, h0] at e; cases e
    rw [upd_ne z]; exact g3.leH a o e
  · have z : a ≠ D := fun z => by rw [z, hG2] at e; cases e
    rw [upd_ne z]; exact g3.sub a o e
/-- within a comprehension's block -/
theorem Cok.blk (c : Cok X Γ N sc k) {s : Shared} {H : Hp} {scope : Scope} {C : Addr} {cl : List (Str × Addr)} {fp : List Addr} {sc' : Scope} (h : relS scope sc = sc') : Cok (X.blk s H scope (compEnvC scope cl C X.env) fp) Γ N sc' k :=
  ⟨c.hP, c.hw, c.hK, c.hmg, c.hbase, c.hN, c.nd, by rw [← h, ← c.hsc]; rfl, c.calm, c.room⟩
theorem lc_sim {i : Nat} {mxs : Option (List α)} {t : α → Option Bool} {f : α → Option γ} (hf : i ∉ B.fx) (hρ : i < ρ.length) {σ : St} {H : Hp} {Q : VK} (h : cN Γ B ρ (mxs.bind (lcB t f)) σ H Q) :
    tLc (cI Γ B ρ mxs) (gName i) (fun σ H Q => ∃ a, cT Γ B (ρ.set i (vl a)) (t a) σ H Q) (fun σ H Q => ∃ a, cE Γ B (ρ.set i (vl a)) (f a) σ H Q) [i] σ H Q := by
  obtain ⟨G, zs, A, e, q⟩ := h
  cases mxs with
  | none => cases e
  | some xs =>
    obtain ⟨hl, e⟩ : xs.length ≤ BIG ∧ lcM t f xs = some zs := by
      have e : lcB t f xs = some zs := e
      unfold lcB at e
      by_cases hc : xs.length ≤ BIG
      · rw [if_pos hc] at e; exact ⟨hc, e⟩
      · rw [if_neg hc] at e; cases e
    refine ⟨G, xs, A, rfl, fun J G' H' g ⟨Y, hw, hy⟩ D hD => ?_⟩
    have hGD : G' D = none := g.sub.none hD
    refine lc_it (g := gName i) (tt := fun σ H Q => ∃ a, cT Γ B (ρ.set i (vl a)) (t a) σ H Q) (te := fun σ H Q => ∃ a, cE Γ B (ρ.set i (vl a)) (f a) σ H Q) (vs := [i]) (σ := σ) (Qd := fun H2 => Q (.ref D) H2) hw (fun j H2 => ∃ G1 vs ys ws, Grow G' H' G1 H2 ∧ G1 D = none ∧ H2 D = some (.lst vs) ∧ RpL Γ G1 vs ys ∧ lcM t f (xs.drop j) = some ws ∧ ys ++ ws = zs)
      ⟨G', [], [], zs, Grow.newO g.sub hD _, hGD, upd_same, .nil, e, rfl⟩ (fun j H2 _ ⟨G1, vs, ys, ws, g1, _⟩ => ⟨G1, g1.leG, g1.sub⟩) ?_ ?_
    · rintro j v H2 H3 hj ⟨G1, vs, ys, ws, g1, hG1, hD1, r1, e1, e2⟩ y
      obtain ⟨x0, G2, hx0, g2, rv⟩ := hy j H2 v H3 hj y G1 g1.leG g1.sub
      have ed : xs.drop j = x0 :: xs.drop (j + 1) := by
        obtain ⟨h1, h2⟩ := List.getElem?_eq_some_iff.mp hx0
        rw [List.drop_eq_getElem_cons h1, h2]
      rw [ed] at e1
      unfold lcM at e1
      have A2 := ((A.grow g).grow g1).grow g2
      have A3 : At Γ B (ρ.set i (vl x0)) G2 H3 ((σ.set i none).set i (some v)) := by
        have := (A2.wiped i hf).setV (i := i) (by simpa using hρ) rv hf
        simpa using this
      show wipe ((wipe σ [i]).set i (some v)) [i] = wipe σ [i] ∧ _
      refine ⟨wipe_set1, ?_⟩
      cases hb : t x0 with
      | none => rw [hb] at e1; cases e1
      | some b =>
        rw [hb] at e1
        refine ⟨x0, G2, b, A3, hb, fun G4 H4 g4 => ?_⟩
        cases b with
        | false =>
          have e1 : lcM t f (xs.drop (j + 1)) = some ws := e1
          obtain ⟨z1, z2, z3⟩ := Grow.item (ws := vs) g1 hD hG1 hD1 (g2.trans g4)
          refine ⟨G4, vs, ys, ws, ⟨z1.leG, ((g1.trans g2).trans g4).leH, ((g1.trans g2).trans g4).sub, z1.thin⟩, z2, z3, r1.mono (g2.trans g4).leG, e1, e2⟩
        | true =>
          have e1 : (f x0).bind (fun y => (lcM t f (xs.drop (j + 1))).bind fun ys => some (y :: ys)) = some ws := e1
          cases hfx : f x0 with
          | none => rw [hfx] at e1; cases e1
          | some y =>
            rw [hfx] at e1
            cases hr : lcM t f (xs.drop (j + 1)) with
            | none => rw [hr] at e1; cases e1
            | some us =>
              rw [hr] at e1
              cases e1
              refine ⟨x0, G4, y, A3.grow g4, hfx, fun w G5 H5 g5 r5 => ?_⟩
              obtain ⟨z1, z2, z3⟩ := Grow.item (ws := vs ++ [w]) g1 hD hG1 hD1 ((g2.trans g4).trans g5)
              have hz := lcM_len hr
              have hzl : zs.length ≤ xs.length := lcM_len e
              refine ⟨vs, z3, ?_, G5, vs ++ [w], ys ++ [y], us, z1, z2, upd_same, (r1.mono ((g2.trans g4).trans g5).leG).append (.cons r5 .nil), rfl, by rw [← e2]; simp⟩
              have : vs.length = ys.length := r1.length
              have h3 : ys.length ≤ zs.length := by rw [← e2]; simp
              exact big_lt (by omega)
    · rintro H2 ⟨G1, vs, ys, ws, g1, hG1, hD1, r1, e1, e2⟩
      rw [List.drop_length] at e1
      have e1 : some ([] : List γ) = some ws := e1
      have e1 := Option.some.inj e1
      subst e1
      rw [List.append_nil] at e2
      subst e2
      have := q D vs G1 (hideD H2 D) (g.trans (g1.hide hD hG1)) (if_pos rfl) r1
      rw [upd_hide hD1] at this
      exact this
/-- [elt for x in it if t] -/
theorem lc_pre {i : Nat} (hρ : Nat.ble (i + 1) ρ.length = true) (hfc : fx.contains i = false) (hfx : B.fx = fx) : i ∉ B.fx ∧ i < ρ.length := by
  refine ⟨fun hm => ?_, Nat.le_of_ble_eq_true hρ⟩
  rw [hfx] at hm
  rw [List.contains_iff_mem.mpr hm] at hfc
  cases hfc
theorem xn_lc (d : Cok X Γ N sc k) {x : Str} {px : Pos} {i : Nat} {ifs : List Expr} {scope sc' : Scope} {mxs : Option (List α)} {t : α → Option Bool} {f : α → Option γ} (hi : XI X Γ B ρ (.Name x px) it mxs) (hsc : relS scope sc = sc') (hB : blkC N sc scope [(x, i)] = true) (hx : N[i]? = some x) (hxl : scope.names.lookup x = some .local) (hxl' : sc'.names.lookup x = some .local) (hfx : B.fx = fx)
    (ht : ∀ X', Cok X' Γ N sc' k → ∀ a : α, PTs X' ifs (cT Γ B (ρ.set i (vl a)) (t a)))
    (he : ∀ X', Cok X' Γ N sc' k → ∀ a : α, XE X' Γ B (ρ.set i (vl a)) elt (f a)) (hs : ∀ x, foldedSetIterable it X.env x = pure x := by intro _; rfl) (hρ : Nat.ble (i + 1) ρ.length = true := by rfl) (hfc : fx.contains i = false := by rfl) :
    XN X Γ B ρ (.ListComp elt [⟨.Name x px, it, ifs, 0⟩] scope pos) (mxs.bind (lcB t f)) := by
  have cb : ∀ (s : Shared) (H : Hp) (C : Addr) (cl : List (Str × Addr)) (fp : List Addr), Cok (X.blk s H scope (compEnvC scope cl C X.env) fp) Γ N sc' k := fun s H C cl fp => d.blk hsc
  exact imE (pe_lc (own := [(x, i)]) (g := gName i) (tt := fun σ H Q => ∃ a, cT Γ B (ρ.set i (vl a)) (t a) σ H Q) (te := fun σ H Q => ∃ a, cE Γ B (ρ.set i (vl a)) (f a) σ H Q) d.calm (by rw [d.hN]; exact d.nd) hi (by rw [d.hN, d.hsc]; exact blkOk_by hB)
    (fun s H C cl fp => pg_name (i := i) (by rw [(cb s H C cl fp).hN]; exact d.nd) (by rw [(cb s H C cl fp).hN]; exact hx) (by rw [(cb s H C cl fp).hsc]; exact .inl hxl') (.inr (by rw [(cb s H C cl fp).hsc]; exact hxl')))
    (fun s H C cl fp => ⟨fun pins s' σ H' Q I ⟨a, q⟩ => (ht _ (cb s H C cl fp) a).run pins s' σ H' Q I q⟩) (fun s H C cl fp => allE fun a => he _ (cb s H C cl fp) a) hs) fun σ H Q h => lc_sim (lc_pre hρ hfc hfx).1 (lc_pre hρ hfc hfx).2 h
theorem sw_lc (c : Cok X Γ N sc k) {elt : Expr} {gens : List Comprehension} {scope : Scope} {y : Str} {py pos : Pos} {line : Nat} : swapsWith (.ListComp elt gens scope pos) (some (.Name y py)) line X.env =
    pure ((if sc.kind.isAnnotationScope then ScopeKind.function else sc.kind) == .function && sc.names.lookup y == some .local && py.line == pos.line && !(scope.names.any fun (n, k) => n == y && (k == .local || k == .cell))) := by
  rw [← c.hsc]; rfl
/-- y = [elt for x in it if t], the name a plain local of the def's -/
theorem xp_setLcN (d : Dok X Γ B N sc k fx W M) {x y : Str} {px py : Pos} {i j : Nat} {ifs : List Expr} {scope sc' : Scope} {p : Pos} {mxs : Option (List α)} {t : α → Option Bool} {f : α → Option γ} (hj : N[j]? = some y) (hyl : sc.names.lookup y = some .local) (hsw : ((if sc.kind.isAnnotationScope then ScopeKind.function else sc.kind) == .function && sc.names.lookup y == some .local && py.line == p.line && !(scope.names.any fun (n, k) => n == y && (k == .local || k == .cell))) = true) (hi : XI X Γ B ρ (.Name x px) it mxs) (hsc : relS scope sc = sc') (hB : blkC N sc scope [(x, i)] = true) (hx : N[i]? = some x) (hxl : scope.names.lookup x = some .local) (hxl' : sc'.names.lookup x = some .local)
    (ht : ∀ X', Cok X' Γ N sc' k → ∀ a : α, PTs X' ifs (cT Γ B (ρ.set i (vl a)) (t a)))
    (he : ∀ X', Cok X' Γ N sc' k → ∀ a : α, XE X' Γ B (ρ.set i (vl a)) elt (f a)) (hs : ∀ x, foldedSetIterable it X.env x = pure x := by intro _; rfl) (hρ : Nat.ble (i + 1) ρ.length = true := by rfl) (hfc : fx.contains i = false := by rfl) (hρ2 : Nat.ble (j + 1) ρ.length = true := by rfl) (hf2 : fx.contains j = false := by rfl) :
    XP1 X Γ B ρ (.Assign [.Name y py] (.ListComp elt [⟨.Name x px, it, ifs, 0⟩] scope p) pos) (mxs.bind (lcB t f)) (fun z => ρ.set j (ow (OL.mk z))) := by
  have cb : ∀ (s : Shared) (H : Hp) (C : Addr) (cl : List (Str × Addr)) (fp : List Addr), Cok (X.blk s H scope (compEnvC scope cl C X.env) fp) Γ N sc' k := fun s H C cl fp => d.toCok.blk hsc
  exact imS (ps_setLc (own := [(x, i)]) (g := gName i) (tt := fun σ H Q => ∃ a, cT Γ B (ρ.set i (vl a)) (t a) σ H Q) (te := fun σ H Q => ∃ a, cE Γ B (ρ.set i (vl a)) (f a) σ H Q) d.calm (by rw [d.hN]; exact d.nd) (by rw [d.hN]; exact hj) (by rw [d.hsc]; exact hyl) ((sw_lc d.toCok).trans (by rw [hsw])) hi (by rw [d.hN, d.hsc]; exact blkOk_by hB)
    (fun s H C cl fp => pg_name (i := i) (by rw [(cb s H C cl fp).hN]; exact d.nd) (by rw [(cb s H C cl fp).hN]; exact hx) (by rw [(cb s H C cl fp).hsc]; exact .inl hxl') (.inr (by rw [(cb s H C cl fp).hsc]; exact hxl')))
    (fun s H C cl fp => ⟨fun pins s' σ H' Q I ⟨a, q⟩ => (ht _ (cb s H C cl fp) a).run pins s' σ H' Q I q⟩) (fun s H C cl fp => allE fun a => he _ (cb s H C cl fp) a) hs) fun D σ H ⟨G, s, A, e, q⟩ => lc_sim (lc_pre hρ hfc d.hfx).1 (lc_pre hρ hfc d.hfx).2 (Q := fun v H1 => gName j v σ H1 D.nx) ⟨G, s, A, e, fun p vs G1 H1 g hp r => q G1 _ _ ((A.grow g).setN (Nat.le_of_ble_eq_true hρ2) hp ⟨p, vs, rfl, rfl, upd_same, r⟩ (lc_pre hρ2 hf2 d.hfx).1)⟩
theorem xp_setLc (d : Dok X Γ B N sc k fx W M) {x y : Str} {px py : Pos} {i j : Nat} {ifs : List Expr} {scope sc' : Scope} {p : Pos} {mxs : Option (List α)} {t : α → Option Bool} {f : α → Option γ} (hj : N[j]? = some y) (hyl : sc.names.lookup y = some .local) (hsw : ((if sc.kind.isAnnotationScope then ScopeKind.function else sc.kind) == .function && sc.names.lookup y == some .local && py.line == p.line && !(scope.names.any fun (n, k) => n == y && (k == .local || k == .cell))) = true) (hi : XI X Γ B ρ (.Name x px) it mxs) (hsc : relS scope sc = sc') (hB : blkC N sc scope [(x, i)] = true) (hx : N[i]? = some x) (hxl : scope.names.lookup x = some .local) (hxl' : sc'.names.lookup x = some .local)
    (ht : ∀ X', Cok X' Γ N sc' k → ∀ a : α, PTs X' ifs (cT Γ B (ρ.set i (vl a)) (t a)))
    (he : ∀ X', Cok X' Γ N sc' k → ∀ a : α, XE X' Γ B (ρ.set i (vl a)) elt (f a)) (hs : ∀ x, foldedSetIterable it X.env x = pure x := by intro _; rfl) (hρ : Nat.ble (i + 1) ρ.length = true := by rfl) (hfc : fx.contains i = false := by rfl) (hρ2 : Nat.ble (j + 1) ρ.length = true := by rfl) (hf2 : fx.contains j = false := by rfl) :
    XP1 X Γ B ρ (.Assign [.Name y py] (.ListComp elt [⟨.Name x px, it, ifs, 0⟩] scope p) pos) (mxs.bind (lcB t f)) (fun z => ρ.set j (vl z)) := by
  have h := xp_setLcN (α := α) (γ := γ) d (elt := elt) (pos := pos) hj hyl hsw hi hsc hB hx hxl hxl' ht he hs hρ hfc hρ2 hf2
  refine imS (lkS' h) fun D σ H ⟨G, s, A, e, q⟩ => ⟨G, s, A, e, fun G' H' σ' A' => ?_⟩
  have hx : (ρ.set j (ow (OL.mk s)))[j]? = some (ow (OL.mk s)) := by rw [List.getElem?_set_self (Nat.le_of_ble_eq_true hρ2)]
  refine (At.freeze A' hx rfl).mono fun H2 ⟨G2, l2, A2⟩ => ?_
  rw [List.set_set] at A2
  exact q G2 H2 σ' A2
theorem xts_nil (ρ : α → Sto) (a : α) : PTs X [] (cT Γ B (ρ a) (some true)) := ⟨fun pins s σ H Q I ⟨G, z, A, e, q⟩ => pts_nil.run pins s σ H Q I (by cases e; exact q G H (.refl A.sub))⟩
theorem xts_one {m : Option Bool} (h : XT X Γ B ρ e m) : PTs X [e] (cT Γ B ρ m) := pts_one h
/-- what a def hands back, new -/
theorem xb_retN {L C : Type} {F : Kt L (List γ) C} {m : Option (List γ)} {c : C} (he : XN X Γ B ρ e m) (hc : F.str c = ρ') (ops : List (Nat × Bool)) (hw : Sim.wks ρ ops = ρ') (hM : F.fr = true → B.M = []) : XB1 X Γ B F ρ (.Return (some e) pos) (S := S) (m.bind fun b => some (.ret b c)) sto := imS (lkS' (ps_ret he)) fun D σ H ⟨G, s, A, e, q⟩ => by
  cases m with
  | none => cases e
  | some b =>
    cases e
    refine ⟨G, b, A, rfl, fun p vs G1 H1 g hp r => ?_⟩
    have g2 := Grow.new g.sub hp (.lst vs)
    refine ((A.grow (g.trans g2)).wks ops).mono fun H2 ⟨G2, l2, A2⟩ => ?_
    refine q (.ref p) G2 _ σ (by rw [hc, ← hw]; exact A2) ⟨p, vs, rfl, l2 _ _ upd_same, r.mono (g2.leG.trans l2)⟩ fun hfr p' hp' => ?_
    cases hp'
    cases z : B.H p with
    | none => rfl
    | some o =>
      have := A.keep p o (by rw [hM hfr]; simp) z
      have := g.leH p o this
      rw [hp] at this
      cases this
end
end Sim

set_option Elab.async false
set_option autoImplicit false
set_option linter.all false
set_option maxRecDepth 100000
set_option maxHeartbeats 1000000
namespace Sim
open PySem L2
open Rp (rep)
open At1 (toV)
open K1 (key)
open KT (keys)
open Ow (own)
open RpA (repA stoA)

abbrev XC (X : Cx) (Γ : Gm) (B : Bs) (ρ : Sto) (op : CmpOp) (a b : Expr) (m : Option Bool) : Prop := PC X op a b (cE Γ B ρ m)
section
variable {X : Cx} {Γ : Gm} {B : Bs} {ρ ρ' : Sto} {N : List Str} {sc : Scope} {k : Nat} {fx : List Nat} {W : WX} {M : List Addr} {pos p p' : Pos} {e a b o tg it elt : Expr} {es : List Expr} {S : Type} {sto : S → Sto}
variable {α β γ : Type} [Rp α] [Rp β] [Rp γ]

/-! ### comparisons -/
theorem imC {op : CmpOp} {t t' : TE} (h : PC X op a b t) (k : ∀ σ H Q, t' σ H Q → t σ H Q) : PC X op a b t' := ⟨fun pins s σ H Q I q => h.run pins s σ H Q I (k σ H Q q)⟩
theorem pc_R {op : CmpOp} {r : R2} {ta tb : TE} (ho : OpR X (compareOp op) r) (ha : PE X a ta) (hb : PE X b tb) : PC X op a b (tOp r ta tb) := ⟨fun pins s σ H Q I h => bin ha hb I h fun v u s2 x y H2 I2 rx ry q => ho pins s2 σ H2 x y v u Q I2 rx ry q⟩
theorem xe_ofC {op : CmpOp} {m : Option Bool} (h : XC X Γ B ρ op a b m) (h1 : behindInMarks op b = false := by rfl) : XE X Γ B ρ (.Compare a [op] [b] pos) m := pe_cmp h h1
theorem xt_ofC {op : CmpOp} {m : Option Bool} (h : XC X Γ B ρ op a b m) (h1 : behindInMarks op b = false := by rfl) : XT X Γ B ρ (.Compare a [op] [b] pos) m := imT (pt_cmp h h1) fun σ H Q ⟨G, z, A, e, q⟩ => ⟨G, z, A, e, fun v G' H' g r => ⟨z, rep1 r, q G' H' g⟩⟩
theorem xc_op2 {op : CmpOp} {r : R2} {ma : Option α} {mb : Option β} {f : α → β → Option Bool} (ho : OpR X (compareOp op) r) (hf : Op2 Γ r f) (ha : XE X Γ B ρ a ma) (hb : XE X Γ B ρ b mb) : XC X Γ B ρ op a b (b2 ma mb f) := imC (pc_R ho ha hb) fun _ _ _ h => sim2 hf h
theorem xc_isN {m : Option (Option α)} {j : Nat} {p2 : Pos} (h : XE X Γ B ρ a m) : XC X Γ B ρ .Is a (.Constant .none j p2) (m.bind fun o => some o.isNone) := imC (pc_R op_isN h pe_non) fun σ H Q ⟨G, z, A, e, q⟩ => by
  cases m with
  | none => cases e
  | some o =>
    refine ⟨G, o, A, rfl, fun v G1 H1 g1 r => ⟨rfl, ?_⟩⟩
    have e' : o.isNone = z := Option.some.inj e
    subst e'
    refine q _ G1 H1 g1 ?_
    show V.bl (decide (v = .non)) = V.bl o.isNone
    cases o with
    | none => rw [show v = .non from r]; rfl
    | some y => rw [decide_eq_false r.1]; rfl
theorem xc_notN {m : Option (Option α)} {j : Nat} {p2 : Pos} (h : XE X Γ B ρ a m) : XC X Γ B ρ .IsNot a (.Constant .none j p2) (m.bind fun o => some o.isSome) := imC (pc_R op_notN h pe_non) fun σ H Q ⟨G, z, A, e, q⟩ => by
  cases m with
  | none => cases e
  | some o =>
    refine ⟨G, o, A, rfl, fun v G1 H1 g1 r => ⟨rfl, ?_⟩⟩
    have e' : o.isSome = z := Option.some.inj e
    subst e'
    refine q _ G1 H1 g1 ?_
    show V.bl (!decide (v = .non)) = V.bl o.isSome
    cases o with
    | none => rw [show v = .non from r]; rfl
    | some y => rw [decide_eq_false r.1]; rfl
theorem xc_in {α : Type} [At1 α] [DecidableEq α] [AtE α] {ma : Option α} {mb : Option (List α)} (ha : XE X Γ B ρ a ma) (hb : XR X Γ B ρ b mb) : XC X Γ B ρ .In a b (b2 ma mb fun x xs => some (isIn x xs)) := imC (pc_R op_in_seq ha hb) fun σ H Q ⟨G, z, A, e, q⟩ => by
  cases ma with
  | none => cases e
  | some x =>
    cases mb with
    | none => cases e
    | some xs =>
      cases e
      refine ⟨G, x, A, rfl, fun v G1 H1 g1 r1 => ⟨G1, xs, A.grow g1, rfl, fun p vs G2 H2 g2 hp r2 => ⟨p, vs, rfl, .inl (SqL.of hp), by rw [rep1 r1]; exact At1.flat x, by rw [r2.toV]; exact flat_map xs, q _ G2 H2 (g1.trans g2) ?_⟩⟩⟩
      show V.bl (inV v vs) = V.bl _
      rw [rep1 r1, r2.toV, inV_dec]
theorem xc_notIn {α : Type} [At1 α] [DecidableEq α] [AtE α] {ma : Option α} {mb : Option (List α)} (ha : XE X Γ B ρ a ma) (hb : XR X Γ B ρ b mb) : XC X Γ B ρ .NotIn a b (b2 ma mb fun x xs => some (!isIn x xs)) := imC (pc_R op_notIn_seq ha hb) fun σ H Q ⟨G, z, A, e, q⟩ => by
  cases ma with
  | none => cases e
  | some x =>
    cases mb with
    | none => cases e
    | some xs =>
      cases e
      refine ⟨G, x, A, rfl, fun v G1 H1 g1 r1 => ⟨G1, xs, A.grow g1, rfl, fun p vs G2 H2 g2 hp r2 => ⟨p, vs, rfl, .inl (SqL.of hp), by rw [rep1 r1]; exact At1.flat x, by rw [r2.toV]; exact flat_map xs, q _ G2 H2 (g1.trans g2) ?_⟩⟩⟩
      show V.bl (!inV v vs) = V.bl _
      rw [rep1 r1, r2.toV, inV_dec]
theorem xc_din (c : Cok X Γ N sc k) {κ : Type} [K1 κ] [At1 κ] [KAt κ] [DecidableEq κ] {md : Option (List (κ × α))} {mk : Option κ} (ha : XE X Γ B ρ a mk) (hb : XDK X Γ B ρ b md) : XC X Γ B ρ .In a b (b2 mk md fun x d => some (look d x).isSome) := imC (pc_din c.hu ha hb) fun σ H Q ⟨G, z, A, e, q⟩ => by
  cases mk with
  | none => cases e
  | some x =>
    cases md with
    | none => cases e
    | some d =>
      cases e
      refine ⟨G, x, A, rfl, fun v G1 H1 g1 r1 => ⟨G1, d, A.grow g1, rfl, fun p kvs G2 H2 g2 hp r2 => ⟨p, valV kvs (key x), rfl, .inl ⟨kvs, key x, hp, by rw [KAt.same]; exact rep1 r1, rfl⟩, q _ G2 H2 (g1.trans g2) ?_⟩⟩⟩
      show V.bl _ = V.bl _
      cases hl : look d x with
      | none => rw [(RpK.look (x := x) r2).2 hl]; rfl
      | some y =>
        obtain ⟨v', hv, _⟩ := (RpK.look (x := x) r2).1 y hl
        rw [hv]; rfl
theorem xc_dnotIn (c : Cok X Γ N sc k) {κ : Type} [K1 κ] [At1 κ] [KAt κ] [DecidableEq κ] {md : Option (List (κ × α))} {mk : Option κ} (ha : XE X Γ B ρ a mk) (hb : XDK X Γ B ρ b md) : XC X Γ B ρ .NotIn a b (b2 mk md fun x d => some (!(look d x).isSome)) := imC (pc_dnotin c.hu ha hb) fun σ H Q ⟨G, z, A, e, q⟩ => by
  cases mk with
  | none => cases e
  | some x =>
    cases md with
    | none => cases e
    | some d =>
      cases e
      refine ⟨G, x, A, rfl, fun v G1 H1 g1 r1 => ⟨G1, d, A.grow g1, rfl, fun p kvs G2 H2 g2 hp r2 => ⟨p, valV kvs (key x), rfl, .inl ⟨kvs, key x, hp, by rw [KAt.same]; exact rep1 r1, rfl⟩, q _ G2 H2 (g1.trans g2) ?_⟩⟩⟩
      show V.bl _ = V.bl _
      cases hl : look d x with
      | none => rw [(RpK.look (x := x) r2).2 hl]; rfl
      | some y =>
        obtain ⟨v', hv, _⟩ := (RpK.look (x := x) r2).1 y hl
        rw [hv]; rfl
/-- dicts with tuple keys: the key a tuple -/
class TKey (κ : Type) [KT κ] [Rp κ] : Prop where
  tup : ∀ {Γ : Gm} {G : Hp} {v : V} {x : κ}, rep Γ G v x → ∃ p, v = .ref p ∧ G p = some (.tup ((keys x).map kV))
instance {α β : Type} [K1 α] [K1 β] [At1 α] [At1 β] [KAt α] [KAt β] : TKey (α × β) := ⟨fun {Γ G v x} ⟨p, u, w, h1, h2, h3, h4⟩ => ⟨p, h1, by rw [h2, rep1 h3, rep1 h4, ← KAt.same, ← KAt.same]; rfl⟩⟩
theorem map_kV {α : Type} [K1 α] [At1 α] [KAt α] : ∀ xs : List α, xs.map toV = (xs.map key).map kV
  | [] => rfl
  | x :: r => by rw [List.map_cons, List.map_cons, List.map_cons, map_kV r, KAt.same]
instance {α : Type} [K1 α] [At1 α] [KAt α] : TKey (TL α) := ⟨fun {Γ G v x} ⟨p, vs, h1, h2, h3⟩ => ⟨p, h1, by
  have := RpL.toV h3
  rw [h2, this, map_kV]; rfl⟩⟩
theorem RpT.look {κ : Type} [KT κ] [DecidableEq κ] {G : Hp} {x : κ} : ∀ {kvs : List (List Key × V)} {d : List (κ × α)}, RpT Γ G kvs d → (∀ y, Sim.look d x = some y → ∃ v, valV kvs (keys x) = some v ∧ rep Γ G v y) ∧ (Sim.look d x = none → valV kvs (keys x) = none)
  | _, _, .nil => ⟨fun y h => (by cases h), fun _ => rfl⟩
  | p :: _, q :: d', .cons r t => by
    have ih := RpT.look (x := x) t
    by_cases e : q.1 = x
    · refine ⟨fun y h => ?_, fun h => ?_⟩
      · rw [look_pos e] at h
        cases h
        exact ⟨p.2, valV_pos (by rw [r.1, e]), r.2⟩
      · rw [look_pos e] at h
        cases h
    · have ne : ¬ p.1 = keys x := fun z => e (KT.inj _ _ (r.1.symm.trans z))
      rw [look_neg e, valV_neg ne]
      exact ih
theorem xc_tin (c : Cok X Γ N sc k) {κ : Type} [KT κ] [Rp κ] [TKey κ] [DecidableEq κ] {md : Option (List (κ × α))} {mk : Option κ} (ha : XE X Γ B ρ a mk) (hb : XDT X Γ B ρ b md) : XC X Γ B ρ .In a b (b2 mk md fun x d => some (look d x).isSome) := imC (pc_din c.hu ha hb) fun σ H Q ⟨G, z, A, e, q⟩ => by
  cases mk with
  | none => cases e
  | some x =>
    cases md with
    | none => cases e
    | some d =>
      cases e
      refine ⟨G, x, A, rfl, fun v G1 H1 g1 r1 => ⟨G1, d, A.grow g1, rfl, fun p kvs G2 H2 g2 hp r2 => ?_⟩⟩
      obtain ⟨t, e1, e2⟩ := TKey.tup (Rp.mono g2.leG r1)
      refine ⟨p, valV kvs (keys x), rfl, .inr ⟨kvs, keys x, t, hp, e1, g2.sub.tup e2, rfl⟩, q _ G2 H2 (g1.trans g2) ?_⟩
      show V.bl _ = V.bl _
      cases hl : look d x with
      | none => rw [(RpT.look (x := x) r2).2 hl]; rfl
      | some y =>
        obtain ⟨v', hv, _⟩ := (RpT.look (x := x) r2).1 y hl
        rw [hv]; rfl
theorem xe_tget (c : Cok X Γ N sc k) {κ : Type} [KT κ] [Rp κ] [TKey κ] [DecidableEq κ] {md : Option (List (κ × α))} {mk : Option κ} (ha : XDT X Γ B ρ a md) (hb : XE X Γ B ρ b mk) (hs : NoSl b := by intro _ _; rfl) : XE X Γ B ρ (.Subscript a b pos) (b2 md mk look) := imE (pe_dget c.hu ha hb hs) fun σ H Q ⟨G, z, A, e, q⟩ => by
  cases md with
  | none => cases e
  | some d =>
    cases mk with
    | none => cases e
    | some x =>
      refine ⟨G, d, A, rfl, fun p kvs G1 H1 g1 hp r1 => ⟨G1, x, A.grow g1, rfl, fun v2 G2 H2 g2 r2 => ?_⟩⟩
      obtain ⟨v, hv, r⟩ := (RpT.look (x := x) r1).1 z e
      have rd : Rd H2 p (.dT kvs) := by
        rcases hp with hp | ⟨ob, hp⟩
        · exact .inl (g2.leH _ _ hp)
        · exact .inr ⟨ob, g2.leH _ _ hp⟩
      obtain ⟨t, e1, e2⟩ := TKey.tup r2
      exact ⟨p, v, rfl, .inr ⟨kvs, keys x, t, rd, e1, g2.sub.tup e2, hv.symm⟩, q v G2 H2 (g1.trans g2) (Rp.mono g2.leG r)⟩

/-! ### truth -/
theorem xt_truthR (c : Cok X Γ N sc k) {m : Option (List α)} (h : XR X Γ B ρ a m) (he : ∀ whole, isTrue a X.env whole = (do let v ← whole; standAt a.pos; holding [v] (truthy v)) := by intro _; rfl) : XT X Γ B ρ a (m.bind fun xs => some (!xs.isEmpty)) := imT (pt_truth h he) fun σ H Q ⟨G, z, A, e, q⟩ => by
  cases m with
  | none => cases e
  | some xs =>
    cases e
    refine ⟨G, xs, A, rfl, fun p vs G1 H1 g1 hp r1 => ⟨!xs.isEmpty, .inl ⟨vs, SqL.of hp, ?_⟩, q G1 H1 g1⟩⟩
    cases r1 <;> rfl

/-! ### dicts of one's own -/
theorem xp_setDK (d : Dok X Γ B N sc k fx W M) {κ : Type} [K1 κ] {x : Str} (i : Nat) (hi : N[i]? = some x) (hx : Loc sc x) (hρ : Nat.ble (i + 1) ρ.length = true := by rfl) (hf : fx.contains i = false := by rfl) (hs : swapsWith (.Dict [] [] p) (some (.Name x p')) pos.line X.env = pure false := by rfl) :
    XP1 X Γ B ρ (.Assign [.Name x p'] (.Dict [] [] p) pos) (some ()) (fun _ => ρ.set i (ow (OK.mk ([] : List (κ × α))))) := imS (ps_set (i := i) (by rw [d.hN]; exact d.nd) (by rw [d.hN]; exact hi) (by rw [d.hsc]; exact hx) pe_dnewK hs (.inl (d.hfn x))) fun D σ H ⟨G, s, A, e, q⟩ =>
  fun p hp => q G _ _ (A.setN (Nat.le_of_ble_eq_true hρ) hp ⟨p, [], rfl, rfl, upd_same, .nil⟩ fun hm => by
    rw [d.hfx] at hm
    rw [List.contains_iff_mem.mpr hm] at hf
    cases hf)
theorem xp_setDT (d : Dok X Γ B N sc k fx W M) {κ : Type} [KT κ] {x : Str} (i : Nat) (hi : N[i]? = some x) (hx : Loc sc x) (hρ : Nat.ble (i + 1) ρ.length = true := by rfl) (hf : fx.contains i = false := by rfl) (hs : swapsWith (.Dict [] [] p) (some (.Name x p')) pos.line X.env = pure false := by rfl) :
    XP1 X Γ B ρ (.Assign [.Name x p'] (.Dict [] [] p) pos) (some ()) (fun _ => ρ.set i (ow (OT.mk ([] : List (κ × α))))) := imS (ps_set (i := i) (by rw [d.hN]; exact d.nd) (by rw [d.hN]; exact hi) (by rw [d.hsc]; exact hx) pe_dnewT hs (.inl (d.hfn x))) fun D σ H ⟨G, s, A, e, q⟩ =>
  fun p hp => q G _ _ (A.setN (Nat.le_of_ble_eq_true hρ) hp ⟨p, [], rfl, rfl, upd_same, .nil⟩ fun hm => by
    rw [d.hfx] at hm
    rw [List.contains_iff_mem.mpr hm] at hf
    cases hf)
def put {κ α : Type} [DecidableEq κ] (d : List (κ × α)) (k : κ) (v : α) : List (κ × α) := if (d.any fun kv => decide (kv.1 = k)) = true then d.map fun kv => if kv.1 = k then (kv.1, v) else kv else d ++ [(k, v)]
@[irreducible] def dput {κ α : Type} [DecidableEq κ] (d : List (κ × α)) (k : κ) (v : α) : Option (List (κ × α)) := if d.length + 1 ≤ BIG then some (put d k v) else none
theorem any_K {κ : Type} [K1 κ] [DecidableEq κ] {G : Hp} {x : κ} : ∀ {kvs : List (Key × V)} {d : List (κ × α)}, RpK Γ G kvs d → (kvs.any fun kv => decide (kv.1 = key x)) = d.any fun kv => decide (kv.1 = x)
  | _, _, .nil => rfl
  | p :: _, q :: _, .cons r t => by
    rw [List.any_cons, List.any_cons, any_K t]
    congr 1
    rw [r.1]
    exact decide_eq_decide.mpr ⟨fun z => K1.inj _ _ z, fun z => by rw [z]⟩
theorem RpK.put {κ : Type} [K1 κ] [DecidableEq κ] {G : Hp} {x : κ} {v : V} {y : α} {kvs : List (Key × V)} {d : List (κ × α)} (h : RpK Γ G kvs d) (r : rep Γ G v y) : RpK Γ G (putK kvs (key x) v) (Sim.put d x y) := by
  unfold putK Sim.put
  rw [any_K h]
  by_cases hc : (d.any fun kv => decide (kv.1 = x)) = true
  · rw [if_pos hc, if_pos hc]
    clear hc
    induction h with
    | nil => exact .nil
    | @cons p q _ _ h t ih =>
      refine .cons ?_ ih
      dsimp only
      by_cases e : q.1 = x
      · rw [if_pos e, if_pos (by rw [h.1, e])]; exact ⟨h.1, r⟩
      · rw [if_neg e, if_neg fun z => e (K1.inj _ _ (h.1.symm.trans z))]; exact h
  · rw [if_neg hc, if_neg hc]
    clear hc
    induction h with
    | nil => exact .cons ⟨rfl, r⟩ .nil
    | cons h t ih => exact .cons h ih
theorem any_T {κ : Type} [KT κ] [DecidableEq κ] {G : Hp} {x : κ} : ∀ {kvs : List (List Key × V)} {d : List (κ × α)}, RpT Γ G kvs d → (kvs.any fun kv => decide (kv.1 = keys x)) = d.any fun kv => decide (kv.1 = x)
  | _, _, .nil => rfl
  | p :: _, q :: _, .cons r t => by
    rw [List.any_cons, List.any_cons, any_T t]
    congr 1
    rw [r.1]
    exact decide_eq_decide.mpr ⟨fun z => KT.inj _ _ z, fun z => by rw [z]⟩
theorem RpT.put {κ : Type} [KT κ] [DecidableEq κ] {G : Hp} {x : κ} {v : V} {y : α} {kvs : List (List Key × V)} {d : List (κ × α)} (h : RpT Γ G kvs d) (r : rep Γ G v y) : RpT Γ G (putK kvs (keys x) v) (Sim.put d x y) := by
  unfold putK Sim.put
  rw [any_T h]
  by_cases hc : (d.any fun kv => decide (kv.1 = x)) = true
  · rw [if_pos hc, if_pos hc]
    clear hc
    induction h with
    | nil => exact .nil
    | @cons p q _ _ h t ih =>
      refine .cons ?_ ih
      dsimp only
      by_cases e : q.1 = x
      · rw [if_pos e, if_pos (by rw [h.1, e])]; exact ⟨h.1, r⟩
      · rw [if_neg e, if_neg fun z => e (KT.inj _ _ (h.1.symm.trans z))]; exact h
  · rw [if_neg hc, if_neg hc]
    clear hc
    induction h with
    | nil => exact .cons ⟨rfl, r⟩ .nil
    | cons h t ih => exact .cons h ih
/-- d[k] = v, d of one's own: v first, then k -/
theorem xp_dput (c : Dok X Γ B N sc k fx W M) {κ : Type} [K1 κ] [At1 κ] [KAt κ] [DecidableEq κ] {x : Str} (i : Nat) {d : List (κ × α)} {mk : Option κ} {mv : Option α} {p2 : Pos} (hi : ρ[i]? = some (ow (OK.mk d))) (hN : N[i]? = some x) (hv : Vis sc x) (hk : XE X Γ B ρ a mk) (he : XE X Γ B ρ e mv) (hd : (x == ("__debug__" : Str)) = false := by decide) (hcd : (x == ("__classdict__" : Str)) = false := by decide)
    (hs : swapsWith e (some (.Subscript (.Name x p) a p2)) pos.line X.env = pure false := by rfl) :
    XP1 X Γ B ρ (.Assign [.Subscript (.Name x p) a p2] e pos) (mv.bind fun v => mk.bind fun y => dput d y v) (fun d' => ρ.set i (ow (OK.mk d'))) := imS (ps_dput c.hu (pv_ c.toCok hN hv hd hcd) hk he hs) fun D σ H ⟨G, s, A, e, q⟩ => by
  cases mv with
  | none => cases e
  | some v =>
    cases mk with
    | none => cases e
    | some y =>
      obtain ⟨hl, e⟩ := ite_some (by have qq : dput d y v = some s := e; unfold dput at qq; exact qq)
      subst e
      refine ⟨G, v, A, rfl, fun w G1 H1 g1 r1 => ?_⟩
      obtain ⟨u, fp, h1, ⟨p, kvs, rfl, h3, h4, h5⟩, h6⟩ := (A.grow g1).getO hi
      refine ⟨.ref p, h1, G1, y, A.grow g1, rfl, fun z G2 H2 g2 r2 => ⟨p, _, rfl, .inl ⟨kvs, key y, g2.leH _ _ h4, by rw [KAt.same]; exact rep1 r2, by rw [show kvs.length = d.length from Paired.length h5]; exact big_lt (by omega), rfl⟩, ?_⟩⟩
      refine q G2 _ σ ((A.grow (g1.trans g2)).setO hi (fun v fp ⟨q, us, e3, e4, _⟩ => ⟨q, e3, e4⟩) h1 ⟨p, _, rfl, rfl, upd_same, ?_⟩)
      exact (h5.mono g2.leG).put (Rp.mono g2.leG r1)
theorem xp_tput (c : Dok X Γ B N sc k fx W M) {κ : Type} [KT κ] [Rp κ] [TKey κ] [DecidableEq κ] {x : Str} (i : Nat) {d : List (κ × α)} {mk : Option κ} {mv : Option α} {p2 : Pos} (hi : ρ[i]? = some (ow (OT.mk d))) (hN : N[i]? = some x) (hv : Vis sc x) (hk : XE X Γ B ρ a mk) (he : XE X Γ B ρ e mv) (hd : (x == ("__debug__" : Str)) = false := by decide) (hcd : (x == ("__classdict__" : Str)) = false := by decide)
    (hs : swapsWith e (some (.Subscript (.Name x p) a p2)) pos.line X.env = pure false := by rfl) :
    XP1 X Γ B ρ (.Assign [.Subscript (.Name x p) a p2] e pos) (mv.bind fun v => mk.bind fun y => dput d y v) (fun d' => ρ.set i (ow (OT.mk d'))) := imS (ps_dput c.hu (pv_ c.toCok hN hv hd hcd) hk he hs) fun D σ H ⟨G, s, A, e, q⟩ => by
  cases mv with
  | none => cases e
  | some v =>
    cases mk with
    | none => cases e
    | some y =>
      obtain ⟨hl, e⟩ := ite_some (by have qq : dput d y v = some s := e; unfold dput at qq; exact qq)
      subst e
      refine ⟨G, v, A, rfl, fun w G1 H1 g1 r1 => ?_⟩
      obtain ⟨u, fp, h1, ⟨p, kvs, rfl, h3, h4, h5⟩, h6⟩ := (A.grow g1).getO hi
      refine ⟨.ref p, h1, G1, y, A.grow g1, rfl, fun z G2 H2 g2 r2 => ?_⟩
      obtain ⟨t, e1, e2⟩ := TKey.tup r2
      refine ⟨p, _, rfl, .inr ⟨kvs, keys y, t, g2.leH _ _ h4, e1, g2.sub.tup e2, by rw [show kvs.length = d.length from Paired.length h5]; exact big_lt (by omega), rfl⟩, ?_⟩
      refine q G2 _ σ ((A.grow (g1.trans g2)).setO hi (fun v fp ⟨q, us, e3, e4, _⟩ => ⟨q, e3, e4⟩) h1 ⟨p, _, rfl, rfl, upd_same, ?_⟩)
      exact (h5.mono g2.leG).put (Rp.mono g2.leG r1)
end
end Sim

set_option Elab.async false
set_option autoImplicit false
set_option linter.all false
set_option maxRecDepth 100000
set_option maxHeartbeats 1000000
namespace Sim
open PySem L2
open Rp (rep)
open At1 (toV)
open K1 (key)
open KT (keys)
open Ow (own)
open RpA (repA stoA)

section
variable {X : Cx} {Γ : Gm} {B : Bs} {L β C : Type} [Rp β] {F : Kt L β C} {ρ ρ' : Sto} {N : List Str} {sc : Scope} {k : Nat} {fx : List Nat} {W : WX} {M : List Addr} {pos p p' : Pos} {e a b o tg it : Expr} {st : Stmt} {sts : List Stmt} {es : List Expr} {S : Type} {sto : S → Sto}
variable {α γ : Type} [Rp α] [Rp γ]

/-! ### ends, and readings told in another way -/
theorem xp_end (ops : List (Nat × Bool)) (s : S) (e : Sim.wks ρ ops = sto s) : XP X Γ B ρ [] (some s) sto := imB (lkB' pss_nil) fun D σ H ⟨G, s', A, e1, q⟩ => by
  cases e1
  exact (A.wks ops).mono fun H2 ⟨G', l, A'⟩ => q G' H2 σ (e ▸ A')
theorem xb_end (ops : List (Nat × Bool)) (s : S) (e : Sim.wks ρ ops = sto s) : XB X Γ B F ρ [] (some (Fl.nx s)) sto := xb_of (m := some s) (xp_end ops s e)
theorem xp1_eq {m m' : Option S} (h : XP1 X Γ B ρ st m sto) (q : m = m') : XP1 X Γ B ρ st m' sto := q ▸ h
theorem xn_eq {m m' : Option (List α)} (h : XN X Γ B ρ e m) (q : m = m') : XN X Γ B ρ e m' := q ▸ h
theorem xi_eq {m m' : Option (List α)} (h : XI X Γ B ρ tg e m) (q : m = m') : XI X Γ B ρ tg e m' := q ▸ h
theorem xc_eq {op : CmpOp} {m m' : Option Bool} (h : XC X Γ B ρ op a b m) (q : m = m') : XC X Γ B ρ op a b m' := q ▸ h

/-! ### ints -/
theorem xe_neg {m : Option Int} (h : XE X Γ B ρ a m) : XE X Γ B ρ (.UnaryOp .USub a pos) (m.bind fun i => some (-i)) := imE (pe_un un_neg h) fun σ H Q ⟨G, z, A, e, q⟩ => by
  cases m with
  | none => cases e
  | some i =>
    cases e
    exact ⟨G, i, A, rfl, fun v G1 H1 g1 r1 => ⟨i, rep1 r1, q _ G1 H1 g1 rfl⟩⟩
theorem xe_intI (c : Cok X Γ N sc k) {m : Option Int} (ha : XE X Γ B ρ a m) (hg : Glb sc "int") (hm : Γ.mg "int" = none) (s1 : starEach [a] X.env = (false, eval a X.env) :: starEach [] X.env := by rfl) : XE X Γ B ρ (.Call (.Name "int" p) [a] [] pos) m :=
  imE (pe_callTy call_int1 (c.gl hg) (by rw [c.hmg]; exact hm) (by decide +kernel) (pa_cons ha pa_nil s1) (he := s1)) fun σ H Q ⟨G, z, A, e, q⟩ =>
  ⟨G, z, A, e, fun v G1 H1 g1 r1 => .inl ⟨z, by rw [rep1 r1]; rfl, q _ G1 H1 g1 rfl⟩⟩
def minI (i j : Int) : Int := if j < i then j else i
def maxI (i j : Int) : Int := if j > i then j else i
theorem xe_min2 (c : Cok X Γ N sc k) {ma mb : Option Int} (ha : XE X Γ B ρ a ma) (hb : XE X Γ B ρ b mb) (hg : Glb sc "min") (hm : Γ.mg "min" = none) (s1 : starEach [a, b] X.env = (false, eval a X.env) :: starEach [b] X.env := by rfl) (s2 : starEach [b] X.env = (false, eval b X.env) :: starEach [] X.env := by rfl) (hpl : (backTo pos (starEach [b] X.env)).any (·.1) = false := by rfl) :
    XE X Γ B ρ (.Call (.Name "min" p) [a, b] [] pos) (b2 ma mb fun i j => some (minI i j)) :=
  imE (pe_callB (call_min2 c.calm) (c.gl hg) (by rw [c.hmg]; exact hm) PyProof.Rows.boot_min (pa_cons ha (pa_cons hb pa_nil s2) s1) (he := s1) (hpl := hpl)) fun σ H Q ⟨G, z, A, e, q⟩ => by
  cases ma with
  | none => cases e
  | some x =>
    cases mb with
    | none => cases e
    | some y =>
      cases e
      exact ⟨G, x, A, rfl, fun v G1 H1 g1 r1 => ⟨G1, y, A.grow g1, rfl, fun v2 G2 H2 g2 r2 => ⟨x, y, by rw [rep1 r1, rep1 r2]; rfl, q _ G2 H2 (g1.trans g2) rfl⟩⟩⟩
theorem xe_max2 (c : Cok X Γ N sc k) {ma mb : Option Int} (ha : XE X Γ B ρ a ma) (hb : XE X Γ B ρ b mb) (hg : Glb sc "max") (hm : Γ.mg "max" = none) (s1 : starEach [a, b] X.env = (false, eval a X.env) :: starEach [b] X.env := by rfl) (s2 : starEach [b] X.env = (false, eval b X.env) :: starEach [] X.env := by rfl) (hpl : (backTo pos (starEach [b] X.env)).any (·.1) = false := by rfl) :
    XE X Γ B ρ (.Call (.Name "max" p) [a, b] [] pos) (b2 ma mb fun i j => some (maxI i j)) :=
  imE (pe_callB (call_max2 c.calm) (c.gl hg) (by rw [c.hmg]; exact hm) PyProof.Rows.boot_max (pa_cons ha (pa_cons hb pa_nil s2) s1) (he := s1) (hpl := hpl)) fun σ H Q ⟨G, z, A, e, q⟩ => by
  cases ma with
  | none => cases e
  | some x =>
    cases mb with
    | none => cases e
    | some y =>
      cases e
      exact ⟨G, x, A, rfl, fun v G1 H1 g1 r1 => ⟨G1, y, A.grow g1, rfl, fun v2 G2 H2 g2 r2 => ⟨x, y, by rw [rep1 r1, rep1 r2]; rfl, q _ G2 H2 (g1.trans g2) rfl⟩⟩⟩

/-! ### the script -/
theorem SqL.up {K : PySem.W.Frag} {G H : Hp} {q : Addr} {xs : List V} (s : Sub G H) (h : SqL K G q xs) : SqL K H q xs := by
  rcases h with (h | ⟨o, h⟩) | h
  · exact .inl (.inl (s.lst h))
  · exact .inl (.inr ⟨o, s _ _ h⟩)
  · exact .inr h
theorem xe_lenScr (c : Cok X Γ N sc k) {m : Option Scr} (ha : XE X Γ B ρ a m) (hg : Glb sc "len") (hm : Γ.mg "len" = none) (s1 : starEach [a] X.env = (false, eval a X.env) :: starEach [] X.env := by rfl) (hpl : (backTo pos (starEach [] X.env)).any (·.1) = false := by rfl) : XE X Γ B ρ (.Call (.Name "len" p) [a] [] pos) (m.bind fun xs => some (xs.l.length : Int)) :=
  imE (pe_callB call_len_seq (c.gl hg) (by rw [c.hmg]; exact hm) PySem.boot_len (pa_cons ha pa_nil s1) (he := s1)) fun σ H Q ⟨G, z, A, e, q⟩ => by
  cases m with
  | none => cases e
  | some xs =>
    cases e
    refine ⟨G, xs, A, rfl, fun v G1 H1 g1 ⟨p, h1, h2⟩ => ⟨p, xs.l.map V.int, by rw [h1], .inl ?_, q _ G1 H1 g1 (by show V.int _ = V.int _; rw [List.length_map])⟩⟩
    rw [c.hK]; exact SqL.up g1.sub h2
theorem xe_ixScr (c : Cok X Γ N sc k) {ma : Option Scr} {mb : Option Int} (ha : XE X Γ B ρ a ma) (hb : XE X Γ B ρ b mb) (hs : PlainIx b := by intro _ _; rfl) : XE X Γ B ρ (.Subscript a b pos) (b2 ma mb fun xs i => atI xs.l i) := imE (pe_ix ix_list ha hb hs) fun σ H Q ⟨G, z, A, e, q⟩ => by
  cases ma with
  | none => cases e
  | some xs =>
    cases mb with
    | none => cases e
    | some i =>
      refine ⟨G, xs, A, rfl, fun v G1 H1 g1 ⟨p, h1, h2⟩ => ⟨G1, i, A.grow g1, rfl, fun v2 G2 H2 g2 r2 => ?_⟩⟩
      refine ⟨p, xs.l.map V.int, i, .int z, h1, rep1 r2, by rw [c.hK]; exact SqL.up (fun x o q => g2.sub x o (g2.leG x o q)) h2, ?_, q _ G2 H2 (g1.trans g2) rfl⟩
      have e : atI xs.l i = some z := e
      unfold atI at e ⊢
      rw [List.length_map]
      cases hi : ixN xs.l.length i with
      | none => rw [hi] at e; cases e
      | some j =>
        rw [hi] at e
        simp only [List.getElem?_map]
        show Option.map V.int xs.l[j]? = _
        rw [show xs.l[j]? = some z from e]; rfl
theorem xn_sliceScr (c : Cok X Γ N sc k) {m : Option Scr} {lo hi : Option Expr} {ml mh : Option (Option Int)} {p2 : Pos} (ha : XE X Γ B ρ a m) (hl : XO X Γ B ρ lo ml) (hh : XO X Γ B ρ hi mh) : XN X Γ B ρ (.Subscript a (.Slice lo hi none p2) pos) (m.bind fun xs => ml.bind fun l => mh.bind fun h => some (cut xs.l l h)) := imE (pe_slice sl_list ha hl hh) fun σ H Q ⟨G, z, A, e, q⟩ => by
  cases m with
  | none => cases e
  | some xs =>
    cases ml with
    | none => cases e
    | some l =>
      cases mh with
      | none => cases e
      | some h =>
        cases e
        refine ⟨G, xs, A, rfl, fun v G1 H1 g1 ⟨p, h1, h2⟩ => ⟨G1, l, A.grow g1, rfl, fun G2 H2 g2 => ⟨G2, h, A.grow (g1.trans g2), rfl, fun G3 H3 g3 =>
          ⟨p, xs.l.map V.int, h1, by rw [c.hK]; exact SqL.up (fun x o q => g3.sub x o (g3.leG x o (g2.leG x o q))) h2, fun q' hq => q q' _ G3 H3 ((g1.trans g2).trans g3) hq ?_⟩⟩⟩⟩
        exact cutV_rep (RpL.ofV (α := Int) xs.l) l h

/-! ### texts -/
@[irreducible] def sadd (x y : Tt) : Option Tt := if x.s.length + y.s.length ≤ BIG then some ⟨x.s ++ y.s, by
  have h1 := x.ok
  have h2 := y.ok
  unfold PyData.strOk at *
  show Array.all (x.s.cps ++ y.s.cps) _ = true
  rw [Array.all_append, h1, h2]; rfl⟩ else none
theorem o_addS : Op2 Γ (fun x y H Q => ∃ i j, x = .str i ∧ y = .str j ∧ i.length + j.length ≤ sizeLine ∧ Q (.str (i ++ j)) H) sadd := op2_pure fun p q z H Q e k => by
  unfold sadd at e
  obtain ⟨h, e⟩ := ite_some e
  exact ⟨p.s, q.s, rfl, rfl, big_le h, by subst e; exact k⟩
theorem all_flat (x : Array Nat) (f : Nat → Bool) (h : x.all f = true) : ∀ (n : Nat) (z : Array Nat), z.all f = true → ((List.replicate n x).foldl (· ++ ·) z).all f = true
  | 0, z, hz => hz
  | n + 1, z, hz => by
    rw [List.replicate_succ, List.foldl_cons]
    exact all_flat x f h n (z ++ x) (by rw [Array.all_append, hz, h]; rfl)
theorem op_repS : OpR X (binaryOp .Mult) (fun x y H Q => ∃ i n, x = .str i ∧ y = .int n ∧ MulOk i n ∧ Q (.str (Txt.mul i n)) H) := by
  intro pins s σ H x y v u Q I rx ry h
  obtain ⟨i, n, rfl, rfl, hm, q⟩ := h
  obtain ⟨t, rfl⟩ := rx
  obtain ⟨t', rfl⟩ := ry
  exact SB.mul hm fun t2 k => ⟨.str (Txt.mul i n), H, I.tok _, ⟨_, rfl⟩, q⟩
theorem mulOk {x : Str} {n : Int} (h : 0 ≤ n ∧ n ≤ 1000 ∧ x.length ≤ 1000) : MulOk x n := by
  obtain ⟨h0, h1, h2⟩ := h
  refine ⟨?_, fun hn _ => ?_, fun hn _ => ?_⟩
  · have a1 : ¬ n < -(2 ^ 63 : Int) := by omega
    have a2 : ¬ n ≥ (2 ^ 63 : Int) := by omega
    rw [decide_eq_false a1, decide_eq_false a2]; rfl
  · intro hc
    have h3 : (1000 : Int) ≤ (2 ^ 63 - 1) / n := by
      rw [Int.le_ediv_iff_mul_le (by omega)]
      omega
    omega
  · have : x.length * n.toNat ≤ 1000 * 1000 := Nat.mul_le_mul h2 (by omega)
    show decide (x.length * n.toNat > sizeLine) = false
    rw [decide_eq_false]
    have : (1000 * 1000 : Nat) ≤ sizeLine := by decide
    omega
@[irreducible] def srep (x : Tt) (n : Int) : Option Tt := if 0 ≤ n ∧ n ≤ 1000 ∧ x.s.length ≤ 1000 then some ⟨Txt.mul x.s n, by
  have h1 := x.ok
  unfold PyData.strOk Txt.mul at *
  by_cases c : n < 1
  · rw [if_pos c]; decide +kernel
  · rw [if_neg c]
    split
    · exact h1
    · exact all_flat _ _ h1 _ _ (by decide +kernel)⟩ else none
theorem o_repS : Op2 Γ (fun x y H Q => ∃ i n, x = .str i ∧ y = .int n ∧ MulOk i n ∧ Q (.str (Txt.mul i n)) H) srep := op2_pure fun p q z H Q e k => by
  unfold srep at e
  obtain ⟨h, e⟩ := ite_some e
  exact ⟨p.s, q, rfl, rfl, mulOk h, by subst e; exact k⟩
def chS (c : Ch) : Tt := ⟨⟨#[c.c]⟩, by
  unfold PyData.strOk
  have : decide (c.c < 0x110000) = true := decide_eq_true c.ok
  simp [this, c.ok]⟩
theorem xe_chS {m : Option Ch} (h : XE X Γ B ρ e m) : XE X Γ B ρ e (m.bind fun c => some (chS c)) := imE h fun σ H Q ⟨G, z, A, e, q⟩ => by
  cases m with
  | none => cases e
  | some c =>
    cases e
    exact ⟨G, c, A, rfl, fun v G1 H1 g1 r1 => q v G1 H1 g1 r1⟩
def atS (z : Tt) (i : Int) : Option Ch := if z.s.length ≤ BIG then atI (signs z) i else none
theorem xe_ixS {ma : Option Tt} {mb : Option Int} (ha : XE X Γ B ρ a ma) (hb : XE X Γ B ρ b mb) (hs : PlainIx b := by intro _ _; rfl) : XE X Γ B ρ (.Subscript a b pos) (b2 ma mb atS) := imE (pe_ix ix_str ha hb hs) fun σ H Q ⟨G, z, A, e, q⟩ => by
  cases ma with
  | none => cases e
  | some x =>
    cases mb with
    | none => cases e
    | some i =>
      have e : (if x.s.length ≤ BIG then atI (signs x) i else none) = some z := e
      by_cases hl : x.s.length ≤ BIG
      · rw [if_pos hl] at e
        refine ⟨G, x, A, rfl, fun v1 G1 H1 g1 r1 => ⟨G1, i, A.grow g1, rfl, fun v2 G2 H2 g2 r2 => ⟨x.s, i, z.c, rep1 r1, rep1 r2, big_le hl, ?_, q _ G2 H2 (g1.trans g2) rfl⟩⟩⟩
        unfold atI at e ⊢
        have hsz : x.s.cps.toList.length = (signs x).length := by rw [signs_length, Array.length_toList]
        rw [hsz]
        cases hi : ixN (signs x).length i with
        | none => rw [hi] at e; cases e
        | some j =>
          rw [hi] at e
          have e : (signs x)[j]? = some z := e
          have hj : j < x.s.cps.size := by
            rw [← signs_length]; exact (List.getElem?_eq_some_iff.mp e).1
          have h2 := signs_get x (i := j) (c := x.s.cps[j]) (by simp [hj])
          rw [h2] at e
          cases e
          show x.s.cps.toList[j]? = _
          simp [hj]
      · rw [if_neg hl] at e; cases e
theorem strOk_list {l : List Nat} {x : Str} (h : x.cps.toList = l) (q : ∀ c ∈ l, c < 0x110000) : PyData.strOk x = true := by
  unfold PyData.strOk
  rw [← Array.all_toList, h, List.all_eq_true]
  intro c hc
  exact decide_eq_true (q c hc)
/-- a slice -/
theorem strOk_cut (x : Tt) (lo hi : Option Int) : PyData.strOk (cutS x.s lo hi) = true := strOk_list (l := (x.s.cps.toList.drop (HT.sIx x.s.length 0 lo)).take (HT.sIx x.s.length x.s.length hi - HT.sIx x.s.length 0 lo)) (by simp [cutS]) fun c hc => x.mem (List.mem_of_mem_drop (List.mem_of_mem_take hc))
@[irreducible] def scut (x : Tt) (lo hi : Option Int) : Option Tt := if x.s.length ≤ BIG then some ⟨cutS x.s lo hi, strOk_cut x lo hi⟩ else none
theorem xe_sliceS {m : Option Tt} {lo hi : Option Expr} {ml mh : Option (Option Int)} {p2 : Pos} (ha : XE X Γ B ρ a m) (hl : XO X Γ B ρ lo ml) (hh : XO X Γ B ρ hi mh) : XE X Γ B ρ (.Subscript a (.Slice lo hi none p2) pos) (m.bind fun x => ml.bind fun l => mh.bind fun h => scut x l h) := imE (pe_slice sl_str ha hl hh) fun σ H Q ⟨G, z, A, e, q⟩ => by
  cases m with
  | none => cases e
  | some x =>
    cases ml with
    | none => cases e
    | some l =>
      cases mh with
      | none => cases e
      | some h =>
        obtain ⟨c1, e⟩ := ite_some (by have qq : scut x l h = some z := e; unfold scut at qq; exact qq)
        subst e
        exact ⟨G, x, A, rfl, fun v G1 H1 g1 r1 => ⟨G1, l, A.grow g1, rfl, fun G2 H2 g2 => ⟨G2, h, A.grow (g1.trans g2), rfl, fun G3 H3 g3 => ⟨x.s, rep1 r1, big_le c1, q _ G3 H3 ((g1.trans g2).trans g3) rfl⟩⟩⟩⟩
end
end Sim

set_option Elab.async false
set_option autoImplicit false
set_option linter.all false
set_option maxRecDepth 100000
set_option maxHeartbeats 1000000
namespace Sim
open PySem L2
open Rp (rep)
open At1 (toV)
open K1 (key)
open KT (keys)
open Ow (own)
open RpA (repA stoA)

/-- a list of three things of their kinds -/
structure R3 (α β γ : Type) where
  a : α
  b : β
  c : γ
  deriving DecidableEq
instance instRpR3 {α β γ : Type} [Rp α] [Rp β] [Rp γ] : Rp (R3 α β γ) := ⟨fun Γ G v p => ∃ a x y z, v = .ref a ∧ G a = some (.lst [x, y, z]) ∧ rep Γ G x p.a ∧ rep Γ G y p.b ∧ rep Γ G z p.c, fun e ⟨a, x, y, z, h1, h2, h3, h4, h5⟩ => ⟨a, x, y, z, h1, e _ _ h2, Rp.mono e h3, Rp.mono e h4, Rp.mono e h5⟩⟩
/-- data that == and in go down into -/
class Dat (α : Type) [Rp α] [DecidableEq α] where
  toD : α → PyData
  dep : Nat
  reads : ∀ {Γ : Gm} {G : Hp} {v : V} {a : α}, rep Γ G v a → Dp Γ.K G v (toD a)
  lay : ∀ a, (toD a).canLay0 = true
  deep : ∀ a, (toD a).depth ≤ dep
  eqv : ∀ a b, PyData.eqv (toD a) (toD b) = decide (a = b)
open Dat (toD)
mutual
theorem Dp.up {K : PySem.W.Frag} {G H : Hp} (s : Sub G H) : ∀ {v : V} {d : PyData}, Dp K G v d → Dp K H v d
  | _, _, .non => .non
  | _, _, .bl b => .bl b
  | _, _, .int i => .int i
  | _, _, .str x => .str x
  | _, _, .lst h t => .lst (SqL.up s h) (DpAll.up s t)
  | _, _, .tup h t => .tup (by
      rcases h with (h | ⟨o, h⟩) | h
      · exact .inl (.inl (s.tup h))
      · exact .inl (.inr ⟨o, s _ _ h⟩)
      · exact .inr h) (DpAll.up s t)
theorem DpAll.up {K : PySem.W.Frag} {G H : Hp} (s : Sub G H) : ∀ {vs : List V} {ds : List PyData}, DpAll K G vs ds → DpAll K H vs ds
  | _, _, .nil => .nil
  | _, _, .cons h t => .cons (Dp.up s h) (DpAll.up s t)
end
instance : Dat Int := ⟨fun i => .int i, 0, fun h => by rw [rep1 h]; exact .int _, fun _ => by simp [PyData.canLay0], fun _ => by simp [PyData.depth], fun a b => by simp only [PyData.eqv]; exact Bool.beq_eq_decide_eq a b⟩
instance : Dat Bool := ⟨fun i => .bool i, 0, fun h => by rw [rep1 h]; exact .bl _, fun _ => by simp [PyData.canLay0], fun _ => by simp [PyData.depth], fun a b => by simp only [PyData.eqv]; exact Bool.beq_eq_decide_eq a b⟩
instance : Dat Tt := ⟨fun i => .str i.s, 0, fun h => by rw [rep1 h]; exact .str _, fun a => by simp only [PyData.canLay0]; exact a.ok, fun _ => by simp [PyData.depth], fun a b => by
  simp only [PyData.eqv]
  rw [Bool.beq_eq_decide_eq]
  exact decide_eq_decide.mpr ⟨fun h => Tt.ext' h, fun h => by rw [h]⟩⟩
theorem dat_reads {α : Type} [Rp α] [DecidableEq α] [Dat α] {Γ : Gm} {G : Hp} : ∀ {vs : List V} {xs : List α}, RpL Γ G vs xs → DpAll Γ.K G vs (xs.map toD)
  | _, _, .nil => .nil
  | _, _, .cons r t => .cons (Dat.reads r) (dat_reads t)
theorem dat_lay {α : Type} [Rp α] [DecidableEq α] [Dat α] : ∀ xs : List α, PyData.canLayAll0 (xs.map toD) = true
  | [] => by simp [PyData.canLayAll0]
  | x :: r => by rw [List.map_cons]; simp only [PyData.canLayAll0]; rw [Dat.lay x, dat_lay r]; rfl
theorem dat_deep {α : Type} [Rp α] [DecidableEq α] [Dat α] : ∀ xs : List α, PyData.depthAll (xs.map toD) ≤ Dat.dep α
  | [] => by simp [PyData.depthAll]
  | x :: r => by
    rw [List.map_cons]
    simp only [PyData.depthAll]
    exact Nat.max_le.mpr ⟨Dat.deep x, dat_deep r⟩
theorem dat_eqv {α : Type} [Rp α] [DecidableEq α] [Dat α] : ∀ xs ys : List α, PyData.eqvAll (xs.map toD) (ys.map toD) = decide (xs = ys)
  | [], [] => by simp [PyData.eqvAll]
  | [], y :: t => by simp [PyData.eqvAll]
  | x :: r, [] => by simp [PyData.eqvAll]
  | x :: r, y :: t => by
    rw [List.map_cons, List.map_cons]
    simp only [PyData.eqvAll]
    rw [Dat.eqv x y, dat_eqv r t, ← Bool.decide_and]
    exact decide_eq_decide.mpr ⟨fun ⟨h1, h2⟩ => by rw [h1, h2], fun h => by cases h; exact ⟨rfl, rfl⟩⟩
instance {α : Type} [Rp α] [DecidableEq α] [Dat α] : Dat (List α) := ⟨fun xs => .list (xs.map toD), Dat.dep α + 1, fun ⟨a, vs, h1, h2, h3⟩ => by
    subst h1; exact .lst (SqL.of h2) (dat_reads h3), fun xs => by simp only [PyData.canLay0]; exact dat_lay xs, fun xs => by simp only [PyData.depth]; exact Nat.succ_le_succ (dat_deep xs), fun a b => by simp only [PyData.eqv]; exact dat_eqv a b⟩
instance {α : Type} [Rp α] [DecidableEq α] [Dat α] : Dat (TL α) := ⟨fun xs => .tuple (xs.l.map toD), Dat.dep α + 1, fun ⟨a, vs, h1, h2, h3⟩ => by
    subst h1; exact .tup (SqT.of h2) (dat_reads h3), fun xs => by simp only [PyData.canLay0]; exact dat_lay xs.l, fun xs => by simp only [PyData.depth]; exact Nat.succ_le_succ (dat_deep xs.l), fun a b => by
    simp only [PyData.eqv]; rw [dat_eqv]; exact decide_eq_decide.mpr ⟨fun h => by cases a; cases b; cases h; rfl, fun h => by rw [h]⟩⟩
instance {α β : Type} [Rp α] [DecidableEq α] [Dat α] [Rp β] [DecidableEq β] [Dat β] : Dat (α × β) := ⟨fun p => .tuple [toD p.1, toD p.2], max (Dat.dep α) (Dat.dep β) + 1, fun ⟨a, x, y, h1, h2, h3, h4⟩ => by
    subst h1; exact .tup (SqT.of h2) (.cons (Dat.reads h3) (.cons (Dat.reads h4) .nil)), fun p => by simp only [PyData.canLay0, PyData.canLayAll0]; rw [Dat.lay p.1, Dat.lay p.2]; rfl, fun p => by
    simp only [PyData.depth, PyData.depthAll]
    have h1 := Dat.deep p.1
    have h2 := Dat.deep p.2
    omega, fun a b => by
    simp only [PyData.eqv, PyData.eqvAll, Bool.and_true]
    rw [Dat.eqv a.1 b.1, Dat.eqv a.2 b.2, ← Bool.decide_and]
    exact decide_eq_decide.mpr ⟨fun ⟨h1, h2⟩ => Prod.ext h1 h2, fun h => by rw [h]; exact ⟨rfl, rfl⟩⟩⟩
instance {α β γ : Type} [Rp α] [DecidableEq α] [Dat α] [Rp β] [DecidableEq β] [Dat β] [Rp γ] [DecidableEq γ] [Dat γ] : Dat (T3 α β γ) := ⟨fun p => .tuple [toD p.a, toD p.b, toD p.c], max (Dat.dep α) (max (Dat.dep β) (Dat.dep γ)) + 1, fun ⟨a, x, y, z, h1, h2, h3, h4, h5⟩ => by
    subst h1; exact .tup (SqT.of h2) (.cons (Dat.reads h3) (.cons (Dat.reads h4) (.cons (Dat.reads h5) .nil))), fun p => by simp only [PyData.canLay0, PyData.canLayAll0]; rw [Dat.lay p.a, Dat.lay p.b, Dat.lay p.c]; rfl, fun p => by
    simp only [PyData.depth, PyData.depthAll]
    have h1 := Dat.deep p.a
    have h2 := Dat.deep p.b
    have h3 := Dat.deep p.c
    omega, fun a b => by
    simp only [PyData.eqv, PyData.eqvAll, Bool.and_true]
    rw [Dat.eqv a.a b.a, Dat.eqv a.b b.b, Dat.eqv a.c b.c, ← Bool.decide_and, ← Bool.decide_and]
    exact decide_eq_decide.mpr ⟨fun ⟨h1, h2, h3⟩ => by cases a; cases b; cases h1; cases h2; cases h3; rfl, fun h => by rw [h]; exact ⟨rfl, rfl, rfl⟩⟩⟩
instance {α β γ : Type} [Rp α] [DecidableEq α] [Dat α] [Rp β] [DecidableEq β] [Dat β] [Rp γ] [DecidableEq γ] [Dat γ] : Dat (R3 α β γ) := ⟨fun p => .list [toD p.a, toD p.b, toD p.c], max (Dat.dep α) (max (Dat.dep β) (Dat.dep γ)) + 1, fun ⟨a, x, y, z, h1, h2, h3, h4, h5⟩ => by
    subst h1; exact .lst (SqL.of h2) (.cons (Dat.reads h3) (.cons (Dat.reads h4) (.cons (Dat.reads h5) .nil))), fun p => by simp only [PyData.canLay0, PyData.canLayAll0]; rw [Dat.lay p.a, Dat.lay p.b, Dat.lay p.c]; rfl, fun p => by
    simp only [PyData.depth, PyData.depthAll]
    have h1 := Dat.deep p.a
    have h2 := Dat.deep p.b
    have h3 := Dat.deep p.c
    omega, fun a b => by
    simp only [PyData.eqv, PyData.eqvAll, Bool.and_true]
    rw [Dat.eqv a.a b.a, Dat.eqv a.b b.b, Dat.eqv a.c b.c, ← Bool.decide_and, ← Bool.decide_and]
    exact decide_eq_decide.mpr ⟨fun ⟨h1, h2, h3⟩ => by cases a; cases b; cases h1; cases h2; cases h3; rfl, fun h => by rw [h]; exact ⟨rfl, rfl, rfl⟩⟩⟩
theorem dat_shaped {α : Type} [Rp α] [DecidableEq α] [Dat α] (h : Dat.dep α ≤ 64) (a : α) : SeqAt.shaped (toD a) = true := by
  unfold SeqAt.shaped
  rw [Dat.lay a, decide_eq_true (by have := Dat.deep a; omega)]; rfl
theorem dat_shapedL {α : Type} [Rp α] [DecidableEq α] [Dat α] (h : Dat.dep α ≤ 60) (xs : List α) : SeqAt.shaped (.list (xs.map toD)) = true := dat_shaped (α := List α) (by show Dat.dep α + 1 ≤ 64; omega) xs
section
variable {X : Cx} {Γ : Gm} {B : Bs} {L β C : Type} [Rp β] {F : Kt L β C} {ρ ρ' : Sto} {N : List Str} {sc : Scope} {k : Nat} {fx : List Nat} {W : WX} {M : List Addr} {pos p p' : Pos} {e a b o tg it : Expr} {st : Stmt} {sts : List Stmt} {es : List Expr} {S : Type} {sto : S → Sto}
variable {α γ : Type} [Rp α] [Rp γ]
theorem Cok.hu65 (c : Cok X Γ N sc k) : X.A.units + 65 < cLine := by have := c.room.un; omega
theorem any_eqv {α : Type} [Rp α] [DecidableEq α] [Dat α] (x : α) (xs : List α) : ((xs.map toD).any fun z => PyData.eqv z (toD x)) = decide (x ∈ xs) := by
  rw [List.any_map, Bool.eq_iff_iff, List.any_eq_true, decide_eq_true_iff]
  constructor
  · rintro ⟨y, hy, e⟩
    have e : PyData.eqv (toD y) (toD x) = true := e
    rw [Dat.eqv] at e
    rw [← of_decide_eq_true e]
    exact hy
  · intro h
    exact ⟨x, h, by show PyData.eqv (toD x) (toD x) = true; rw [Dat.eqv]; exact decide_eq_true rfl⟩

theorem xc_deepIn (c : Cok X Γ N sc k) [DecidableEq α] [Dat α] {ma : Option α} {mb : Option (List α)} (ha : XE X Γ B ρ a ma) (hb : XR X Γ B ρ b mb) (hd : Dat.dep α ≤ 60 := by decide) : XC X Γ B ρ .In a b (b2 ma mb fun x xs => some (isIn x xs)) := imC (pc_R (op_inD c.hu65) ha hb) fun σ H Q ⟨G, z, A, e, q⟩ => by
  cases ma with
  | none => cases e
  | some x =>
    cases mb with
    | none => cases e
    | some xs =>
      cases e
      refine ⟨G, x, A, rfl, fun v G1 H1 g1 r1 => ⟨G1, xs, A.grow g1, rfl, fun p vs G2 H2 g2 hp r2 => ⟨toD x, xs.map toD, ?_, ?_, dat_shaped (by omega) x, dat_shapedL hd xs, q _ G2 H2 (g1.trans g2) ?_⟩⟩⟩
      · rw [c.hK]; exact Dp.up g2.sub (Dat.reads (Rp.mono g2.leG r1))
      · rw [c.hK]; exact .lst (SqL.of hp) (DpAll.up g2.sub (dat_reads r2))
      · show V.bl _ = V.bl _
        rw [any_eqv]
theorem xc_deepNotIn (c : Cok X Γ N sc k) [DecidableEq α] [Dat α] {ma : Option α} {mb : Option (List α)} (ha : XE X Γ B ρ a ma) (hb : XR X Γ B ρ b mb) (hd : Dat.dep α ≤ 60 := by decide) : XC X Γ B ρ .NotIn a b (b2 ma mb fun x xs => some (!isIn x xs)) := imC (pc_R (op_notInD c.hu65) ha hb) fun σ H Q ⟨G, z, A, e, q⟩ => by
  cases ma with
  | none => cases e
  | some x =>
    cases mb with
    | none => cases e
    | some xs =>
      cases e
      refine ⟨G, x, A, rfl, fun v G1 H1 g1 r1 => ⟨G1, xs, A.grow g1, rfl, fun p vs G2 H2 g2 hp r2 => ⟨toD x, xs.map toD, ?_, ?_, dat_shaped (by omega) x, dat_shapedL hd xs, q _ G2 H2 (g1.trans g2) ?_⟩⟩⟩
      · rw [c.hK]; exact Dp.up g2.sub (Dat.reads (Rp.mono g2.leG r1))
      · rw [c.hK]; exact .lst (SqL.of hp) (DpAll.up g2.sub (dat_reads r2))
      · show V.bl _ = V.bl _
        rw [any_eqv]
/-- == and != of data -/
theorem xc_eqD (c : Cok X Γ N sc k) [DecidableEq α] [Dat α] {ma mb : Option α} (ha : XE X Γ B ρ a ma) (hb : XE X Γ B ρ b mb) (hd : Dat.dep α ≤ 60 := by decide) : XC X Γ B ρ .Eq a b (b2 ma mb fun x y => some (decide (x = y))) := imC (pc_R (op_eqD c.hu64) ha hb) fun σ H Q ⟨G, z, A, e, q⟩ => by
  cases ma with
  | none => cases e
  | some x =>
    cases mb with
    | none => cases e
    | some y =>
      cases e
      refine ⟨G, x, A, rfl, fun v G1 H1 g1 r1 => ⟨G1, y, A.grow g1, rfl, fun w G2 H2 g2 r2 => ⟨toD x, toD y, ?_, ?_, dat_shaped (by omega) x, dat_shaped (by omega) y, q _ G2 H2 (g1.trans g2) ?_⟩⟩⟩
      · rw [c.hK]; exact Dp.up g2.sub (Dat.reads (Rp.mono g2.leG r1))
      · rw [c.hK]; exact Dp.up g2.sub (Dat.reads r2)
      · show V.bl _ = V.bl _
        rw [Dat.eqv]
theorem xc_neD (c : Cok X Γ N sc k) [DecidableEq α] [Dat α] {ma mb : Option α} (ha : XE X Γ B ρ a ma) (hb : XE X Γ B ρ b mb) (hd : Dat.dep α ≤ 60 := by decide) : XC X Γ B ρ .NotEq a b (b2 ma mb fun x y => some (!decide (x = y))) := imC (pc_R (op_neD c.hu64) ha hb) fun σ H Q ⟨G, z, A, e, q⟩ => by
  cases ma with
  | none => cases e
  | some x =>
    cases mb with
    | none => cases e
    | some y =>
      cases e
      refine ⟨G, x, A, rfl, fun v G1 H1 g1 r1 => ⟨G1, y, A.grow g1, rfl, fun w G2 H2 g2 r2 => ⟨toD x, toD y, ?_, ?_, dat_shaped (by omega) x, dat_shaped (by omega) y, q _ G2 H2 (g1.trans g2) ?_⟩⟩⟩
      · rw [c.hK]; exact Dp.up g2.sub (Dat.reads (Rp.mono g2.leG r1))
      · rw [c.hK]; exact Dp.up g2.sub (Dat.reads r2)
      · show V.bl _ = V.bl _
        rw [Dat.eqv]

/-! ### optional plain values -/
class AtO (α : Type) [At1 α] : Prop where
  nn : ∀ a : α, toV a ≠ .non
  inj : ∀ a b : α, toV a = toV b → a = b
  s0 : scal .non .non = true
  s1 : ∀ a : α, scal (toV a) .non = true
  s2 : ∀ a : α, scal .non (toV a) = true
  s3 : ∀ a b : α, scal (toV a) (toV b) = true
instance : AtO Int := ⟨fun _ h => V.noConfusion h, fun a b h => V.int.inj h, rfl, fun _ => rfl, fun _ => rfl, fun _ _ => rfl⟩
instance : AtO Tt := ⟨fun _ h => V.noConfusion h, fun a b h => Tt.ext' (V.str.inj h), rfl, fun _ => rfl, fun _ => rfl, fun _ _ => rfl⟩
theorem opt_scal {α : Type} [At1 α] [AtO α] [DecidableEq α] {G : Hp} {v w : V} {x y : Option α} (h1 : rep Γ G v x) (h2 : rep Γ G w y) : scal v w = true ∧ decide (v = w) = decide (x = y) := by
  cases x with
  | none =>
    obtain rfl : v = .non := h1
    cases y with
    | none =>
      obtain rfl : w = .non := h2
      exact ⟨AtO.s0 α, by simp⟩
    | some b =>
      obtain rfl : w = toV b := h2.2
      exact ⟨AtO.s2 b, by rw [decide_eq_false fun z => AtO.nn b z.symm]; simp⟩
  | some a =>
    obtain rfl : v = toV a := h1.2
    cases y with
    | none =>
      obtain rfl : w = .non := h2
      exact ⟨AtO.s1 a, by rw [decide_eq_false fun z => AtO.nn a z]; simp⟩
    | some b =>
      obtain rfl : w = toV b := h2.2
      exact ⟨AtO.s3 a b, decide_eq_decide.mpr ⟨fun z => by rw [AtO.inj a b z], fun z => by cases z; rfl⟩⟩
theorem o_eqO {α : Type} [At1 α] [AtO α] [DecidableEq α] : Op2 Γ rEq fun (i j : Option α) => some (decide (i = j)) := fun G H x y p q z s h1 h2 e Q k => by
  cases e
  obtain ⟨a1, a2⟩ := opt_scal h1 h2
  exact ⟨a1, by rw [a2]; exact k _ G H (.refl s) rfl⟩
theorem o_neO {α : Type} [At1 α] [AtO α] [DecidableEq α] : Op2 Γ rNe fun (i j : Option α) => some (!decide (i = j)) := fun G H x y p q z s h1 h2 e Q k => by
  cases e
  obtain ⟨a1, a2⟩ := opt_scal h1 h2
  exact ⟨a1, by rw [a2]; exact k _ G H (.refl s) rfl⟩
theorem nn_at {α : Type} [At1 α] [AtO α] : ∀ Γ G v (a : α), rep Γ G v a → v ≠ .non := fun Γ G v a h => by rw [rep1 h]; exact AtO.nn a
theorem nn_list : ∀ Γ G v (a : List α), rep Γ G v a → v ≠ .non := fun Γ G v a ⟨p, _, h, _⟩ => by rw [h]; intro z; cases z
theorem nn_prod : ∀ Γ G v (a : α × γ), rep Γ G v a → v ≠ .non := fun Γ G v a ⟨p, _, _, h, _⟩ => by rw [h]; intro z; cases z

/-! ### lists of three kinds -/
theorem xe_r3a {δ : Type} [Rp δ] {m : Option (R3 α γ δ)} {j : Nat} {p1 : Pos} (ha : XE X Γ B ρ a m) : XE X Γ B ρ (.Subscript a (.Constant (.int 0) j p1) pos) (m.bind fun t => some t.a) := imE (pe_ix ix_list ha pe_int fun _ _ => rfl) fun σ H Q ⟨G, z, A, e, q⟩ => by
  cases m with
  | none => cases e
  | some t =>
    cases e
    refine ⟨G, t, A, rfl, fun v G1 H1 g1 ⟨p, x, y, w, h1, h2, h3, h4, h5⟩ => ?_⟩
    exact ⟨p, [x, y, w], 0, x, h1, rfl, SqL.of (g1.sub.lst h2), rfl, q x G1 H1 g1 h3⟩
theorem xe_r3b {δ : Type} [Rp δ] {m : Option (R3 α γ δ)} {j : Nat} {p1 : Pos} (ha : XE X Γ B ρ a m) : XE X Γ B ρ (.Subscript a (.Constant (.int 1) j p1) pos) (m.bind fun t => some t.b) := imE (pe_ix ix_list ha pe_int fun _ _ => rfl) fun σ H Q ⟨G, z, A, e, q⟩ => by
  cases m with
  | none => cases e
  | some t =>
    cases e
    refine ⟨G, t, A, rfl, fun v G1 H1 g1 ⟨p, x, y, w, h1, h2, h3, h4, h5⟩ => ?_⟩
    exact ⟨p, [x, y, w], 1, y, h1, rfl, SqL.of (g1.sub.lst h2), rfl, q y G1 H1 g1 h4⟩
theorem xe_r3c {δ : Type} [Rp δ] {m : Option (R3 α γ δ)} {j : Nat} {p1 : Pos} (ha : XE X Γ B ρ a m) : XE X Γ B ρ (.Subscript a (.Constant (.int 2) j p1) pos) (m.bind fun t => some t.c) := imE (pe_ix ix_list ha pe_int fun _ _ => rfl) fun σ H Q ⟨G, z, A, e, q⟩ => by
  cases m with
  | none => cases e
  | some t =>
    cases e
    refine ⟨G, t, A, rfl, fun v G1 H1 g1 ⟨p, x, y, w, h1, h2, h3, h4, h5⟩ => ?_⟩
    exact ⟨p, [x, y, w], 2, w, h1, rfl, SqL.of (g1.sub.lst h2), rfl, q w G1 H1 g1 h5⟩
theorem xe_r3 {δ : Type} [Rp δ] {c : Expr} {ma : Option α} {mb : Option γ} {mc : Option δ} (ha : XE X Γ B ρ a ma) (hb : XE X Γ B ρ b mb) (hc : XE X Γ B ρ c mc) (s1 : starEach [a, b, c] X.env = (false, eval a X.env) :: starEach [b, c] X.env := by rfl)
    (s2 : starEach [b, c] X.env = (false, eval b X.env) :: starEach [c] X.env := by rfl) (s3 : starEach [c] X.env = (false, eval c X.env) :: starEach [] X.env := by rfl) : XE X Γ B ρ (.List [a, b, c] pos) (ma.bind fun x => mb.bind fun y => mc.bind fun z => some (R3.mk x y z)) :=
  imE (pe_lst (pa_cons ha (pa_cons hb (pa_cons hc pa_nil s3) s2) s1)) fun σ H Q ⟨G, z, A, e, q⟩ => by
  cases ma with
  | none => cases e
  | some x =>
    cases mb with
    | none => cases e
    | some y =>
      cases mc with
      | none => cases e
      | some w =>
        cases e
        refine ⟨G, x, A, rfl, fun v1 G1 H1 g1 r1 => ⟨G1, y, A.grow g1, rfl, fun v2 G2 H2 g2 r2 => ⟨G2, w, A.grow (g1.trans g2), rfl, fun v3 G3 H3 g3 r3 => ⟨(by show 3 ≤ sizeLine; decide), fun p hp => ?_⟩⟩⟩⟩
        have g4 := Grow.new g3.sub hp (.lst [v1, v2, v3])
        exact q _ _ _ (((g1.trans g2).trans g3).trans g4) ⟨p, v1, v2, v3, rfl, upd_same, Rp.mono ((g2.leG.trans g3.leG).trans g4.leG) r1, Rp.mono (g3.leG.trans g4.leG) r2, Rp.mono g4.leG r3⟩

/-! ### targets of two, of three -/
theorem xg_pair (d : Dok X Γ B N sc k fx W M) {ρ : S → Sto} {x y : Str} (i j : Nat) {n : Nat} {p1 p2 : Pos} (hi : N[i]? = some x) (hx : Loc sc x) (hj : N[j]? = some y) (hy : Loc sc y) (hρ : ∀ s, Nat.ble (i + 1) (ρ s).length = true := by intro _; rfl) (hf : fx.contains i = false := by rfl)
    (hρ2 : ∀ s, Nat.ble (j + 1) (ρ s).length = true := by intro _; rfl) (hf2 : fx.contains j = false := by rfl) : XG X Γ B (.Tuple [.Name x p1, .Name y p2] n pos) ρ (fun s (t : α × γ) => ((ρ s).set i (vl t.1)).set j (vl t.2)) :=
  imG (pg_tup d.calm (pgs_cons (pg_name (i := i) (by rw [d.hN]; exact d.nd) (by rw [d.hN]; exact hi) (by rw [d.hsc]; exact hx) (.inl (d.hfn x))) (pgs_cons (pg_name (i := j) (by rw [d.hN]; exact d.nd) (by rw [d.hN]; exact hj) (by rw [d.hsc]; exact hy) (.inl (d.hfn y))) pgs_nil))) fun v σ H Q ⟨s, t, G, A, ⟨p, u, w, h1, h2, h3, h4⟩, q⟩ => by
  refine ⟨p, [u, w], h1, SqT.of (A.sub.tup h2), rfl, u, [w], rfl, w, [], rfl, rfl, ?_⟩
  have no : ∀ n, fx.contains n = false → n ∉ B.fx := fun n hn hm => by
    rw [d.hfx] at hm
    rw [List.contains_iff_mem.mpr hm] at hn
    cases hn
  have A1 := A.setV (Nat.le_of_ble_eq_true (hρ s)) h3 (no i hf)
  exact q G H _ (.refl _) (A1.setV (by rw [List.length_set]; exact Nat.le_of_ble_eq_true (hρ2 s)) h4 (no j hf2))
theorem xg_trip {δ : Type} [Rp δ] (d : Dok X Γ B N sc k fx W M) {ρ : S → Sto} {x y z : Str} (i j l : Nat) {n : Nat} {p1 p2 p3 : Pos} (hi : N[i]? = some x) (hj : N[j]? = some y) (hl : N[l]? = some z) (hx : Loc sc x) (hy : Loc sc y) (hz : Loc sc z) (hρ : ∀ s, Nat.ble (i + 1) (ρ s).length = true := by intro _; rfl) (hf : fx.contains i = false := by rfl)
    (hρ2 : ∀ s, Nat.ble (j + 1) (ρ s).length = true := by intro _; rfl) (hf2 : fx.contains j = false := by rfl) (hρ3 : ∀ s, Nat.ble (l + 1) (ρ s).length = true := by intro _; rfl) (hf3 : fx.contains l = false := by rfl) : XG X Γ B (.Tuple [.Name x p1, .Name y p2, .Name z p3] n pos) ρ (fun s (t : T3 α γ δ) => (((ρ s).set i (vl t.a)).set j (vl t.b)).set l (vl t.c)) :=
  imG (pg_tup d.calm (pgs_cons (pg_name (i := i) (by rw [d.hN]; exact d.nd) (by rw [d.hN]; exact hi) (by rw [d.hsc]; exact hx) (.inl (d.hfn x))) (pgs_cons (pg_name (i := j) (by rw [d.hN]; exact d.nd) (by rw [d.hN]; exact hj) (by rw [d.hsc]; exact hy) (.inl (d.hfn y))) (pgs_cons (pg_name (i := l) (by rw [d.hN]; exact d.nd) (by rw [d.hN]; exact hl) (by rw [d.hsc]; exact hz) (.inl (d.hfn z))) pgs_nil)))) fun v σ H Q ⟨s, t, G, A, ⟨p, u, w, u3, h1, h2, h3, h4, h5⟩, q⟩ => by
  refine ⟨p, [u, w, u3], h1, SqT.of (A.sub.tup h2), rfl, u, [w, u3], rfl, w, [u3], rfl, u3, [], rfl, rfl, ?_⟩
  have no : ∀ n, fx.contains n = false → n ∉ B.fx := fun n hn hm => by
    rw [d.hfx] at hm
    rw [List.contains_iff_mem.mpr hm] at hn
    cases hn
  have A1 := A.setV (Nat.le_of_ble_eq_true (hρ s)) h3 (no i hf)
  have A2 := A1.setV (i := j) (by rw [List.length_set]; exact Nat.le_of_ble_eq_true (hρ2 s)) h4 (no j hf2)
  exact q G H _ (.refl _) (A2.setV (by rw [List.length_set, List.length_set]; exact Nat.le_of_ble_eq_true (hρ3 s)) h5 (no l hf3))
/-- enumerate -/
def enumL {α : Type} (xs : List α) : List (Int × α) := xs.zipIdx.map fun q => ((q.2 : Int), q.1)
theorem xi_enum (c : Cok X Γ N sc k) {m : Option (List α)} {tpos : Pos} {elts : List Expr} {kk : Nat} (ha : XE X Γ B ρ e m) (hg : Glb sc "enumerate") (hm : Γ.mg "enumerate" = none) (s1 : starEach [e] X.env = [(false, eval e X.env)] := by rfl) : XI X Γ B ρ (.Tuple elts kk tpos) (.Call (.Name "enumerate" p) [e] [] pos) (m.bind fun xs => some (enumL xs)) :=
  imI (pi_enum (c.gl hg) (by rw [c.hmg]; exact hm) (pa_cons ha pa_nil (by rw [s1]; rfl)) s1) fun σ H R ⟨G, zs, A, e, q⟩ => by
  cases m with
  | none => cases e
  | some xs =>
    cases e
    refine ⟨G, xs, A, rfl, fun v G1 H1 g1 ⟨p, vs, h1, h2, h3⟩ => ⟨p, vs, by rw [h1], SqL.of (g1.sub.lst h2), q _ G1 H1 g1 ⟨YPair (fun i => some (.int (i : Nat))) (fun i => vs[i]?), ?_, ?_⟩⟩⟩
    · have : (enumL xs).length = vs.length := by rw [h3.length]; simp [enumL]
      rw [this]
      exact (walk_enum (K := X.K) (a := p) (xs := vs)).mono (fun H ⟨G2, l2, s2⟩ => SqL.of (s2.lst (l2 _ _ h2))) (fun i H x H' hi _ y => y)
    · rintro i H v H1 hi ⟨T, x, y, e1, e2, e3, e4, e5⟩ G2 l2 s2
      obtain ⟨z, hz, r⟩ := h3.getV e5
      subst e1
      have g3 := Grow.new s2 e2 (.tup [x, y])
      refine ⟨((i : Int), z), _, by simp [enumL, hz], e3 ▸ g3, T, x, y, rfl, upd_same, ?_, Rp.mono (l2.trans g3.leG) r⟩
      have e4 := Option.some.inj e4
      exact e4.symm
end
end Sim

set_option Elab.async false
set_option autoImplicit false
set_option linter.all false
set_option maxRecDepth 100000
set_option maxHeartbeats 1000000
namespace Sim
open PySem L2
open Rp (rep)
open At1 (toV)
open K1 (key)
open KT (keys)
open Ow (own)
open RpA (repA stoA)

/-- an expression that changes the store as it is reckoned -/
def cF (Γ : Gm) (B : Bs) (ρ : Sto) {α S : Type} [Rp α] (m : Option (α × S)) (sto : S → Sto) : TE := fun σ H Q => ∃ G x s, At Γ B ρ G H σ ∧ m = some (x, s) ∧ ∀ v G' H', Le G G' → At Γ B (sto s) G' H' σ → rep Γ G' v x → Q v H'
abbrev XF (X : Cx) (Γ : Gm) (B : Bs) (ρ : Sto) (e : Expr) {α S : Type} [Rp α] (m : Option (α × S)) (sto : S → Sto) : Prop := PE X e (cF Γ B ρ m sto)
section
variable {X : Cx} {Γ : Gm} {B : Bs} {L β C : Type} [Rp β] {F : Kt L β C} {ρ ρ' : Sto} {N : List Str} {sc : Scope} {k : Nat} {fx : List Nat} {W : WX} {M : List Addr} {pos p p' : Pos} {e a b o tg it : Expr} {st : Stmt} {sts : List Stmt} {es : List Expr} {S : Type} {sto : S → Sto}
variable {α γ : Type} [Rp α] [Rp γ]
theorem xf_eq {m m' : Option (α × S)} (h : XF X Γ B ρ e m sto) (q : m = m') : XF X Γ B ρ e m' sto := q ▸ h
/-- xs.pop(i), 0 ≤ i -/
@[irreducible] def ppopAt {α : Type} (xs : List α) (i : Int) : Option (α × List α) := if 0 ≤ i ∧ xs.length ≤ BIG then (xs[i.toNat]?).bind fun y => some (y, xs.eraseIdx i.toNat) else none
theorem xf_popAt (c : Cok X Γ N sc k) {x : Str} (i : Nat) {xs : List α} {mi : Option Int} {apos cpos : Pos} (hi : ρ[i]? = some (ow (OL.mk xs))) (hN : N[i]? = some x) (hv : Vis sc x) (he : XE X Γ B ρ e mi) (hd : (x == ("__debug__" : Str)) = false := by decide) (hcd : (x == ("__classdict__" : Str)) = false := by decide)
    (hfew : ((backTo cpos (starEach [e] X.env)).all (fun x => !x.1) && (backToKw cpos (keywordEach [] X.env)).all (fun x => x.1.isSome)
      && decide ([e].length + ([] : List Keyword).length + (if ([] : List Keyword).isEmpty then 0 else 1) < 30)) = true := by rfl)
    (hline : (apos.endLine == cpos.line) = true := by rfl) (hs : starEach [e] X.env = (false, eval e X.env) :: starEach [] X.env := by rfl) :
    XF X Γ B ρ (.Call (.Attribute (.Name x p) "pop" apos) [e] [] cpos) (mi.bind fun j => ppopAt xs j) (fun ys => ρ.set i (ow (OL.mk ys))) :=
  imE (pe_bm PySem.F.plainAttrs_list PySem.F.slot_list_pop PySem.F.type_list_pop mt_popAt (pv_ c hN hv hd hcd) (pa_cons he pa_nil hs) (by rfl) hfew hline hs (by rfl)) fun σ H Q ⟨G, y, s, A, e, q⟩ => by
  cases mi with
  | none => cases e
  | some j =>
    have e : ppopAt xs j = some (y, s) := e
    unfold ppopAt at e
    by_cases hc : 0 ≤ j ∧ xs.length ≤ BIG
    · rw [if_pos hc] at e
      cases hy : xs[j.toNat]? with
      | none => rw [hy] at e; cases e
      | some y' =>
        rw [hy] at e
        cases e
        have hl : j.toNat < xs.length := (List.getElem?_eq_some_iff.mp hy).1
        obtain ⟨v, fp, h1, ⟨p, vs, rfl, h3, h4, h5⟩, h6⟩ := A.getO hi
        refine ⟨.ref p, h1, .inl ⟨rfl, vs, SqL.of h4⟩, G, j, A, rfl, fun v G1 H1 g1 r1 => ?_⟩
        obtain ⟨u, hu, ru⟩ := h5.get hy
        have hb : xs.length ≤ 1000000 := hc.2
        have hlen : vs.length = xs.length := h5.length
        have hj0 : 0 ≤ j := hc.1
        have hj1 : j < (vs.length : Int) := by omega
        have hj2 : -(2 ^ 63) ≤ j := by omega
        have hj3 : j < 2 ^ 63 := by omega
        refine ⟨p, vs, j, j.toNat, u, rfl, by rw [rep1 r1]; rfl, g1.leH _ _ h4, hj2, hj3, PySem.StrLaws.seqIndex_nonneg hj0 hj1, hu, ?_⟩
        exact q u G1 _ g1.leG ((A.grow g1).setL hi h1 ((h5.mono g1.leG).erase j.toNat)) (Rp.mono g1.leG ru)
    · rw [if_neg hc] at e; cases e
/-- xs.pop() -/
def ppop {α : Type} (xs : List α) : Option (α × List α) := (xs[xs.length - 1]?).bind fun y => some (y, xs.dropLast)
theorem xf_pop (c : Cok X Γ N sc k) {x : Str} (i : Nat) {xs : List α} {apos cpos : Pos} (hi : ρ[i]? = some (ow (OL.mk xs))) (hN : N[i]? = some x) (hv : Vis sc x) (hd : (x == ("__debug__" : Str)) = false := by decide) (hcd : (x == ("__classdict__" : Str)) = false := by decide)
    (hline : (apos.endLine == cpos.line) = true := by rfl) :
    XF X Γ B ρ (.Call (.Attribute (.Name x p) "pop" apos) [] [] cpos) (ppop xs) (fun ys => ρ.set i (ow (OL.mk ys))) :=
  imE (pe_bm0 PySem.F.plainAttrs_list PySem.F.slot_list_pop PySem.F.type_list_pop mt_pop (pv_ c hN hv hd hcd) (by rfl) hline) fun σ H Q ⟨G, y, s, A, e, q⟩ => by
  unfold ppop at e
  cases hy : xs[xs.length - 1]? with
  | none => rw [hy] at e; cases e
  | some y' =>
    rw [hy] at e
    cases e
    obtain ⟨v, fp, h1, ⟨p, vs, rfl, h3, h4, h5⟩, h6⟩ := A.getO hi
    obtain ⟨u, hu, ru⟩ := h5.get hy
    refine ⟨.ref p, h1, .inl ⟨rfl, vs, SqL.of h4⟩, p, vs, u, rfl, rfl, h4, by rw [h5.length]; exact hu, ?_⟩
    exact q u G _ (.refl _) (A.setL hi h1 h5.dropLast) ru
/-- ys.append(F) -/
theorem xp_appF (d : Dok X Γ B N sc k fx W M) {m : Option (α × S)} {x : Str} (i : Nat) {xs0 : List α} {us : S → List α} {apos cpos : Pos} (he : XF X Γ B ρ e m sto) (hi0 : ρ[i]? = some (ow (OL.mk xs0))) (hi : ∀ s, (sto s)[i]? = some (ow (OL.mk (us s)))) (hN : N[i]? = some x) (hv : Vis sc x) (hd : (x == ("__debug__" : Str)) = false := by decide) (hcd : (x == ("__classdict__" : Str)) = false := by decide)
    (hfew : ((backTo cpos (starEach [e] X.env)).all (fun x => !x.1) && (backToKw cpos (keywordEach [] X.env)).all (fun x => x.1.isSome)
      && decide ([e].length + ([] : List Keyword).length + (if ([] : List Keyword).isEmpty then 0 else 1) < 30)) = true := by rfl)
    (hline : (apos.endLine == cpos.line) = true := by rfl) (hs : starEach [e] X.env = (false, eval e X.env) :: starEach [] X.env := by rfl) (hw : swapsWith (.Call (.Attribute (.Name x p) "append" apos) [e] [] cpos) none pos.line X.env = pure false := by rfl) :
    XP1 X Γ B ρ (.Expr (.Call (.Attribute (.Name x p) "append" apos) [e] [] cpos) pos) (m.bind fun q => (push (us q.2) q.1).bind fun ys => some (q.2, ys)) (fun q => (sto q.1).set i (ow (OL.mk q.2))) :=
  imS (ps_expr (pe_bm PySem.F.plainAttrs_list PySem.F.slot_list_append PySem.F.type_list_append mt_append (pv_ d.toCok hN hv hd hcd) (pa_cons he pa_nil hs) (by rfl) hfew hline hs (by rfl)) hw) fun D σ H ⟨G, s, A, e, q⟩ => by
  cases m with
  | none => cases e
  | some y =>
    have e : ((push (us y.2) y.1).bind fun ys => some (y.2, ys)) = some s := e
    cases hp : push (us y.2) y.1 with
    | none => rw [hp] at e; cases e
    | some ys =>
      rw [hp] at e
      cases e
      obtain ⟨hl, e⟩ := ite_some (by have qq : (push (us y.2) y.1) = some ys := hp; unfold push at qq; exact qq)
      subst e
      obtain ⟨v, fp, h1, ⟨p, vs, rfl, h3, h4, h5⟩, h6⟩ := A.getO hi0
      refine ⟨.ref p, h1, .inl ⟨rfl, vs, SqL.of h4⟩, G, y.1, y.2, A, rfl, fun v G1 H1 l1 A1 r1 => ?_⟩
      obtain ⟨w, fp1, k1, ⟨p1, vs1, e1, k3, k4, k5⟩, k6⟩ := A1.getO (hi y.2)
      rw [h1] at k1
      cases k1
      cases e1
      refine ⟨p, vs1, v, rfl, rfl, k4, by rw [show vs1.length = (us y.2).length from k5.length]; exact big_lt (by omega), ?_⟩
      exact q G1 _ σ (A1.setL (hi y.2) h1 (k5.append (.cons r1 .nil)))
/-- x = F -/
theorem xp_setF (d : Dok X Γ B N sc k fx W M) {m : Option (α × S)} {x : Str} (i : Nat) (he : XF X Γ B ρ e m sto) (hi : N[i]? = some x) (hx : Loc sc x) (hρ : ∀ s, Nat.ble (i + 1) (sto s).length = true := by intro _; rfl) (hf : fx.contains i = false := by rfl) (hs : swapsWith e (some (.Name x p')) pos.line X.env = pure false := by rfl) :
    XP1 X Γ B ρ (.Assign [.Name x p'] e pos) m (fun q => (sto q.2).set i (vl q.1)) := imS (ps_set (i := i) (by rw [d.hN]; exact d.nd) (by rw [d.hN]; exact hi) (by rw [d.hsc]; exact hx) he hs (.inl (d.hfn x))) fun D σ H ⟨G, s, A, e, q⟩ =>
  ⟨G, s.1, s.2, A, e, fun v G1 H1 l1 A1 r1 => q G1 _ _ (A1.setV (Nat.le_of_ble_eq_true (hρ s.2)) r1 fun hm => by
    rw [d.hfx] at hm
    rw [List.contains_iff_mem.mpr hm] at hf
    cases hf)⟩
/-- F alone -/
theorem xp_doF (d : Dok X Γ B N sc k fx W M) {m : Option (α × S)} (he : XF X Γ B ρ e m sto) (hw : swapsWith e none pos.line X.env = pure false := by rfl) : XP1 X Γ B ρ (.Expr e pos) (m.bind fun q => some q.2) sto := imS (ps_expr he hw) fun D σ H ⟨G, s, A, e, q⟩ => by
  cases m with
  | none => cases e
  | some y =>
    cases e
    exact ⟨G, y.1, y.2, A, rfl, fun v G1 H1 l1 A1 r1 => q G1 H1 σ A1⟩
/-- a < b < c of ints, as a test -/
theorem xt_chain {op op' : CmpOp} {p p' : Int → Int → Bool} {c : Expr} {ma mb mc : Option Int} (ho : OpR X (compareOp op) (rI0 fun i j => .bl (p i j))) (ho' : OpR X (compareOp op') (rI0 fun i j => .bl (p' i j))) (ha : XE X Γ B ρ a ma) (hb : XE X Γ B ρ b mb) (hc : XE X Γ B ρ c mc)
    (h1 : lastMarks [op, op'] [b, c] = false := by rfl) : XT X Γ B ρ (.Compare a [op, op'] [b, c] pos) (ma.bind fun x => mb.bind fun y => if p x y = true then mc.bind fun z => some (p' y z) else some false) := imT (pt_chain ho ho' ha hb hc h1) fun σ H Q ⟨G, z, A, e, q⟩ => by
  cases ma with
  | none => cases e
  | some x =>
    cases mb with
    | none => cases e
    | some y =>
      refine ⟨G, x, A, rfl, fun v1 G1 H1 g1 r1 => ⟨G1, y, A.grow g1, rfl, fun v2 G2 H2 g2 r2 => ⟨x, y, rep1 r1, rep1 r2, p x y, rfl, ?_⟩⟩⟩
      have e : (if p x y = true then mc.bind (fun z => some (p' y z)) else some false) = some z := e
      cases hp : p x y with
      | true =>
        rw [hp, if_pos rfl] at e
        rw [if_pos rfl]
        cases mc with
        | none => cases e
        | some w =>
          cases e
          exact ⟨G2, w, A.grow (g1.trans g2), rfl, fun v3 G3 H3 g3 r3 => ⟨y, w, rep1 r2, rep1 r3, _, rfl, q G3 H3 ((g1.trans g2).trans g3)⟩⟩
      | false =>
        rw [hp, if_neg Bool.false_ne_true] at e
        rw [if_neg Bool.false_ne_true]
        cases e
        exact ⟨_, rfl, q G2 H2 (g1.trans g2)⟩
end
end Sim

set_option Elab.async false
set_option autoImplicit false
set_option linter.all false
set_option maxRecDepth 100000
set_option maxHeartbeats 1000000
namespace Sim
open PySem L2
open Rp (rep)
open At1 (toV)
open K1 (key)
open KT (keys)
open Ow (own)
open RpA (repA stoA)

/-! ### a slot of one's own, opened: anything may be done at its footprint -/
theorem At.openO {Γ : Gm} {B : Bs} {ρ : Sto} {G H : Hp} {σ : St} {α : Type} {I : Ow α} {a : α} {i : Nat} (A : At Γ B ρ G H σ) (h : ρ[i]? = some (.own α I a)) : ∃ v fp, σ[i]? = some (some v) ∧ I.own Γ G H v fp a ∧ (∀ x ∈ fp, G x = none) ∧
    ∀ (β : Type) (J : Ow β) (b : β) (G' H' : Hp) (fp' : List Addr), Le G G' → Sub G' H' → (∀ x, H x ≠ none → G x = none → Th (H x) (G' x)) → (∀ x o, x ∉ fp → H x = some o → H' x = some o) → (∀ x ∈ fp, H' x ≠ none) → (∀ x ∈ fp', x ∈ fp ∨ (H x = none ∧ G' x = none)) → J.own Γ G' H' v fp' b →
      At Γ B (ρ.set i (.own β J b)) G' H' σ := by
  obtain ⟨φ, h1, h3⟩ := A.slots
  have hi : i < ρ.length := (List.getElem?_eq_some_iff.mp h).1
  obtain ⟨o, e1, v, e2, ow⟩ := h1.ok i _ h
  have e1 : σ[i]? = some (some v) := by rw [e1, e2]
  refine ⟨v, φ i, e1, ow, fun x hx => (h3 i x hx).1, fun β J b G' H' fp' leG sub thin keep live hfp own' => ?_⟩
  have hs : i < σ.length := by rw [h1.len]; exact hi
  have eσ : σ.set i (some v) = σ := by
    have := List.getElem?_eq_getElem hs
    rw [this] at e1
    rw [← Option.some.inj e1]; simp
  have thr : ∀ x, H x ≠ none → H' x ≠ none := fun x hx => by
    by_cases hm : x ∈ φ i
    · exact live x hm
    · cases q : H x with
      | none => exact absurd q hx
      | some u => rw [keep x u hm q]; simp
  have hfp2 : ∀ j x, j ≠ i → x ∈ fp' → x ∉ φ j := fun j x hj hx hm => by
    rcases hfp x hx with q | ⟨q, _⟩
    · exact hj (h1.apart j i x hm q)
    · exact h1.there j x hm q
  refine ⟨sub, A.le.trans leG, fun x u hx e => ?_, fun x hx => thr x (A.live x hx), A.thinT thin, ⟨setφ φ i fp', ?_, fun j x hx => ?_⟩, A.fix⟩
  · have hm : x ∉ φ i := fun hm => by
      rcases (h3 i x hm).2 with w | w
      · rw [w] at e; cases e
      · exact hx w
    exact keep x u hm (A.keep x u hx e)
  · refine ⟨by simp [h1.len], fun j s hj => ?_, fun j k x hx hy => ?_, fun j hj => ?_⟩
    · by_cases z : j = i
      · subst z
        rw [List.getElem?_set_self hi] at hj
        cases hj
        exact ⟨some v, e1, v, rfl, by rw [setφ_same]; exact own'⟩
      · rw [List.getElem?_set_ne (Ne.symm z)] at hj
        obtain ⟨o', q1, q2⟩ := h1.ok j s hj
        refine ⟨o', q1, ?_⟩
        rw [setφ_ne z]
        exact q2.grow leG fun x hx u e => keep x u (fun hm => z (h1.apart j i x hx hm)) e
    · rcases mem_setφ hx with ⟨e, hx⟩ | ⟨e, hx⟩ <;> rcases mem_setφ hy with ⟨e', hy⟩ | ⟨e', hy⟩
      · rw [e, e']
      · exact absurd hy (hfp2 k x e' hx)
      · exact absurd hx (hfp2 j x e hy)
      · exact h1.apart j k x hx hy
    · have z : j ≠ i := by
        intro z
        rw [List.length_set, z] at hj
        omega
      rw [setφ_ne z]
      exact h1.out j (by simpa using hj)
  · rcases mem_setφ hx with ⟨_, q⟩ | ⟨hj, q⟩
    · rcases hfp x q with w | ⟨w1, w2⟩
      · refine ⟨(thin x ?_ (h3 i x w).1).none (h1.nt i x w), (h3 i x w).2⟩
        exact h1.there i x w
      · refine ⟨w2, .inl ?_⟩
        cases z : B.H x with
        | none => rfl
        | some u => exact absurd w1 (A.live x (some_ne z))
    · exact ⟨(thin x (h1.there j x q) (h3 j x q).1).none (h1.nt j x q), (h3 j x q).2⟩

end Sim

set_option Elab.async false
set_option autoImplicit false
set_option linter.all false
set_option maxRecDepth 100000
set_option maxHeartbeats 1000000
namespace LR
open PySem PySem.Spec PyProof.Rows RT
section
variable {prog : Program} {w : World} {A : Around} {E : Value → Shared → Prop} {s : Shared}
/-- S (empty) is filled from the reversed iterator at it -/
theorem ext_rev {R : Result → Shared → Prop} {S it l : Addr} {items : Array Value} {c₀ : Nat} (hh : A.handled = none) (hi : s.heap.IsRevIter it l ((items.size : Int) - 1)) (hl : s.heap.IsList l items) (hne : l ≠ it) (h1 : S ≠ it) (h2 : S ≠ l) (hS : s.heap.get? S = some { cls := .type "list", data := .seq #[] c₀ }) (hn : items.size ≤ sizeLine)
    (hR : ∀ h' tk acc c, (∀ b o, b ≠ S → b ≠ it → s.heap.get? b = some o → h'.get? b = some o) → h'.get? S = some { cls := .type "list", dict := none, data := .seq acc c, slots := #[] } → ItemsOf (fun i v => items[items.size - 1 - i]? = some v) acc items.size → R (.ok (.ret .none)) { s with heap := h', toks := tk }) :
    wpAny (model prog w) A.in1 (Builtin.List.listExtendWith (.ref S) (.ref it) .none)
      (fun fin s' => match fin with | .done f => R (.ok f) s' | .again c' => c'.quiet = true ∧ codeAny (model prog w) A c' R s') (fun e s' => R (.error e) s') s := by
  have W := (Walks.listRev (prog := prog) (w := w) (A := A.in1) hh it l hne items).toS
  have hf : S ∉ [it, l] := by simp only [List.mem_cons, List.not_mem_nil, or_false, not_or]; exact ⟨h1, h2⟩
  have hT : s.TypeIs (.ref it) "list_reverseiterator" := hi.typeIs
  have hr : Builtin.List.listSameRef (.ref S) (.ref it) = false := by simp [Builtin.List.listSameRef, h1]
  unfold Builtin.List.listExtendWith
  refine wpAny_bind (wpAny_typeOf hT ?_)
  rw [if_neg (by rw [hr]; decide)]
  refine wpAny_bind (wpAny_pyIter_revIter hi ?_)
  refine wpAny_bind (wpAny_holding ?_)
  unfold Builtin.List.listLengthHint
  refine wpAny_bind (wpAny_specialOf hT nolen_lri ?_)
  show wpAny _ A.in1 (specialOf (Value.ref it) (Str.ofString "__length_hint__") >>= _) _ _ _
  refine wpAny_bind (wpAny_specialOf hT hint_lri ?_)
  generalize hd : ("list_reverseiterator.__length_hint__" : String) = idh
  wp_delta
  rw [show splitId idh = some ("list_reverseiterator", "__length_hint__") from by subst hd; decide +kernel]
  subst hd
  refine wpAny_bind (wpAny_isInstance (b := true) hT (by rw [isSubtype_type]; kernel_rfl) ?_)
  refine wpAny_pure ?_
  rw [if_neg (by decide)]
  have e0 : ((items.size : Nat) : Int) - 1 - ((0 : Nat) : Int) = (items.size : Int) - 1 := by omega
  refine wpAny_pure ⟨plainId_quiet F.plain_extend_loop _, codeAny_extend_loopS W hn S hf .none items.size 0 _ _ _ rfl (Nat.zero_le _) ⟨Nat.zero_le _, by rw [e0]; exact hi, hl⟩ hS (ItemsOf.nil _) fun s' acc c hm hS' hacc => ?_⟩
  rw [Moved.eq_with hm]
  refine hR s'.heap s'.toks acc c (fun b o hb hb2 e => hm.heap b o (fun hmem => ?_) e) hS' hacc
  rcases List.mem_cons.mp hmem with e' | hmem
  · exact hb e'
  · exact hb2 (List.mem_singleton.mp hmem)
theorem init_rev {R : Result → Shared → Prop} {S it l : Addr} {items : Array Value} (hh : A.handled = none) (hi : s.heap.IsRevIter it l ((items.size : Int) - 1)) (hl : s.heap.IsList l items) (hne : l ≠ it) (h1 : S ≠ it) (h2 : S ≠ l) (hS : s.heap.get? S = some { cls := .type "list", data := .seq #[] }) (hn : items.size ≤ sizeLine)
    (hR : ∀ h' tk acc c, (∀ b o, b ≠ S → b ≠ it → s.heap.get? b = some o → h'.get? b = some o) → h'.get? S = some { cls := .type "list", dict := none, data := .seq acc c, slots := #[] } → ItemsOf (fun i v => items[items.size - 1 - i]? = some v) acc items.size → R (.ok (.ret .none)) { s with heap := h', toks := tk }) :
    wpAny (model prog w) A.in1 (Builtin.«list.__init__» ⟨[.ref S, .ref it], []⟩)
      (fun fin s' => match fin with | .done f => R (.ok f) s' | .again c' => c'.quiet = true ∧ codeAny (model prog w) A c' R s') (fun e s' => R (.error e) s') s := by
  show wpAny _ A.in1 (do
    let was ← Builtin.List.listItems (.ref S)
    Builtin.List.listUpdate (.ref S) (fun _ => #[])
    letGo was.toList.reverse
    Builtin.List.listExtendWith (.ref S) (.ref it) .none) _ _ s
  refine wpAny_bind ?_
  unfold Builtin.List.listItems
  refine wpAny_bind (wpAny_seqItems hS rfl (wpAny_pure ?_))
  refine wpAny_bind ?_
  show wpAny _ A.in1 (updateSeq S fun _ => #[]) _ _ s
  refine wpAny_updateSeq hS rfl ?_
  refine wpAny_bind (wpAny_letGo ?_)
  have k : ∀ b o, b ≠ S → s.heap.get? b = some o → (s.heap.update S (Obj.mapSeq fun _ => (#[] : Array Value))).get? b = some o := fun b o hb e => by
    rw [Heap.get?_update_other _ _ (Ne.symm hb)]; exact e
  have hl2 : (s.heap.update S (Obj.mapSeq fun _ => (#[] : Array Value))).IsList l items := hl.at fun o e => k l o (Ne.symm h2) e
  exact ext_rev (s := { s with heap := s.heap.update S (Obj.mapSeq fun _ => (#[] : Array Value)) }) hh (hi.at fun o e => k it o (Ne.symm h1) e) hl2 hne h1 h2 (Heap.get?_update_self (Obj.mapSeq fun _ => (#[] : Array Value)) hS rfl) hn
    fun h' tk acc c q => hR h' tk acc c fun b o hb hb2 e => q b o hb hb2 (k b o hb e)
theorem call_list_rev {it l : Addr} {items : Array Value} {Q : Value → Shared → Prop} (hh : A.handled = none) (hi : s.heap.IsRevIter it l ((items.size : Int) - 1)) (hl : s.heap.IsList l items) (hne : l ≠ it) (hn : items.size ≤ sizeLine)
    (hQ : ∀ h' tk acc c, (∀ b o, b ≠ it → s.heap.get? b = some o → h'.get? b = some o) → h'.get? s.heap.objs.size = some { cls := .type "list", dict := none, data := .seq acc c, slots := #[] } → ItemsOf (fun i v => items[items.size - 1 - i]? = some v) acc items.size → Q (.ref s.heap.objs.size) { s with heap := h', toks := tk }) :
    wpAny (model prog w) A (call (.type "list") [.ref it]) Q E s := by
  obtain ⟨oi, hoi, _⟩ := id hi
  obtain ⟨ol, hol, _⟩ := id hl
  have n1 : s.heap.objs.size ≠ it := Nat.ne_of_gt (Heap.lt_size hoi)
  have n2 : s.heap.objs.size ≠ l := Nat.ne_of_gt (Heap.lt_size hol)
  refine callType_codes (Q₁ := fun obj s₁ => obj = .ref s.heap.objs.size ∧ s₁ = { s with heap := s.heap.push { cls := .type "list", data := .seq #[] } }) F.called_list (F.typeCall_list_1 _) F.entry_list_init
    (code_list_new _ ⟨rfl, rfl⟩) fun obj s₁ hb => ?_
  obtain ⟨rfl, rfl⟩ := hb
  have hS : (s.heap.push { cls := .type "list", data := .seq #[] }).get? s.heap.objs.size = some { cls := .type "list", data := .seq #[] } := Heap.get?_push_size _ rfl
  refine ⟨⟨_, hS, rfl⟩, F.args_list_init_2 _ _, ?_⟩
  refine init_rev (A := A.in1) (s := { s with heap := s.heap.push { cls := .type "list", data := .seq #[] } }) hh (hi.at fun o e => Heap.get?_push_of_some _ e) (hl.push _) hne n1 n2 hS hn fun h' tk acc c q hS' hacc => ⟨rfl, ?_⟩
  exact hQ h' tk acc c (fun b o hb e => q b o (Nat.ne_of_lt (Heap.lt_size e)) hb (Heap.get?_push_of_some _ e)) hS' hacc
end
end LR
namespace Sim
open PySem PySem.Spec PyProof.Rows L2 RT
open Rp (rep)
open At1 (toV)
/-- list(reversed(x)), x a list: a new list -/
def tListRev (K : PySem.W.Frag) (te : TE) : TE := fun σ H Q => te σ H fun v H1 => ∃ (a : Addr) (xs : List V), v = .ref a ∧ SqL K H1 a xs ∧ ∀ q, H1 q = none → Q (.ref q) (upd H1 q (.lst xs.reverse))
theorem pe_listRev {X : Cx} {e : Expr} {te : TE} {p p2 pos pos2 : Pos} (hc : X.calm = true) (hg : Gl X "list") (hm : X.mg "list" = none) (hg2 : Gl X "reversed") (hm2 : X.mg "reversed" = none) (he : PE X e te)
    (s1 : starEach [e] X.env = (false, eval e X.env) :: starEach [] X.env := by rfl)
    (s2 : starEach [.Call (.Name "reversed" p2) [e] [] pos2] X.env = (false, eval (.Call (.Name "reversed" p2) [e] [] pos2) X.env) :: starEach [] X.env := by rfl) :
    PE X (.Call (.Name "list" p) [.Call (.Name "reversed" p2) [e] [] pos2] [] pos) (tListRev X.K te) := by
  refine ⟨fun pins s σ H Q I h => ?_⟩
  refine Call_ (ld_blt I hg hm (by decide +kernel : bootBuiltins "list" = some (.type "list")) (callWith_type1 (args_cons ?_ s2) s2 rfl))
  refine Call_ (ld_blt I hg2 hm2 boot_reversed (callWith_type1 (args_cons (thn (he.run pins s σ H _ I h) fun u s3 ⟨v, H1, I1, r1, q1⟩ => args_nil ?_) s1) s1 rfl))
  obtain ⟨a, xs, ev, hq, q⟩ := q1
  subst ev
  obtain rfl : u = Value.ref a := r1
  obtain ⟨its, rv, pl, hz⟩ := I1.list hq
  refine call_reversed_list pl.isList (args_nil ?_)
  have hl := pl.isList
  obtain ⟨ol, hol, _⟩ := id hl
  have hne : a ≠ s3.heap.objs.size := Nat.ne_of_lt (Heap.lt_size hol)
  have hn : its.toArray.size ≤ sizeLine := by rw [List.size_toArray, ← rv.length]; exact hz
  have keep0 : ∀ b o, s3.heap.get? b = some o → (s3.heap.push (revObj a ((its.toArray.size : Int) - 1))).get? b = some o := fun b o e => Heap.get?_push_of_some _ e
  have I2 : Inv X pins σ H1 { s3 with heap := s3.heap.push (revObj a ((its.toArray.size : Int) - 1)) } := I1.kept (t' := s3.toks) keep0
  obtain ⟨f0, f1, f2, f3, f4, f5⟩ := I1.fpOk (H' := H1) (b := s3.heap.objs.size) (Nat.le_refl _) (I1.hok.fresh (Nat.le_refl _))
  refine LR.call_list_rev (s := { s3 with heap := s3.heap.push (revObj a ((its.toArray.size : Int) - 1)) }) (I1.ok.hd hc) ⟨_, Heap.get?_push_size _ rfl, rfl, rfl⟩ (hl.push _) hne hn fun h' tk acc c hk hS hi => ?_
  have new : ObjOk X.prog X.w (upd H1 (s3.heap.push (revObj a ((its.toArray.size : Int) - 1))).objs.size (.lst xs.reverse)) h' (s3.heap.push (revObj a ((its.toArray.size : Int) - 1))).objs.size (.lst xs.reverse) :=
    ⟨by rw [List.length_reverse]; exact hz, acc.toList, c, vals_rev rv hi, by rw [Array.toArray_toList]; exact hS⟩
  exact ⟨.ref (s3.heap.push (revObj a ((its.toArray.size : Int) - 1))).objs.size, _, I2.turnedNew (t' := tk) (ch := [s3.heap.objs.size]) (fun b ob hb q => hk b ob (fun z => hb (List.mem_singleton.mpr z)) q) (fun b hb => by
    rw [List.mem_singleton.mp hb]
    exact ⟨f0, f1, f2, f3, f4, f5⟩) (Nat.le_refl _) new, rfl, q _ (I2.hok.fresh (Nat.le_refl _))⟩
section
open K1 (key)
variable {X : Cx} {Γ : Gm} {B : Bs} {ρ : Sto} {N : List Str} {sc : Scope} {k : Nat} {pos p p2 pos2 : Pos} {e a b tg it elt kx : Expr}
variable {α γ : Type} [Rp α] [Rp γ]
theorem xn_listRev (c : Cok X Γ N sc k) {m : Option (List α)} (ha : XR X Γ B ρ e m) (hg : Glb sc "list") (hm : Γ.mg "list" = none) (hg2 : Glb sc "reversed") (hm2 : Γ.mg "reversed" = none) (s1 : starEach [e] X.env = (false, eval e X.env) :: starEach [] X.env := by rfl)
    (s2 : starEach [.Call (.Name "reversed" p2) [e] [] pos2] X.env = (false, eval (.Call (.Name "reversed" p2) [e] [] pos2) X.env) :: starEach [] X.env := by rfl) :
    XN X Γ B ρ (.Call (.Name "list" p) [.Call (.Name "reversed" p2) [e] [] pos2] [] pos) (m.bind fun xs => some xs.reverse) := imE (pe_listRev c.calm (c.gl hg) (by rw [c.hmg]; exact hm) (c.gl hg2) (by rw [c.hmg]; exact hm2) ha s1 s2) fun σ H Q ⟨G, z, A, e, q⟩ => by
  cases m with
  | none => cases e
  | some xs =>
    cases e
    exact ⟨G, xs, A, rfl, fun p vs G1 H1 g1 hp r1 => ⟨p, vs, rfl, SqL.of hp, fun q' hq => q q' _ G1 H1 g1 hq r1.reverse⟩⟩
/-- the keys of a dict -/
theorem xi_keys {κ : Type} [K1 κ] [At1 κ] [KAt κ] {m : Option (DK κ α)} (h : XE X Γ B ρ e m) : XI X Γ B ρ tg e (m.bind fun d => some (d.l.map (·.1))) := imI (pi_keys h) fun σ H R ⟨G, zs, A, e, q⟩ => by
  cases m with
  | none => cases e
  | some d =>
    cases e
    refine ⟨G, d, A, rfl, fun v G1 H1 g1 ⟨a, kvs, ob, h1, h2, h3⟩ => ⟨a, ob, h1, .inl ⟨kvs, g1.sub _ _ h2, q _ G1 H1 g1 ⟨fun i H v H' => H' = H ∧ ∃ k x, kvs[i]? = some (k, x) ∧ v = kV k, ?_, ?_⟩⟩⟩⟩
    · have hl : (d.l.map (·.1)).length = kvs.length := by rw [List.length_map]; exact (Paired.length h3).symm
      rw [hl]
      exact (walk_keys (d := a) (o := ob) (kvs := kvs)).mono (fun H ⟨G2, l2, s2⟩ => s2 _ _ (l2 _ _ h2)) (fun i H x H' _ _ y => y)
    · rintro i H v H2 hi ⟨y1, k, x, y2, y3⟩ G2 l2 s2
      subst y1
      obtain ⟨q, hq, r⟩ := paired_get h3 y2
      refine ⟨q.1, G2, by rw [List.getElem?_map, hq]; rfl, .refl s2, ?_⟩
      show v = toV q.1
      rw [y3, ← KAt.same, ← r.1]
/-- d.get(k) -/
theorem xe_get1 (c : Cok X Γ N sc k) {κ : Type} [K1 κ] [At1 κ] [KAt κ] [DecidableEq κ] {md : Option (List (κ × α))} {mk : Option κ} {apos : Pos} (ha : XDK X Γ B ρ a md) (hb : XE X Γ B ρ b mk) (nn : ∀ Γ G v (x : α), rep Γ G v x → v ≠ .non) (m1 : M1 X a "get" apos b pos) : XE X Γ B ρ (.Call (.Attribute a "get" apos) [b] [] pos) (b2 md mk fun d x => some (look d x)) := imE (pe_dget1 c.hu ha hb m1) fun σ H Q ⟨G, z, A, e, q⟩ => by
  cases md with
  | none => cases e
  | some d =>
    cases mk with
    | none => cases e
    | some x =>
      cases e
      refine ⟨G, d, A, rfl, fun p kvs G1 H1 g1 hp r1 => ⟨p, rfl, .inl ⟨kvs, hp⟩, G1, x, A.grow g1, rfl, fun v2 G2 H2 g2 r2 => ?_⟩⟩
      have rd : Rd H2 p (.dK kvs) := by
        rcases hp with hp | ⟨ob, hp⟩
        · exact .inl (g2.leH _ _ hp)
        · exact .inr ⟨ob, g2.leH _ _ hp⟩
      refine ⟨valV kvs (key x), .inl ⟨kvs, key x, rd, by rw [KAt.same]; exact rep1 r2, rfl⟩, q _ G2 H2 (g1.trans g2) ?_⟩
      cases hl : look d x with
      | none => rw [(RpK.look (x := x) r1).2 hl]; rfl
      | some y =>
        obtain ⟨v', hv, rv⟩ := (RpK.look (x := x) r1).1 y hl
        rw [hv]
        exact ⟨nn _ _ _ _ rv, Rp.mono g2.leG rv⟩
end
end Sim

set_option Elab.async false
set_option autoImplicit false
set_option linter.all false
set_option maxRecDepth 100000
set_option maxHeartbeats 1000000
namespace Sim
open PySem L2
open Rp (rep)
open At1 (toV)
open K1 (key)
open KT (keys)
open Ow (own)
open RpA (repA stoA)

/-- a kind of value has one built-in type -/
class TyN (α : Type) [Rp α] (n : outParam String) : Prop where
  ty : ∀ {Γ : Gm} {G H : Hp} {v : V} {a : α} {K : PySem.W.Frag}, rep Γ G v a → Sub G H → TyOf K H v (.type n)
instance : TyN Int "int" := ⟨fun h _ => by rw [rep1 h]; exact .int _⟩
instance : TyN Bool "bool" := ⟨fun h _ => by rw [rep1 h]; exact .bl _⟩
instance : TyN Tt "str" := ⟨fun h _ => by rw [rep1 h]; exact .str _⟩
instance {α : Type} [Rp α] : TyN (List α) "list" := ⟨fun ⟨a, vs, h1, h2, h3⟩ s => by rw [h1]; exact .lst (s _ _ h2)⟩
instance {α β : Type} [Rp α] [Rp β] : TyN (α × β) "tuple" := ⟨fun ⟨a, x, y, h1, h2, h3⟩ s => by rw [h1]; exact .tup (s _ _ h2)⟩
instance {α β γ : Type} [Rp α] [Rp β] [Rp γ] : TyN (T3 α β γ) "tuple" := ⟨fun ⟨a, x, y, z, h1, h2, h3⟩ s => by rw [h1]; exact .tup (s _ _ h2)⟩
section
variable {X : Cx} {Γ : Gm} {B : Bs} {L β C : Type} [Rp β] {F : Kt L β C} {ρ ρ' : Sto} {N : List Str} {sc : Scope} {k : Nat} {fx : List Nat} {W : WX} {M : List Addr} {pos p p' p2 : Pos} {e a b o tg it elt kx : Expr} {st : Stmt} {sts : List Stmt} {es : List Expr} {S : Type} {sto : S → Sto}
variable {α γ : Type} [Rp α] [Rp γ]
/-- isinstance(x, T), T a built-in type -/
theorem xe_isi (c : Cok X Γ N sc k) {n T : String} [TyN α n] {x : Str} {r : Bool} {m : Option α} (he : XE X Γ B ρ e m) (hg : Glb sc "isinstance") (hm : Γ.mg "isinstance" = none) (hg2 : Glb sc x) (hm2 : Γ.mg x = none) (hv : bootBuiltins x = some (.type T)) (hr : kitB n T = some r) (hn : x ≠ "__name__" := by decide) (hdb : (x == ("__debug__" : Str)) = false := by decide)
    (s1 : starEach [e, .Name x p2] X.env = (false, eval e X.env) :: starEach [.Name x p2] X.env := by rfl) (s2 : starEach [.Name x p2] X.env = (false, eval (.Name x p2) X.env) :: starEach [] X.env := by rfl) (hpl : (backTo pos (starEach [.Name x p2] X.env)).any (·.1) = false := by rfl) :
    XE X Γ B ρ (.Call (.Name "isinstance" p) [e, .Name x p2] [] pos) (m.bind fun _ => some r) :=
  imE (pe_callB call_isi (c.gl hg) (by rw [c.hmg]; exact hm) PyProof.Rows.boot_isinstance (pa_cons he (pa_cons (pe_bltn (c.gl hg2) (by rw [c.hmg]; exact hm2) hv (show RelV (.ty T) (.type T) from rfl) hn hdb) pa_nil s2) s1) (he := s1) (hpl := hpl)) fun σ H Q ⟨G, z, A, e, q⟩ => by
  cases m with
  | none => cases e
  | some w =>
    cases e
    exact ⟨G, w, A, rfl, fun v G1 H1 g1 r1 => ⟨v, .ty T, .type n, .type T, r, rfl, .ty T, .base (TyN.ty r1 g1.sub), kit_ty hr, q _ G1 H1 g1 rfl⟩⟩
/-- len of a pair -/
theorem xe_lenP (c : Cok X Γ N sc k) {m : Option (α × γ)} (ha : XE X Γ B ρ a m) (hg : Glb sc "len") (hm : Γ.mg "len" = none) (s1 : starEach [a] X.env = (false, eval a X.env) :: starEach [] X.env := by rfl) (hpl : (backTo pos (starEach [] X.env)).any (·.1) = false := by rfl) : XE X Γ B ρ (.Call (.Name "len" p) [a] [] pos) (m.bind fun _ => some (2 : Int)) :=
  imE (pe_callB call_len_seq (c.gl hg) (by rw [c.hmg]; exact hm) PySem.boot_len (pa_cons ha pa_nil s1) (he := s1)) fun σ H Q ⟨G, z, A, e, q⟩ => by
  cases m with
  | none => cases e
  | some xs =>
    cases e
    exact ⟨G, xs, A, rfl, fun v G1 H1 g1 ⟨p, x, y, h1, h2, _⟩ => ⟨p, [x, y], by rw [h1], .inr (SqT.of (g1.sub.tup h2)), q _ G1 H1 g1 rfl⟩⟩
/-- xs.index(x), plain items -/
@[irreducible] def pindex {α : Type} [DecidableEq α] (xs : List α) (x : α) : Option Int := if x ∈ xs then some ((xs.findIdx fun y => decide (y = x) : Nat) : Int) else none
theorem xe_index {α : Type} [At1 α] [DecidableEq α] [AtE α] {mx : Option (List α)} {my : Option α} {apos : Pos} (ha : XR X Γ B ρ a mx) (hb : XE X Γ B ρ b my) (hbase : attributeBase a "index" X.env (eval a X.env) = eval a X.env := by rfl)
    (hfew : ((backTo pos (starEach [b] X.env)).all (fun x => !x.1) && (backToKw pos (keywordEach [] X.env)).all (fun x => x.1.isSome)
      && decide ([b].length + ([] : List Keyword).length + (if ([] : List Keyword).isEmpty then 0 else 1) < 30)) = true := by rfl)
    (hline : (apos.endLine == pos.line) = true := by rfl) (hs : starEach [b] X.env = (false, eval b X.env) :: starEach [] X.env := by rfl) :
    XE X Γ B ρ (.Call (.Attribute a "index" apos) [b] [] pos) (b2 mx my pindex) :=
  imE (pe_bm PySem.F.plainAttrs_list PySem.F.slot_list_index PySem.F.type_list_index mt_index ha (pa_cons hb pa_nil hs) hbase hfew hline hs (by rfl)) fun σ H Q ⟨G, z, A, e, q⟩ => by
  cases mx with
  | none => cases e
  | some xs =>
    cases my with
    | none => cases e
    | some x =>
      obtain ⟨hm, e⟩ := ite_some (by have qq : pindex xs x = some z := e; unfold pindex at qq; exact qq)
      subst e
      refine ⟨G, xs, A, rfl, fun p vs G1 H1 g1 hp r1 => ⟨.inl ⟨rfl, vs, SqL.of hp⟩, G1, x, A.grow g1, rfl, fun v G2 H2 g2 r2 => ?_⟩⟩
      have hv := r1.toV
      have hlt : (xs.findIdx fun y => decide (y = x)) < xs.length := List.findIdx_lt_length_of_exists ⟨x, hm, decide_eq_true rfl⟩
      have hx : xs[xs.findIdx fun y => decide (y = x)] = x := of_decide_eq_true (List.findIdx_getElem (xs := xs) (p := fun y => decide (y = x)) (w := hlt))
      refine ⟨p, vs, toV x, xs.findIdx fun y => decide (y = x), toV x, rfl, by rw [rep1 r2], SqL.of (g2.leH _ _ hp), At1.flat x, by rw [hv]; exact flat_map xs, ?_, ?_, fun j z hj hz => ?_, q _ G2 H2 (g1.trans g2) rfl⟩
      · rw [hv, List.getElem?_map, List.getElem?_eq_getElem hlt, hx]; rfl
      · rw [AtE.eqv]; exact decide_eq_true rfl
      · rw [hv, List.getElem?_map] at hz
        have hjl : j < xs.length := Nat.lt_trans hj hlt
        rw [List.getElem?_eq_getElem hjl] at hz
        cases hz
        show eqV (toV xs[j]) (toV x) = false
        rw [AtE.eqv]
        have := List.not_of_lt_findIdx hj
        simpa using this
end
end Sim

set_option Elab.async false
set_option autoImplicit false
set_option linter.all false
set_option maxRecDepth 100000
set_option maxHeartbeats 1000000
namespace Sim
open PySem L2
open Rp (rep)
open At1 (toV)
open K1 (key)
open KT (keys)
open Ow (own)
open RpA (repA stoA)

/-- a new dict -/
def cKN (Γ : Gm) (B : Bs) (ρ : Sto) {κ α : Type} [K1 κ] [Rp α] (m : Option (List (κ × α))) : TE := fun σ H Q => ∃ G xs, At Γ B ρ G H σ ∧ m = some xs ∧ ∀ p vs G1 H1, Grow G H G1 H1 → H1 p = none → RpK Γ G1 vs xs → Q (.ref p) (upd H1 p (.dK vs))
abbrev XKN (X : Cx) (Γ : Gm) (B : Bs) (ρ : Sto) (e : Expr) {κ α : Type} [K1 κ] [Rp α] (m : Option (List (κ × α))) : Prop := PE X e (cKN Γ B ρ m)
def dcM {α κ γ : Type} [DecidableEq κ] (t : α → Option Bool) (fk : α → Option κ) (fv : α → Option γ) : List (κ × γ) → List α → Option (List (κ × γ))
  | d, [] => some d
  | d, x :: r => (t x).bind fun b => if b = true then (fk x).bind fun y => (fv x).bind fun z => dcM t fk fv (put d y z) r else dcM t fk fv d r
@[irreducible] def dcB {α κ γ : Type} [DecidableEq κ] (t : α → Option Bool) (fk : α → Option κ) (fv : α → Option γ) (xs : List α) : Option (List (κ × γ)) := if xs.length ≤ BIG then dcM t fk fv [] xs else none
theorem put_len {κ γ : Type} [DecidableEq κ] (d : List (κ × γ)) (y : κ) (z : γ) : (put d y z).length ≤ d.length + 1 := by
  unfold put
  split <;> simp
/-- a dict comprehension over a walk -/
theorem dc_it {J : It} {n : Nat} {G : Hp → Prop} {Y : Nat → Hp → V → Hp → Prop} (w : Walk J n G Y) {g : TG} {tt : TT} {tk tv : TE} {vs : List Nat} {σ : St} {H1 : Hp} {D : Addr} {Qd : Hp → Prop} (Pv : Nat → Hp → Prop) (h0 : Pv 0 (upd H1 D (.dK []))) (hG : ∀ i H, i ≤ n → Pv i H → G H)
    (hs : ∀ i x H H', i < n → Pv i H → Y i H x H' → g x (wipe σ vs) H' fun σ2 H2 => wipe σ2 vs = wipe σ vs ∧ tt σ2 H2 fun b H3 =>
      if b = true then tk σ2 H3 fun y H4 => tv σ2 H4 fun z H5 => ∃ kvs k, y = kV k ∧ H5 D = some (.dK kvs) ∧ kvs.length < sizeLine ∧ Pv (i + 1) (upd H5 D (.dK (putK kvs k z))) else Pv (i + 1) H3) (hd : ∀ H, Pv n H → Qd H) :
    ∃ W : Nat → Nat → Hp → Prop, (∃ m, W 0 m (upd H1 D (.dK []))) ∧ ∀ i m H, W i m H →
      (J.stop i H ∧ Qd H) ∨ (J.go i H ∧ ∃ Nx : Hp → Prop, (∀ H', Nx H' → ∃ m', m' < m ∧ W (i + 1) m' H') ∧ ∀ x H', J.yld i H x H' → g x (wipe σ vs) H' fun σ2 H2 => wipe σ2 vs = wipe σ vs ∧ tt σ2 H2 fun b H3 =>
        if b = true then tk σ2 H3 fun y H4 => tv σ2 H4 fun z H5 => ∃ kvs k, y = kV k ∧ H5 D = some (.dK kvs) ∧ kvs.length < sizeLine ∧ Nx (upd H5 D (.dK (putK kvs k z))) else Nx H3) := by
  refine ⟨fun i m H => m = n - i ∧ i ≤ n ∧ Pv i H, ⟨n, rfl, Nat.zero_le _, h0⟩, fun i m H ⟨em, hi, p⟩ => ?_⟩
  by_cases hl : i < n
  · exact .inr ⟨w.goes i H hl (hG i H hi p), Pv (i + 1), fun H' p' => ⟨n - (i + 1), by omega, rfl, hl, p'⟩, fun x H' y => hs i x H H' hl p (w.yields i H x H' hl (hG i H hi p) y)⟩
  · obtain rfl : i = n := by omega
    exact .inl ⟨w.stops H (hG i H hi p), hd H p⟩
section
variable {X : Cx} {Γ : Gm} {B : Bs} {L β C : Type} [Rp β] {F : Kt L β C} {ρ ρ' : Sto} {N : List Str} {sc : Scope} {k : Nat} {fx : List Nat} {W : WX} {M : List Addr} {pos p p' p2 : Pos} {e a b o tg it elt kx vx : Expr} {st : Stmt} {sts : List Stmt} {es : List Expr} {S : Type} {sto : S → Sto}
variable {α γ κ : Type} [Rp α] [Rp γ] [K1 κ] [At1 κ] [KAt κ] [DecidableEq κ]
/-- a step of growth beside the dict in the making, then an item -/
theorem Grow.itemK {G0 H0 G1 H1 G2 H2 : Hp} {D : Addr} {o o' : HO} (g : Grow G0 H0 G1 H1) (h0 : H0 D = none) (hG : G1 D = none) (hD : H1 D = some o) (g2 : Grow G1 H1 G2 H2) (no : ∀ ws, o ≠ .tup ws := by intro ws e; cases e) :
    Grow G0 H0 G2 (upd H2 D o') ∧ G2 D = none ∧ H2 D = some o := by
  have hG2 : G2 D = none := (g2.thin D (some_ne hD) hG).none fun ws e => by rw [hD] at e; exact no ws (Option.some.inj e)
  have g3 := g.trans g2
  refine ⟨⟨g3.leG, fun a o e => ?_, fun a o e => ?_, g3.thin⟩, hG2, g2.leH _ _ hD⟩
  · have z : a ≠ D := fun z => by rw [z, h0] at e; cases e
    rw [upd_ne z]; exact g3.leH a o e
  · have z : a ≠ D := fun z => by rw [z, hG2] at e; cases e
    rw [upd_ne z]; exact g3.sub a o e
theorem dc_sim {i : Nat} {mxs : Option (List α)} {t : α → Option Bool} {fk : α → Option κ} {fv : α → Option γ} (hf : i ∉ B.fx) (hρ : i < ρ.length) {σ : St} {H : Hp} {Q : VK} (h : cKN Γ B ρ (mxs.bind (dcB t fk fv)) σ H Q) :
    tDc (cI Γ B ρ mxs) (gName i) (fun σ H Q => ∃ a, cT Γ B (ρ.set i (vl a)) (t a) σ H Q) (fun σ H Q => ∃ a, cE Γ B (ρ.set i (vl a)) (fk a) σ H Q) (fun σ H Q => ∃ a, cE Γ B (ρ.set i (vl a)) (fv a) σ H Q) [i] σ H Q := by
  obtain ⟨G, zs, A, e, q⟩ := h
  cases mxs with
  | none => cases e
  | some xs =>
    obtain ⟨hl, e⟩ : xs.length ≤ BIG ∧ dcM t fk fv [] xs = some zs := by
      have e : dcB t fk fv xs = some zs := e
      unfold dcB at e
      by_cases hc : xs.length ≤ BIG
      · rw [if_pos hc] at e; exact ⟨hc, e⟩
      · rw [if_neg hc] at e; cases e
    refine ⟨G, xs, A, rfl, fun J G' H' g ⟨Y, hw, hy⟩ D hD => ?_⟩
    have hGD : G' D = none := g.sub.none hD
    refine dc_it (g := gName i) (tt := fun σ H Q => ∃ a, cT Γ B (ρ.set i (vl a)) (t a) σ H Q) (tk := fun σ H Q => ∃ a, cE Γ B (ρ.set i (vl a)) (fk a) σ H Q) (tv := fun σ H Q => ∃ a, cE Γ B (ρ.set i (vl a)) (fv a) σ H Q) (vs := [i]) (σ := σ) (Qd := fun H2 => Q (.ref D) H2) hw (fun j H2 => ∃ G1 vs ys, Grow G' H' G1 H2 ∧ G1 D = none ∧ H2 D = some (.dK vs) ∧ RpK Γ G1 vs ys ∧ ys.length ≤ j ∧ dcM t fk fv ys (xs.drop j) = some zs)
      ⟨G', [], [], Grow.newO g.sub hD _, hGD, upd_same, .nil, Nat.le_refl _, e⟩ (fun j H2 _ ⟨G1, vs, ys, g1, _⟩ => ⟨G1, g1.leG, g1.sub⟩) ?_ ?_
    · rintro j v H2 H3 hj ⟨G1, vs, ys, g1, hG1, hD1, r1, hl1, e1⟩ y
      obtain ⟨x0, G2, hx0, g2, rv⟩ := hy j H2 v H3 hj y G1 g1.leG g1.sub
      have ed : xs.drop j = x0 :: xs.drop (j + 1) := by
        obtain ⟨h1, h2⟩ := List.getElem?_eq_some_iff.mp hx0
        rw [List.drop_eq_getElem_cons h1, h2]
      rw [ed] at e1
      unfold dcM at e1
      have A2 := ((A.grow g).grow g1).grow g2
      have A3 : At Γ B (ρ.set i (vl x0)) G2 H3 ((σ.set i none).set i (some v)) := by
        have := (A2.wiped i hf).setV (i := i) (by simpa using hρ) rv hf
        simpa using this
      show wipe ((wipe σ [i]).set i (some v)) [i] = wipe σ [i] ∧ _
      refine ⟨wipe_set1, ?_⟩
      cases hb : t x0 with
      | none => rw [hb] at e1; cases e1
      | some b =>
        rw [hb] at e1
        refine ⟨x0, G2, b, A3, hb, fun G4 H4 g4 => ?_⟩
        cases b with
        | false =>
          have e1 : dcM t fk fv ys (xs.drop (j + 1)) = some zs := e1
          obtain ⟨z1, z2, z3⟩ := Grow.itemK (o' := .dK vs) g1 hD hG1 hD1 (g2.trans g4)
          exact ⟨G4, vs, ys, ⟨z1.leG, ((g1.trans g2).trans g4).leH, ((g1.trans g2).trans g4).sub, z1.thin⟩, z2, z3, r1.mono (g2.trans g4).leG, by omega, e1⟩
        | true =>
          have e1 : (fk x0).bind (fun y => (fv x0).bind fun z => dcM t fk fv (put ys y z) (xs.drop (j + 1))) = some zs := e1
          cases hfk : fk x0 with
          | none => rw [hfk] at e1; cases e1
          | some y =>
            cases hfv : fv x0 with
            | none => rw [hfk, hfv] at e1; cases e1
            | some z =>
              rw [hfk, hfv] at e1
              have e1 : dcM t fk fv (put ys y z) (xs.drop (j + 1)) = some zs := e1
              refine ⟨x0, G4, y, A3.grow g4, hfk, fun wk G5 H5 g5 r5 => ⟨x0, G5, z, A3.grow (g4.trans g5), hfv, fun wv G6 H6 g6 r6 => ?_⟩⟩
              have gg := ((g2.trans g4).trans g5).trans g6
              obtain ⟨z1, z2, z3⟩ := Grow.itemK (o' := .dK (putK vs (key y) wv)) g1 hD hG1 hD1 gg
              have hvl : vs.length = ys.length := Paired.length r1
              have hb1 : xs.length ≤ 1000000 := hl
              refine ⟨vs, key y, by rw [KAt.same]; exact rep1 r5, z3, big_lt (show vs.length ≤ 1000000 by omega), G6, _, put ys y z, z1, z2, upd_same, (r1.mono gg.leG).put r6, ?_, e1⟩
              have := put_len ys y z
              omega
    · rintro H2 ⟨G1, vs, ys, g1, hG1, hD1, r1, _, e1⟩
      rw [List.drop_length] at e1
      have e1 : some ys = some zs := e1
      have e1 := Option.some.inj e1
      subst e1
      have := q D vs G1 (hideD H2 D) (g.trans (g1.hide hD hG1)) (if_pos rfl) r1
      rw [upd_hide hD1] at this
      exact this
/-- {kx: vx for x in it if t} -/
theorem xkn_dc (d : Cok X Γ N sc k) {x : Str} {px : Pos} {i : Nat} {ifs : List Expr} {scope sc' : Scope} {mxs : Option (List α)} {t : α → Option Bool} {fk : α → Option κ} {fv : α → Option γ} (hi : XI X Γ B ρ (.Name x px) it mxs) (hsc : relS scope sc = sc') (hB : blkC N sc scope [(x, i)] = true) (hx : N[i]? = some x) (hxl : scope.names.lookup x = some .local) (hxl' : sc'.names.lookup x = some .local) (hfx : B.fx = fx)
    (ht : ∀ X', Cok X' Γ N sc' k → ∀ a : α, PTs X' ifs (cT Γ B (ρ.set i (vl a)) (t a)))
    (hk : ∀ X', Cok X' Γ N sc' k → ∀ a : α, XE X' Γ B (ρ.set i (vl a)) kx (fk a))
    (he : ∀ X', Cok X' Γ N sc' k → ∀ a : α, XE X' Γ B (ρ.set i (vl a)) vx (fv a)) (hs : ∀ x, foldedSetIterable it X.env x = pure x := by intro _; rfl) (hρ : Nat.ble (i + 1) ρ.length = true := by rfl) (hfc : fx.contains i = false := by rfl) :
    XKN X Γ B ρ (.DictComp kx vx [⟨.Name x px, it, ifs, 0⟩] scope pos) (mxs.bind (dcB t fk fv)) := by
  have cb : ∀ (s : Shared) (H : Hp) (C : Addr) (cl : List (Str × Addr)) (fp : List Addr), Cok (X.blk s H scope (compEnvC scope cl C X.env) fp) Γ N sc' k := fun s H C cl fp => d.blk hsc
  exact imE (pe_dc (own := [(x, i)]) (g := gName i) (tt := fun σ H Q => ∃ a, cT Γ B (ρ.set i (vl a)) (t a) σ H Q) (tk := fun σ H Q => ∃ a, cE Γ B (ρ.set i (vl a)) (fk a) σ H Q) (tv := fun σ H Q => ∃ a, cE Γ B (ρ.set i (vl a)) (fv a) σ H Q) d.calm (by rw [d.hN]; exact d.nd) hi (by rw [d.hN, d.hsc]; exact blkOk_by hB)
    (fun s H C cl fp => pg_name (i := i) (by rw [(cb s H C cl fp).hN]; exact d.nd) (by rw [(cb s H C cl fp).hN]; exact hx) (by rw [(cb s H C cl fp).hsc]; exact .inl hxl') (.inr (by rw [(cb s H C cl fp).hsc]; exact hxl')))
    (fun s H C cl fp => ⟨fun pins s' σ H' Q I ⟨a, q⟩ => (ht _ (cb s H C cl fp) a).run pins s' σ H' Q I q⟩) (fun s H C cl fp => allE fun a => hk _ (cb s H C cl fp) a) (fun s H C cl fp => allE fun a => he _ (cb s H C cl fp) a) hs) fun σ H Q h => dc_sim (lc_pre hρ hfc hfx).1 (lc_pre hρ hfc hfx).2 h
end
end Sim

set_option Elab.async false
set_option autoImplicit false
set_option linter.all false
set_option maxRecDepth 100000
set_option maxHeartbeats 1000000
namespace Sim
open PySem PySem.Spec PyProof.Rows L2
open Rp (rep)
open At1 (toV)
open K1 (key)
open KT (keys)
open Ow (own)
open RpA (repA stoA)
/-- name = {..} on one line, the name a plain local -/
theorem ps_setDc {X : Cx} {i : Nat} {y : Str} {py : Pos} {kx vx tg iter : Expr} {ifs : List Expr} {scope : Scope} {own : List (Str × Nat)} {pos spos : Pos} {wi : TI} {g : TG} {tt : TT} {tk tv : TE} (hc : X.calm = true) (hN : X.N.Nodup) (hy : X.N[i]? = some y) (hyl : X.env.scope.names.lookup y = some .local)
    (hsw : swapsWith (.DictComp kx vx [⟨tg, iter, ifs, 0⟩] scope pos) (some (.Name y py)) spos.line X.env = pure true) (hi : PI X tg iter wi) (ok : BlkOk X.N X.env.scope scope own)
    (hg : ∀ (s : Shared) (H : Hp) (C : Addr) (cl : List (Str × Addr)) (fp : List Addr), PG (X.blk s H scope (compEnvC scope cl C X.env) fp) tg g) (ht : ∀ (s : Shared) (H : Hp) (C : Addr) (cl : List (Str × Addr)) (fp : List Addr), PTs (X.blk s H scope (compEnvC scope cl C X.env) fp) ifs tt)
    (hk : ∀ (s : Shared) (H : Hp) (C : Addr) (cl : List (Str × Addr)) (fp : List Addr), PE (X.blk s H scope (compEnvC scope cl C X.env) fp) kx tk)
    (he : ∀ (s : Shared) (H : Hp) (C : Addr) (cl : List (Str × Addr)) (fp : List Addr), PE (X.blk s H scope (compEnvC scope cl C X.env) fp) vx tv) (hs : ∀ x, foldedSetIterable iter X.env x = pure x := by intro _; rfl) :
    PS X (.Assign [.Name y py] (.DictComp kx vx [⟨tg, iter, ifs, 0⟩] scope pos) spos) (tAsg (tDc wi g tt tk tv (own.map (·.2))) (gName i)) := by
  refine ⟨fun pins s σ H D I h => ?_⟩
  rw [exec_Assign_Name_used _ _ _ _ hsw]
  refine wpAny_bind (wpAny_standAt (wpAny_bind ?_))
  show wpAny _ X.A (do
    let _ ← comprehension (.DictComp kx vx [⟨tg, iter, ifs, 0⟩] scope pos) scope X.env (firstIterPos [⟨tg, iter, ifs, 0⟩] pos) newDict false (eval iter X.env) (some (assign (.Name y py) X.env))) _ _ s
  have h2 : tDc wi g tt tk tv (own.map (·.2)) σ H (fun x H1 => gName i x σ H1 D.nx) := h
  refine wpAny_bind (thn (dc_core (Qf := fun _ s2 => SP X pins D .next s2) hc hN I hi ok hg ht hk he hs h2 fun L C s2 m H2 I2 q hn f => ?_) fun _ s2 hq => wpAny_pure (wpAny_pure hq))
  show wpAny _ _ (assign (.Name y py) X.env (.ref L)) _ _ _
  obtain ⟨f0, f1, f2, f3, f4, f5⟩ := f
  refine wpAny_assign_Name (store_ok2 (v := V.ref L) I2 hN hy (.inl hyl) rfl (fun s4 I4 ⟨a, sb, ha⟩ => ?_) (.inr hyl))
  have hne : C ≠ a := by
    rcases ha with z | z
    · rw [z]; exact f1
    · exact fun e => f4 y a z e.symm
  exact ⟨m, hn.sameBut sb hne, fun h5 sb5 => ⟨_, H2, I4.turned (t' := s4.toks) (fun b o hb e => (sb5.2 b hb).trans e) f0 f1 f3 f4 f5, q⟩⟩
section
variable {X : Cx} {Γ : Gm} {B : Bs} {L β C : Type} [Rp β] {F : Kt L β C} {ρ ρ' : Sto} {N : List Str} {sc : Scope} {k : Nat} {fx : List Nat} {W : WX} {M : List Addr} {pos p p' p2 : Pos} {e a b o tg it elt kx vx : Expr} {st : Stmt} {sts : List Stmt} {es : List Expr} {S : Type} {sto : S → Sto}
variable {α γ κ : Type} [Rp α] [Rp γ] [K1 κ] [At1 κ] [KAt κ] [DecidableEq κ]
theorem sw_dc (c : Cok X Γ N sc k) {gens : List Comprehension} {scope : Scope} {y : Str} {py pos : Pos} {line : Nat} : swapsWith (.DictComp kx vx gens scope pos) (some (.Name y py)) line X.env =
    pure ((if sc.kind.isAnnotationScope then ScopeKind.function else sc.kind) == .function && sc.names.lookup y == some .local && py.line == pos.line && !(scope.names.any fun (n, k) => n == y && (k == .local || k == .cell))) := by
  rw [← c.hsc]; rfl
theorem xp_setDcN (d : Dok X Γ B N sc k fx W M) {x y : Str} {px py : Pos} {i j : Nat} {ifs : List Expr} {scope sc' : Scope} {p : Pos} {mxs : Option (List α)} {t : α → Option Bool} {fk : α → Option κ} {fv : α → Option γ} (hj : N[j]? = some y) (hyl : sc.names.lookup y = some .local) (hsw : ((if sc.kind.isAnnotationScope then ScopeKind.function else sc.kind) == .function && sc.names.lookup y == some .local && py.line == p.line && !(scope.names.any fun (n, k) => n == y && (k == .local || k == .cell))) = true) (hi : XI X Γ B ρ (.Name x px) it mxs) (hsc : relS scope sc = sc') (hB : blkC N sc scope [(x, i)] = true) (hx : N[i]? = some x) (hxl : scope.names.lookup x = some .local) (hxl' : sc'.names.lookup x = some .local)
    (ht : ∀ X', Cok X' Γ N sc' k → ∀ a : α, PTs X' ifs (cT Γ B (ρ.set i (vl a)) (t a)))
    (hk : ∀ X', Cok X' Γ N sc' k → ∀ a : α, XE X' Γ B (ρ.set i (vl a)) kx (fk a))
    (he : ∀ X', Cok X' Γ N sc' k → ∀ a : α, XE X' Γ B (ρ.set i (vl a)) vx (fv a)) (hs : ∀ x, foldedSetIterable it X.env x = pure x := by intro _; rfl) (hρ : Nat.ble (i + 1) ρ.length = true := by rfl) (hfc : fx.contains i = false := by rfl) (hρ2 : Nat.ble (j + 1) ρ.length = true := by rfl) (hf2 : fx.contains j = false := by rfl) :
    XP1 X Γ B ρ (.Assign [.Name y py] (.DictComp kx vx [⟨.Name x px, it, ifs, 0⟩] scope p) pos) (mxs.bind (dcB t fk fv)) (fun z => ρ.set j (ow (OK.mk z))) := by
  have cb : ∀ (s : Shared) (H : Hp) (C : Addr) (cl : List (Str × Addr)) (fp : List Addr), Cok (X.blk s H scope (compEnvC scope cl C X.env) fp) Γ N sc' k := fun s H C cl fp => d.toCok.blk hsc
  exact imS (ps_setDc (own := [(x, i)]) (g := gName i) (tt := fun σ H Q => ∃ a, cT Γ B (ρ.set i (vl a)) (t a) σ H Q) (tk := fun σ H Q => ∃ a, cE Γ B (ρ.set i (vl a)) (fk a) σ H Q) (tv := fun σ H Q => ∃ a, cE Γ B (ρ.set i (vl a)) (fv a) σ H Q) d.calm (by rw [d.hN]; exact d.nd) (by rw [d.hN]; exact hj) (by rw [d.hsc]; exact hyl) ((sw_dc d.toCok).trans (by rw [hsw])) hi (by rw [d.hN, d.hsc]; exact blkOk_by hB)
    (fun s H C cl fp => pg_name (i := i) (by rw [(cb s H C cl fp).hN]; exact d.nd) (by rw [(cb s H C cl fp).hN]; exact hx) (by rw [(cb s H C cl fp).hsc]; exact .inl hxl') (.inr (by rw [(cb s H C cl fp).hsc]; exact hxl')))
    (fun s H C cl fp => ⟨fun pins s' σ H' Q I ⟨a, q⟩ => (ht _ (cb s H C cl fp) a).run pins s' σ H' Q I q⟩) (fun s H C cl fp => allE fun a => hk _ (cb s H C cl fp) a) (fun s H C cl fp => allE fun a => he _ (cb s H C cl fp) a) hs) fun D σ H ⟨G, s, A, e, q⟩ => dc_sim (lc_pre hρ hfc d.hfx).1 (lc_pre hρ hfc d.hfx).2 (Q := fun v H1 => gName j v σ H1 D.nx) ⟨G, s, A, e, fun p vs G1 H1 g hp r => q G1 _ _ ((A.grow g).setN (Nat.le_of_ble_eq_true hρ2) hp ⟨p, vs, rfl, rfl, upd_same, r⟩ (lc_pre hρ2 hf2 d.hfx).1)⟩
theorem xp_setDcT (d : Dok X Γ B N sc k fx W M) {ρ1 : Sto} {x y : Str} {px py : Pos} {i j : Nat} {ifs : List Expr} {scope sc' : Scope} {p : Pos} {mxs : Option (List α)} {t : α → Option Bool} {fk : α → Option κ} {fv : α → Option γ} (hj : N[j]? = some y) (hyl : sc.names.lookup y = some .local) (hsw : ((if sc.kind.isAnnotationScope then ScopeKind.function else sc.kind) == .function && sc.names.lookup y == some .local && py.line == p.line && !(scope.names.any fun (n, k) => n == y && (k == .local || k == .cell))) = true) (hth : ∀ σ H Q, cKN Γ B ρ (mxs.bind (dcB t fk fv)) σ H Q → cKN Γ B ρ1 (mxs.bind (dcB t fk fv)) σ H Q) (hi : XI X Γ B ρ1 (.Name x px) it mxs) (hsc : relS scope sc = sc') (hB : blkC N sc scope [(x, i)] = true) (hx : N[i]? = some x) (hxl : scope.names.lookup x = some .local) (hxl' : sc'.names.lookup x = some .local)
    (ht : ∀ X', Cok X' Γ N sc' k → ∀ a : α, PTs X' ifs (cT Γ B (ρ1.set i (vl a)) (t a)))
    (hk : ∀ X', Cok X' Γ N sc' k → ∀ a : α, XE X' Γ B (ρ1.set i (vl a)) kx (fk a))
    (he : ∀ X', Cok X' Γ N sc' k → ∀ a : α, XE X' Γ B (ρ1.set i (vl a)) vx (fv a)) (hs : ∀ x, foldedSetIterable it X.env x = pure x := by intro _; rfl) (hρ : Nat.ble (i + 1) ρ1.length = true := by rfl) (hfc : fx.contains i = false := by rfl) (hρ2 : Nat.ble (j + 1) ρ.length = true := by rfl) (hf2 : fx.contains j = false := by rfl) :
    XP1 X Γ B ρ (.Assign [.Name y py] (.DictComp kx vx [⟨.Name x px, it, ifs, 0⟩] scope p) pos) (mxs.bind (dcB t fk fv)) (fun z => ρ.set j (ow (OK.mk z))) := by
  have cb : ∀ (s : Shared) (H : Hp) (C : Addr) (cl : List (Str × Addr)) (fp : List Addr), Cok (X.blk s H scope (compEnvC scope cl C X.env) fp) Γ N sc' k := fun s H C cl fp => d.toCok.blk hsc
  exact imS (ps_setDc (own := [(x, i)]) (g := gName i) (tt := fun σ H Q => ∃ a, cT Γ B (ρ1.set i (vl a)) (t a) σ H Q) (tk := fun σ H Q => ∃ a, cE Γ B (ρ1.set i (vl a)) (fk a) σ H Q) (tv := fun σ H Q => ∃ a, cE Γ B (ρ1.set i (vl a)) (fv a) σ H Q) d.calm (by rw [d.hN]; exact d.nd) (by rw [d.hN]; exact hj) (by rw [d.hsc]; exact hyl) ((sw_dc d.toCok).trans (by rw [hsw])) hi (by rw [d.hN, d.hsc]; exact blkOk_by hB)
    (fun s H C cl fp => pg_name (i := i) (by rw [(cb s H C cl fp).hN]; exact d.nd) (by rw [(cb s H C cl fp).hN]; exact hx) (by rw [(cb s H C cl fp).hsc]; exact .inl hxl') (.inr (by rw [(cb s H C cl fp).hsc]; exact hxl')))
    (fun s H C cl fp => ⟨fun pins s' σ H' Q I ⟨a, q⟩ => (ht _ (cb s H C cl fp) a).run pins s' σ H' Q I q⟩) (fun s H C cl fp => allE fun a => hk _ (cb s H C cl fp) a) (fun s H C cl fp => allE fun a => he _ (cb s H C cl fp) a) hs) fun D σ H ⟨G, s, A, e, q⟩ => dc_sim (lc_pre hρ hfc d.hfx).1 (lc_pre hρ hfc d.hfx).2 (Q := fun v H1 => gName j v σ H1 D.nx) (hth _ _ _ ⟨G, s, A, e, fun p vs G1 H1 g hp r => q G1 _ _ ((A.grow g).setN (Nat.le_of_ble_eq_true hρ2) hp ⟨p, vs, rfl, rfl, upd_same, r⟩ (lc_pre hρ2 hf2 d.hfx).1)⟩)
theorem xp_setDc (d : Dok X Γ B N sc k fx W M) {x y : Str} {px py : Pos} {i j : Nat} {ifs : List Expr} {scope sc' : Scope} {p : Pos} {mxs : Option (List α)} {t : α → Option Bool} {fk : α → Option κ} {fv : α → Option γ} (hj : N[j]? = some y) (hyl : sc.names.lookup y = some .local) (hsw : ((if sc.kind.isAnnotationScope then ScopeKind.function else sc.kind) == .function && sc.names.lookup y == some .local && py.line == p.line && !(scope.names.any fun (n, k) => n == y && (k == .local || k == .cell))) = true) (hi : XI X Γ B ρ (.Name x px) it mxs) (hsc : relS scope sc = sc') (hB : blkC N sc scope [(x, i)] = true) (hx : N[i]? = some x) (hxl : scope.names.lookup x = some .local) (hxl' : sc'.names.lookup x = some .local)
    (ht : ∀ X', Cok X' Γ N sc' k → ∀ a : α, PTs X' ifs (cT Γ B (ρ.set i (vl a)) (t a)))
    (hk : ∀ X', Cok X' Γ N sc' k → ∀ a : α, XE X' Γ B (ρ.set i (vl a)) kx (fk a))
    (he : ∀ X', Cok X' Γ N sc' k → ∀ a : α, XE X' Γ B (ρ.set i (vl a)) vx (fv a)) (hs : ∀ x, foldedSetIterable it X.env x = pure x := by intro _; rfl) (hρ : Nat.ble (i + 1) ρ.length = true := by rfl) (hfc : fx.contains i = false := by rfl) (hρ2 : Nat.ble (j + 1) ρ.length = true := by rfl) (hf2 : fx.contains j = false := by rfl) :
    XP1 X Γ B ρ (.Assign [.Name y py] (.DictComp kx vx [⟨.Name x px, it, ifs, 0⟩] scope p) pos) (mxs.bind (dcB t fk fv)) (fun z => ρ.set j (vl (DK.mk z))) := by
  have h := xp_setDcN (α := α) (γ := γ) d (kx := kx) (vx := vx) (pos := pos) hj hyl hsw hi hsc hB hx hxl hxl' ht hk he hs hρ hfc hρ2 hf2
  refine imS (lkS' h) fun D σ H ⟨G, s, A, e, q⟩ => ⟨G, s, A, e, fun G' H' σ' A' => ?_⟩
  have hx : (ρ.set j (ow (OK.mk s)))[j]? = some (ow (OK.mk s)) := by rw [List.getElem?_set_self (Nat.le_of_ble_eq_true hρ2)]
  refine (At.freeze A' hx rfl).mono fun H2 ⟨G2, l2, A2⟩ => ?_
  rw [List.set_set] at A2
  exact q G2 H2 σ' A2
/-- a new dict into a name (a cell) -/
theorem xp_setKN (d : Dok X Γ B N sc k fx W M) {m : Option (List (κ × γ))} {x : Str} (i : Nat) (he : XKN X Γ B ρ e m) (hi : N[i]? = some x) (hx : Loc sc x) (hs : swapsWith e (some (.Name x p')) pos.line X.env = pure false) (hρ : Nat.ble (i + 1) ρ.length = true := by rfl) (hf : fx.contains i = false := by rfl) :
    XP1 X Γ B ρ (.Assign [.Name x p'] e pos) m (fun z => ρ.set i (ow (OK.mk z))) := imS (ps_set (i := i) (by rw [d.hN]; exact d.nd) (by rw [d.hN]; exact hi) (by rw [d.hsc]; exact hx) he hs (.inl (d.hfn x))) fun D σ H ⟨G, s, A, e, q⟩ =>
  ⟨G, s, A, e, fun p vs G1 H1 g hp r => q G1 _ _ ((A.grow g).setN (Nat.le_of_ble_eq_true hρ) hp ⟨p, vs, rfl, rfl, upd_same, r⟩ fun hm => by
    rw [d.hfx] at hm
    rw [List.contains_iff_mem.mpr hm] at hf
    cases hf)⟩
end
end Sim

set_option Elab.async false
set_option autoImplicit false
set_option linter.all false
set_option maxRecDepth 100000
set_option maxHeartbeats 1000000
namespace Sim
open PySem L2
open Rp (rep)
open At1 (toV)
open K1 (key)
open KT (keys)
open Ow (own)
open RpA (repA stoA)

/-- a dict from ints to lists of ints, the lists its own -/
structure ON where
  l : List (Int × List Int)
/-- the rows: key, place, content -/
inductive Near (H : Hp) : List (Key × V) → List Addr → List (Int × List Int) → Prop
  | nil : Near H [] [] []
  | cons {n : Int} {xs : List Int} {p : Addr} {kvs : List (Key × V)} {as : List Addr} {l : List (Int × List Int)} : H p = some (.lst (xs.map V.int)) → Near H kvs as l → Near H ((Sum.inl n, .ref p) :: kvs) (p :: as) ((n, xs) :: l)
theorem Near.stay {H H' : Hp} {kvs : List (Key × V)} {as : List Addr} {l : List (Int × List Int)} (h : Near H kvs as l) (k : ∀ x ∈ as, ∀ o, H x = some o → H' x = some o) : Near H' kvs as l := by
  induction h with
  | nil => exact .nil
  | cons e t ih => exact .cons (k _ List.mem_cons_self _ e) (ih fun x hx => k x (List.mem_cons_of_mem _ hx))
theorem Near.there {H : Hp} {kvs : List (Key × V)} {as : List Addr} {l : List (Int × List Int)} (h : Near H kvs as l) : ∀ x ∈ as, ∃ xs : List V, H x = some (.lst xs) := by
  induction h with
  | nil => exact fun x hx => by simp at hx
  | cons e t ih =>
    intro x hx
    rcases List.mem_cons.mp hx with z | z
    · rw [z]; exact ⟨_, e⟩
    · exact ih x z
theorem Near.len {H : Hp} {kvs : List (Key × V)} {as : List Addr} {l : List (Int × List Int)} (h : Near H kvs as l) : kvs.length = l.length := by
  induction h with
  | nil => rfl
  | cons e t ih => simp [ih]
theorem Near.rp {Γ : Gm} {G H : Hp} {kvs : List (Key × V)} {as : List Addr} {l : List (Int × List Int)} (h : Near H kvs as l) (k : ∀ x ∈ as, ∀ o, H x = some o → G x = some o) : RpK Γ G kvs l := by
  induction h with
  | nil => exact .nil
  | cons e t ih => exact .cons ⟨rfl, _, _, rfl, k _ List.mem_cons_self _ e, RpL.ofV (α := Int) _⟩ (ih fun x hx => k x (List.mem_cons_of_mem _ hx))
theorem Near.snoc {H : Hp} {kvs : List (Key × V)} {as : List Addr} {l : List (Int × List Int)} {n : Int} {xs : List Int} {p : Addr} (h : Near H kvs as l) (e : H p = some (.lst (xs.map V.int))) : Near H (kvs ++ [(Sum.inl n, .ref p)]) (as ++ [p]) (l ++ [(n, xs)]) := by
  induction h with
  | nil => exact .cons e .nil
  | cons e' t ih => exact .cons e' ih
instance instOwON : Ow ON where
  own := fun Γ G H v fp d => ∃ a kvs as, v = .ref a ∧ fp = a :: as ∧ H a = some (.dK kvs) ∧ Near H kvs as d.l ∧ as.Nodup ∧ (d.l.map fun q : Int × List Int => q.1).Nodup
  stay := fun ⟨a, kvs, as, h1, h2, h3, h4, h5, h6⟩ e k => ⟨a, kvs, as, h1, h2, k a (by rw [h2]; exact List.mem_cons_self) _ h3, h4.stay fun x hx => k x (by rw [h2]; exact List.mem_cons_of_mem _ hx), h5, h6⟩
  there := fun ⟨a, kvs, as, h1, h2, h3, h4, h5, h6⟩ x hx => by
    rw [h2] at hx
    rcases List.mem_cons.mp hx with z | z
    · rw [z]; exact some_ne h3
    · obtain ⟨xs, e⟩ := h4.there x z
      exact some_ne e
  nt := fun ⟨a, kvs, as, h1, h2, h3, h4, h5, h6⟩ x hx ws e => by
    rw [h2] at hx
    rcases List.mem_cons.mp hx with z | z
    · rw [z, h3] at e; cases e
    · obtain ⟨xs, e2⟩ := h4.there x z
      rw [e2] at e; cases e
  F := DK Int (List Int)
  iF := instRpDK
  toF := fun x => ⟨x.l⟩
  canF := true
  fz := fun _ Γ G H v fp d ob ⟨a, kvs, as, h1, h2, h3, h4, h5, h6⟩ le => by
    have fr : ∀ x ∈ fp, frzd G (lkd H fp ob) fp x = lkd H fp ob x := fun x hx => if_pos hx
    refine ⟨a, kvs, ob a, h1, ?_, h4.rp fun x hx o e => ?_⟩
    · rw [fr a (by rw [h2]; exact List.mem_cons_self)]
      exact lkd_d (by rw [h2]; exact List.mem_cons_self) h3 trivial
    · have hm : x ∈ fp := by rw [h2]; exact List.mem_cons_of_mem _ hx
      rw [fr x hm]
      obtain ⟨xs, e2⟩ := h4.there x hx
      rw [e2] at e
      cases e
      exact lkd_nd e2 fun q => q

def nearApp (l : List (Int × List Int)) (k v : Int) : Option (List (Int × List Int)) := (look l k).bind fun row => (push row v).bind fun row' => some (put l k row')
theorem put_same {l : List (Int × List Int)} {k : Int} {y : List Int} (h : (look l k).isSome) : put l k y = l.map fun kv => if kv.1 = k then (kv.1, y) else kv := by
  unfold put
  rw [if_pos]
  unfold look at h
  rw [Option.isSome_map, List.find?_isSome] at h
  rw [List.any_eq_true]
  exact h
theorem put_keys {l : List (Int × List Int)} {k : Int} {y : List Int} (h : (look l k).isSome) : (put l k y).map (fun q : Int × List Int => q.1) = l.map (fun q : Int × List Int => q.1) := by
  rw [put_same h, List.map_map]
  apply List.map_congr_left
  intro q _
  show (if q.1 = k then (q.1, y) else q).1 = q.1
  split <;> rfl
/-- the row of k -/
theorem Near.get {H : Hp} {kvs : List (Key × V)} {as : List Addr} {l : List (Int × List Int)} (h : Near H kvs as l) {k : Int} {row : List Int} (e : look l k = some row) (nd : as.Nodup) (nk : (l.map fun q : Int × List Int => q.1).Nodup) : ∃ p, p ∈ as ∧ valV kvs (Sum.inl k) = some (.ref p) ∧ H p = some (.lst (row.map V.int)) ∧
    ∀ (H' : Hp) (ys : List Int), H' p = some (.lst (ys.map V.int)) → (∀ x ∈ as, x ≠ p → ∀ o, H x = some o → H' x = some o) → Near H' kvs as (l.map fun kv => if kv.1 = k then (kv.1, ys) else kv) := by
  induction h with
  | nil => cases e
  | @cons n xs p kvs as l e0 t ih =>
    have nd1 := List.nodup_cons.mp nd
    have nk1 : n ∉ l.map (fun q : Int × List Int => q.1) ∧ (l.map fun q : Int × List Int => q.1).Nodup := List.nodup_cons.mp nk
    by_cases hk : n = k
    · subst hk
      rw [look_pos rfl] at e
      cases e
      refine ⟨p, List.mem_cons_self, valV_pos rfl, e0, fun H' ys h1 h2 => ?_⟩
      rw [List.map_cons, if_pos rfl]
      have hm : (l.map fun kv => if kv.1 = n then (kv.1, ys) else kv) = l := by
        have : (l.map fun kv => if kv.1 = n then (kv.1, ys) else kv) = l.map id := by
          apply List.map_congr_left
          intro q hq
          have hne : ¬ q.1 = n := fun z => nk1.1 (by rw [← z]; exact List.mem_map.mpr ⟨q, hq, rfl⟩)
          rw [if_neg hne]; rfl
        rw [this, List.map_id]
      rw [hm]
      exact .cons h1 (t.stay fun x hx => h2 x (List.mem_cons_of_mem _ hx) (fun z => nd1.1 (z ▸ hx)))
    · rw [look_neg hk] at e
      obtain ⟨q, hq, h1, h2, h3⟩ := ih e nd1.2 nk1.2
      have hpq : p ≠ q := fun z => nd1.1 (z ▸ hq)
      refine ⟨q, List.mem_cons_of_mem _ hq, ?_, h2, fun H' ys k1 k2 => ?_⟩
      · rw [valV_neg]
        · exact h1
        · exact fun z => hk (Sum.inl.inj z)
      · rw [List.map_cons, if_neg hk]
        exact .cons (k2 p List.mem_cons_self hpq _ e0) (h3 H' ys k1 fun x hx => k2 x (List.mem_cons_of_mem _ hx))
theorem ite_some' {α : Type} {c : Prop} [Decidable c] {x : Option α} {z : α} (h : (if c then x else none) = some z) : c ∧ x = some z := by
  by_cases hc : c
  · rw [if_pos hc] at h; exact ⟨hc, h⟩
  · rw [if_neg hc] at h; cases h
section
variable {X : Cx} {Γ : Gm} {B : Bs} {ρ ρ' : Sto} {N : List Str} {sc : Scope} {k : Nat} {fx : List Nat} {W : WX} {M : List Addr} {pos p p' p2 : Pos} {e a b o tg it elt kx vx : Expr}
/-- near[a].append(e) -/
theorem xp_nearApp (d : Dok X Γ B N sc k fx W M) {x : Str} (i : Nat) {l : List (Int × List Int)} {mk mv : Option Int} {apos cpos : Pos} (hi : ρ[i]? = some (ow (ON.mk l))) (hN : N[i]? = some x) (hv : Vis sc x) (hk : XE X Γ B ρ a mk) (he : XE X Γ B ρ e mv) (hd : (x == ("__debug__" : Str)) = false := by decide) (hcd : (x == ("__classdict__" : Str)) = false := by decide) (hns : NoSl a := by intro _ _; rfl)
    (hbase : attributeBase (.Subscript (.Name x p) a p2) "append" X.env (eval (.Subscript (.Name x p) a p2) X.env) = eval (.Subscript (.Name x p) a p2) X.env := by rfl)
    (hfew : ((backTo cpos (starEach [e] X.env)).all (fun x => !x.1) && (backToKw cpos (keywordEach [] X.env)).all (fun x => x.1.isSome)
      && decide ([e].length + ([] : List Keyword).length + (if ([] : List Keyword).isEmpty then 0 else 1) < 30)) = true := by rfl)
    (hline : (apos.endLine == cpos.line) = true := by rfl) (hs : starEach [e] X.env = (false, eval e X.env) :: starEach [] X.env := by rfl) (hw : swapsWith (.Call (.Attribute (.Subscript (.Name x p) a p2) "append" apos) [e] [] cpos) none pos.line X.env = pure false := by rfl) :
    XP1 X Γ B ρ (.Expr (.Call (.Attribute (.Subscript (.Name x p) a p2) "append" apos) [e] [] cpos) pos) (mk.bind fun y => mv.bind fun v => nearApp l y v) (fun l' => ρ.set i (ow (ON.mk l'))) :=
  imS (ps_expr (pe_bm PySem.F.plainAttrs_list PySem.F.slot_list_append PySem.F.type_list_append mt_append (pe_dget d.hu (pv_ d.toCok hN hv hd hcd) hk hns) (pa_cons he pa_nil hs) hbase hfew hline hs (by rfl)) hw) fun D σ H ⟨G, s, A, e, q⟩ => by
  cases mk with
  | none => cases e
  | some y =>
    cases mv with
    | none => cases e
    | some v =>
      have e : ((look l y).bind fun row => (push row v).bind fun row' => some (put l y row')) = some s := e
      cases hl : look l y with
      | none => rw [hl] at e; cases e
      | some row =>
        rw [hl] at e
        have e : ((push row v).bind fun row' => some (put l y row')) = some s := e
        cases hp : push row v with
        | none => rw [hp] at e; cases e
        | some row' =>
          rw [hp] at e
          cases e
          obtain ⟨hb, e2⟩ := ite_some (by have qq : push row v = some row' := hp; unfold push at qq; exact qq)
          subst e2
          obtain ⟨u, fp, h1, ⟨a0, kvs, as, rfl, h2, h3, h4, h5, h6⟩, hg0, ch⟩ := A.openO hi
          have h6 : (l.map fun q : Int × List Int => q.1).Nodup := h6
          have h4 : Near H kvs as l := h4
          obtain ⟨q0, hq0, hv0, hr0, hc0⟩ := h4.get hl h5 h6
          refine ⟨.ref a0, h1, G, y, A, rfl, fun v1 G1 H1 g1 r1 => ⟨a0, .ref q0, rfl, .inl ⟨kvs, Sum.inl y, .inl (g1.leH _ _ h3), rep1 r1, hv0.symm⟩, .inl ⟨rfl, _, SqL.of (g1.leH _ _ hr0)⟩, ?_⟩⟩
          refine ⟨G1, v, A.grow g1, rfl, fun v2 G2 H2 g2 r2 => ⟨q0, row.map V.int, v2, rfl, rfl, g2.leH _ _ (g1.leH _ _ hr0), by rw [List.length_map]; exact big_lt (by omega), ?_⟩⟩
          have g := g1.trans g2
          have ne0 : a0 ≠ q0 := ne_of h3 hr0 (fun z => by cases z)
          have ev : row.map V.int ++ [v2] = (row ++ [v]).map V.int := by rw [List.map_append, rep1 r2]; rfl
          have kp : ∀ x, x ≠ q0 → ∀ o, H x = some o → upd H2 q0 (.lst (row.map V.int ++ [v2])) x = some o := fun x hx o ho => by rw [upd_ne hx]; exact g.leH _ _ ho
          refine q G2 _ σ (ch ON _ (ON.mk (put l y (row ++ [v]))) G2 (upd H2 q0 (.lst (row.map V.int ++ [v2]))) fp g.leG (fun x o ho => ?_) g.thin (fun x o hx ho => kp x (fun z => hx (by rw [z, h2]; exact List.mem_cons_of_mem _ hq0)) o ho) (fun x hx => ?_) (fun x hx => .inl hx) ⟨a0, kvs, as, rfl, h2, ?_, ?_, h5, ?_⟩)
          · have hz : x ≠ q0 := fun z => by
              have : G q0 = none := hg0 q0 (by rw [h2]; exact List.mem_cons_of_mem _ hq0)
              have := (g.thin q0 (some_ne hr0) this).no hr0
              rw [z, this] at ho; cases ho
            rw [upd_ne hz]; exact g.sub x o ho
          · by_cases hz : x = q0
            · rw [hz, upd_same]; simp
            · rw [upd_ne hz]
              rw [h2] at hx
              rcases List.mem_cons.mp hx with z | z
              · rw [z]; exact some_ne (g.leH _ _ h3)
              · obtain ⟨xs, ex⟩ := h4.there x z
                exact some_ne (g.leH _ _ ex)
          · exact kp a0 ne0 _ h3
          · show Near _ kvs as (put l y (row ++ [v]))
            rw [put_same (by rw [hl]; rfl)]
            exact hc0 _ (row ++ [v]) (by rw [upd_same, ev]) fun x hx hne o ho => kp x hne o ho
          · show ((put l y (row ++ [v])).map fun q : Int × List Int => q.1).Nodup
            rw [put_keys (by rw [hl]; rfl)]; exact h6
/-- a new thing of one's own, of any footprint -/
theorem At.setNN {α : Type} [I : Ow α] {G H G' H' : Hp} {σ : St} {v : V} {fp : List Addr} {a : α} {i : Nat} (A : At Γ B ρ G H σ) (hi : i < ρ.length) (g : Grow G H G' H') (hfp : ∀ x ∈ fp, H x = none ∧ G' x = none) (r : own Γ G' H' v fp a) (nf : i ∉ B.fx) : At Γ B (ρ.set i (ow a)) G' H' (σ.set i (some v)) := by
  obtain ⟨φ, h1, h3⟩ := A.slots
  have h1' := h1.grow g.leG (H' := H') fun j x _ u e => g.leH x u e
  have A' := A.grow g
  refine ⟨A'.sub, A'.le, A'.keep, A'.live, A'.thin, ⟨setφ φ i fp, h1'.set hi ⟨v, rfl, r⟩ fun j x hj hx hm => ?_, fun j a ha => ?_⟩, fun j hj => by
    rw [List.getElem?_set_ne fun z => nf (by rw [z]; exact hj)]
    exact A.fix j hj⟩
  · exact h1.there j x hm (hfp x hx).1
  · rcases mem_setφ ha with ⟨_, q⟩ | ⟨_, q⟩
    · refine ⟨(hfp a q).2, .inl ?_⟩
      cases z : B.H a with
      | none => rfl
      | some u => exact absurd (hfp a q).1 (A.live a (some_ne z))
    · exact ⟨(g.thin a (h1.there j a q) (h3 j a q).1).none (h1.nt j a q), (h3 j a q).2⟩
def nearM (t : Int → Option Bool) : List (Int × List Int) → List Int → Option (List (Int × List Int))
  | d, [] => some d
  | d, x :: r => (t x).bind fun b => if b = true then (if isIn x (d.map fun q : Int × List Int => q.1) = true then none else nearM t (d ++ [(x, [])]) r) else nearM t d r
@[irreducible] def nearB (t : Int → Option Bool) (xs : List Int) : Option (List (Int × List Int)) := if xs.length ≤ BIG then nearM t [] xs else none
theorem near_any {H : Hp} {kvs : List (Key × V)} {as : List Addr} {l : List (Int × List Int)} (h : Near H kvs as l) {x : Int} (hx : x ∉ l.map fun q : Int × List Int => q.1) : (kvs.any fun kv => decide (kv.1 = Sum.inl x)) = false := by
  induction h with
  | nil => rfl
  | @cons n xs p kvs as l e t ih =>
    have h1 : x ≠ n := fun z => hx (by rw [z]; exact List.mem_cons_self)
    have h2 : x ∉ l.map fun q : Int × List Int => q.1 := fun z => hx (List.mem_cons_of_mem _ z)
    rw [List.any_cons, ih h2, Bool.or_false]
    exact decide_eq_false fun z => h1 (Sum.inl.inj z).symm
/-- near = {node: [] for node in it if t} -/
theorem xp_setNear (d : Dok X Γ B N sc k fx W M) {x y : Str} {px px2 py pl : Pos} {i j : Nat} {ifs : List Expr} {scope sc' : Scope} {p : Pos} {mxs : Option (List Int)} {t : Int → Option Bool} (hj : N[j]? = some y) (hyl : sc.names.lookup y = some .local) (hsw : ((if sc.kind.isAnnotationScope then ScopeKind.function else sc.kind) == .function && sc.names.lookup y == some .local && py.line == p.line && !(scope.names.any fun (n, k) => n == y && (k == .local || k == .cell))) = true) (hi : XI X Γ B ρ (.Name x px) it mxs) (hsc : relS scope sc = sc') (hB : blkC N sc scope [(x, i)] = true) (hx : N[i]? = some x) (hxl : scope.names.lookup x = some .local) (hxl' : sc'.names.lookup x = some .local)
    (ht : ∀ X', Cok X' Γ N sc' k → ∀ a : Int, PTs X' ifs (cT Γ B (ρ.set i (vl a)) (t a))) (hd : (x == ("__debug__" : Str)) = false := by decide) (hcd : (x == ("__classdict__" : Str)) = false := by decide)
    (hs : ∀ x, foldedSetIterable it X.env x = pure x := by intro _; rfl) (hρ : Nat.ble (i + 1) ρ.length = true := by rfl) (hfc : fx.contains i = false := by rfl) (hρ2 : Nat.ble (j + 1) ρ.length = true := by rfl) (hf2 : fx.contains j = false := by rfl) :
    XP1 X Γ B ρ (.Assign [.Name y py] (.DictComp (.Name x px2) (.List [] pl) [⟨.Name x px, it, ifs, 0⟩] scope p) pos) (mxs.bind (nearB t)) (fun z => ρ.set j (ow (ON.mk z))) := by
  have cb : ∀ (s : Shared) (H : Hp) (C : Addr) (cl : List (Str × Addr)) (fp : List Addr), Cok (X.blk s H scope (compEnvC scope cl C X.env) fp) Γ N sc' k := fun s H C cl fp => d.toCok.blk hsc
  refine imS (ps_setDc (own := [(x, i)]) (g := gName i) (tt := fun σ H Q => ∃ a, cT Γ B (ρ.set i (vl a)) (t a) σ H Q) (tk := fun σ H Q => ∃ a : Int, cE Γ B (ρ.set i (vl a)) (some a) σ H Q) (tv := tLst tNil) d.calm (by rw [d.hN]; exact d.nd) (by rw [d.hN]; exact hj) (by rw [d.hsc]; exact hyl) ((sw_dc d.toCok).trans (by rw [hsw])) hi (by rw [d.hN, d.hsc]; exact blkOk_by hB)
    (fun s H C cl fp => pg_name (i := i) (by rw [(cb s H C cl fp).hN]; exact d.nd) (by rw [(cb s H C cl fp).hN]; exact hx) (by rw [(cb s H C cl fp).hsc]; exact .inl hxl') (.inr (by rw [(cb s H C cl fp).hsc]; exact hxl')))
    (fun s H C cl fp => ⟨fun pins s' σ H' Q I ⟨a, q⟩ => (ht _ (cb s H C cl fp) a).run pins s' σ H' Q I q⟩) (fun s H C cl fp => allE fun a => xe_var (cb s H C cl fp) i (by rw [List.getElem?_set_self (Nat.le_of_ble_eq_true hρ)]) hx (.inl hxl') hd hcd) (fun s H C cl fp => pe_lst pa_nil) hs) fun D σ H ⟨G, zs, A, e, q⟩ => ?_
  obtain ⟨hf, hρi⟩ := lc_pre hρ hfc d.hfx
  cases mxs with
  | none => cases e
  | some xs =>
    have e : nearB t xs = some zs := e
    unfold nearB at e
    obtain ⟨hl, e⟩ := ite_some' e
    refine ⟨G, xs, A, rfl, fun J G' H' g ⟨Y, hw, hy⟩ D0 hD => ?_⟩
    have hGD : G' D0 = none := g.sub.none hD
    refine dc_it (g := gName i) (tt := fun σ H Q => ∃ a, cT Γ B (ρ.set i (vl a)) (t a) σ H Q) (tk := fun σ H Q => ∃ a : Int, cE Γ B (ρ.set i (vl a)) (some a) σ H Q) (tv := tLst tNil) (vs := [i]) (σ := σ) (Qd := fun H2 => D.nx (σ.set j (some (.ref D0))) H2) hw (fun j H2 => ∃ G1 vs as ys, Grow G' H' G1 H2 ∧ G1 D0 = none ∧ H2 D0 = some (.dK vs) ∧ Near H2 vs as ys ∧ as.Nodup ∧ (ys.map fun q : Int × List Int => q.1).Nodup ∧ (∀ x ∈ as, H' x = none ∧ G1 x = none) ∧ ys.length ≤ j ∧ nearM t ys (xs.drop j) = some zs)
      ⟨G', [], [], [], Grow.newO g.sub hD _, hGD, upd_same, .nil, List.nodup_nil, List.nodup_nil, fun x hx => by simp at hx, Nat.le_refl _, e⟩ (fun j H2 _ ⟨G1, vs, as, ys, g1, _⟩ => ⟨G1, g1.leG, g1.sub⟩) ?_ ?_
    · rintro j v H2 H3 hj ⟨G1, vs, as, ys, g1, hG1, hD1, r1, n1, n2, fr, hl1, e1⟩ y
      obtain ⟨x0, G2, hx0, g2, rv⟩ := hy j H2 v H3 hj y G1 g1.leG g1.sub
      have ed : xs.drop j = x0 :: xs.drop (j + 1) := by
        obtain ⟨h1, h2⟩ := List.getElem?_eq_some_iff.mp hx0
        rw [List.drop_eq_getElem_cons h1, h2]
      rw [ed] at e1
      unfold nearM at e1
      have A2 := ((A.grow g).grow g1).grow g2
      have A3 : At Γ B (ρ.set i (vl x0)) G2 H3 ((σ.set i none).set i (some v)) := by
        have := (A2.wiped i hf).setV (i := i) (by simpa using hρi) rv hf
        simpa using this
      show wipe ((wipe σ [i]).set i (some v)) [i] = wipe σ [i] ∧ _
      refine ⟨wipe_set1, ?_⟩
      cases hb : t x0 with
      | none => rw [hb] at e1; cases e1
      | some b =>
        rw [hb] at e1
        refine ⟨x0, G2, b, A3, hb, fun G4 H4 g4 => ?_⟩
        have fr4 : ∀ {G5 H5 : Hp}, Grow G1 H2 G5 H5 → ∀ x ∈ as, H' x = none ∧ G5 x = none := fun gg x hx => by
          obtain ⟨xs', ex⟩ := r1.there x hx
          exact ⟨(fr x hx).1, (gg.thin x (some_ne ex) (fr x hx).2).no ex⟩
        cases b with
        | false =>
          have e1 : nearM t ys (xs.drop (j + 1)) = some zs := e1
          have gg := g2.trans g4
          exact ⟨G4, vs, as, ys, g1.trans gg, (gg.thin _ (some_ne hD1) hG1).no hD1, gg.leH _ _ hD1, r1.stay fun x _ o ho => gg.leH _ _ ho, n1, n2, fr4 gg, by omega, e1⟩
        | true =>
          have e1 : (if isIn x0 (ys.map fun q : Int × List Int => q.1) = true then none else nearM t (ys ++ [(x0, [])]) (xs.drop (j + 1))) = some zs := e1
          by_cases hin : isIn x0 (ys.map fun q : Int × List Int => q.1) = true
          · rw [if_pos hin] at e1; cases e1
          · rw [if_neg hin] at e1
            have hni : x0 ∉ ys.map fun q : Int × List Int => q.1 := fun z => hin (decide_eq_true z)
            refine ⟨x0, G4, x0, A3.grow g4, rfl, fun wk G5 H5 g5 r5 => ?_⟩
            have gg := (g2.trans g4).trans g5
            refine ⟨by show 0 ≤ sizeLine; exact Nat.zero_le _, fun q0 hq0 => ?_⟩
            have hDq : D0 ≠ q0 := fun z => by rw [z] at hD1; rw [gg.leH _ _ hD1] at hq0; cases hq0
            have hvl : vs.length = ys.length := r1.len
            have hb1 : xs.length ≤ 1000000 := hl
            have r6 : Near (upd (upd H5 q0 (.lst [])) D0 (.dK (vs ++ [(Sum.inl x0, V.ref q0)]))) (vs ++ [(Sum.inl x0, .ref q0)]) (as ++ [q0]) (ys ++ [(x0, [])]) := by
              refine Near.snoc (r1.stay fun x hx o ho => ?_) ?_
              · have z1 : x ≠ D0 := fun z => by
                  obtain ⟨_, ex⟩ := r1.there x hx
                  rw [z, hD1] at ex; cases ex
                have z2 : x ≠ q0 := fun z => by rw [z] at ho; rw [gg.leH _ _ ho] at hq0; cases hq0
                rw [upd_ne z1, upd_ne z2]; exact gg.leH _ _ ho
              · rw [upd_ne (Ne.symm hDq), upd_same]; rfl
            refine ⟨vs, Sum.inl x0, rep1 r5, by rw [upd_ne hDq]; exact gg.leH _ _ hD1, big_lt (show vs.length ≤ 1000000 by omega), G5, vs ++ [(Sum.inl x0, .ref q0)], as ++ [q0], ys ++ [(x0, [])], ?_, (gg.thin _ (some_ne hD1) hG1).no hD1, ?_, ?_, ?_, ?_, fun x hx => ?_, by simp; omega, e1⟩
            · have g6 := g1.trans gg
              refine ⟨g6.leG, fun a o ho => ?_, fun a o ho => ?_, g6.thin⟩
              · have z1 : a ≠ D0 := fun z => by rw [z, hD] at ho; cases ho
                have z2 : a ≠ q0 := fun z => by rw [z] at ho; rw [g6.leH _ _ ho] at hq0; cases hq0
                rw [upd_ne z1, upd_ne z2]; exact g6.leH _ _ ho
              · have z1 : a ≠ D0 := fun z => by
                  rw [z, (gg.thin _ (some_ne hD1) hG1).no hD1] at ho; cases ho
                have z2 : a ≠ q0 := fun z => by rw [z] at ho; rw [g6.sub _ _ ho] at hq0; cases hq0
                rw [upd_ne z1, upd_ne z2]; exact g6.sub _ _ ho
            · rw [upd_same]
              unfold putK
              rw [near_any r1 hni, if_neg Bool.false_ne_true]
            · unfold putK
              rw [near_any r1 hni, if_neg Bool.false_ne_true]
              exact r6
            · rw [List.nodup_append]
              refine ⟨n1, by simp, fun a ha b hb => ?_⟩
              rw [List.mem_singleton.mp hb]
              intro z
              obtain ⟨_, ex⟩ := r1.there a ha
              rw [z] at ex
              rw [gg.leH _ _ ex] at hq0; cases hq0
            · rw [List.map_append, List.nodup_append]
              refine ⟨n2, by simp, fun a ha b hb => ?_⟩
              rw [List.mem_singleton.mp hb]
              exact fun z => hni (by
                have z' : a = x0 := z
                rw [← z']; exact ha)
            · rcases List.mem_append.mp hx with hx | hx
              · exact fr4 gg x hx
              · rw [List.mem_singleton.mp hx]
                have g6 := g1.trans gg
                refine ⟨?_, g6.sub.none hq0⟩
                cases z : H' q0 with
                | none => rfl
                | some u =>
                  have h7 : H2 q0 = some u := g1.leH _ _ z
                  rw [gg.leH _ _ h7] at hq0; cases hq0
    · rintro H2 ⟨G1, vs, as, ys, g1, hG1, hD1, r1, n1, n2, fr, _, e1⟩
      rw [List.drop_length] at e1
      have e1 : some ys = some zs := e1
      have e1 := Option.some.inj e1
      subst e1
      have A1 := A.grow g
      refine q G1 H2 _ (A1.setNN (Nat.le_of_ble_eq_true hρ2) g1 (fp := D0 :: as) (fun x hx => ?_) ⟨D0, vs, as, rfl, rfl, hD1, r1, n1, n2⟩ (lc_pre hρ2 hf2 d.hfx).1)
      rcases List.mem_cons.mp hx with z | z
      · rw [z]; exact ⟨hD, hG1⟩
      · exact fr x z
end
end Sim

set_option Elab.async false
set_option autoImplicit false
set_option linter.all false
set_option maxRecDepth 100000
set_option maxHeartbeats 1000000
namespace Sim
open PySem L2
open Rp (rep)
open At1 (toV)
open K1 (key)
open KT (keys)
open Ow (own)
open RpA (repA stoA)

/-- values that no heap has a part in -/
class Flat (α : Type) [Rp α] : Prop where
  flat : ∀ {Γ : Gm} {G G' : Hp} {v : V} {a : α}, rep Γ G v a → rep Γ G' v a
instance {α : Type} [At1 α] : Flat α := ⟨fun h => h⟩
instance {α : Type} [Rp α] [Flat α] : Flat (Option α) := ⟨fun {Γ G G' v a} h => by
  cases a with
  | none => exact h
  | some x => exact ⟨h.1, Flat.flat h.2⟩⟩
theorem RpL.flat {Γ : Gm} {α : Type} [Rp α] [Flat α] {G G' : Hp} {vs : List V} {xs : List α} (h : RpL Γ G vs xs) : RpL Γ G' vs xs := Paired.mapP h fun _ _ r => Flat.flat r
theorem RpK.flat {Γ : Gm} {κ α : Type} [K1 κ] [Rp α] [Flat α] {G G' : Hp} {vs : List (Key × V)} {xs : List (κ × α)} (h : RpK Γ G vs xs) : RpK Γ G' vs xs := Paired.mapP h fun _ _ r => ⟨r.1, Flat.flat r.2⟩

/-! ### exceptions -/
/-- the class that the text calls x is one of the program's own errors, number n -/
structure ExT (Γ : Gm) (x : Str) (n : Nat) : Prop where
  g : Γ.mg x = some (.ref (Γ.C n))
  kp : PySem.W.keepIn Γ.K (.ref (Γ.C n)) = true
  ex : PySem.W.excIn Γ.K (Γ.C n) [.type "ValueError", .type "Exception", .type "BaseException", .type "object"] "ValueError.__new__" = true
  sub : PySem.W.subIn Γ.K (.ref (Γ.C n)) (.type "BaseException") = some true
  ty : PySem.W.typeIn Γ.K (.ref (Γ.C n)) = some (.type "type")
/-- an expression that may raise, and may change the store -/
def cX (Γ : Gm) (B : Bs) {L β C : Type} [Rp β] (F : Kt L β C) (ρ : Sto) {α S : Type} [Rp α] (m : Option (Except (Er × C) (α × S))) (sto : S → Sto) : TE := fun σ H Q => ∃ G r, At Γ B ρ G H σ ∧ m = some r ∧ match r with
  | .ok q => ∀ v G' H', Le G G' → At Γ B (sto q.2) G' H' σ → rep Γ G' v q.1 → Q v H'
  | .error q => ∀ cls d G' H', At Γ B (F.str q.2) G' H' σ → IsEr Γ q.1 cls d H' → F.W cls d σ H'
abbrev XX (X : Cx) (Γ : Gm) (B : Bs) {L β C : Type} [Rp β] (F : Kt L β C) (ρ : Sto) (e : Expr) {α S : Type} [Rp α] (m : Option (Except (Er × C) (α × S))) (sto : S → Sto) : Prop := PE X e (cX Γ B F ρ m sto)
theorem opAt_drop : ∀ (ops : List Nat) (n : Nat) (s : Slot), opAt (ops.map fun i => (i, false)) n s = .dead ∨ opAt (ops.map fun i => (i, false)) n s = s
  | [], n, s => .inr rfl
  | i :: r, n, s => by
    rw [List.map_cons]
    unfold opAt
    by_cases h : Nat.beq i n = true
    · rw [if_pos h]
      left
      cases s <;> rfl
    · rw [if_neg h]; exact opAt_drop r n s
theorem At.dropN {Γ : Gm} {B : Bs} {G H : Hp} {σ : St} (ops : List Nat) : ∀ (n : Nat) {ρ : Sto}, n ≤ ρ.length → At Γ B ρ G H σ → At Γ B (wksN ρ (ops.map fun i => (i, false)) n) G H σ
  | 0, ρ, _, A => by rw [wksN_zero]; exact A
  | n + 1, ρ, hn, A => by
    have h : ρ[n]? = some ρ[n] := List.getElem?_eq_getElem (by omega)
    obtain ⟨h1, h2⟩ := wksN_succ ρ (ops.map fun i => (i, false)) h
    rw [h1]
    have A1 := At.dropN ops n (by omega) A
    rcases opAt_drop ops n ρ[n] with z | z
    · rw [z]; exact A1.drop
    · rw [z]
      have e : (wksN ρ (ops.map fun i => (i, false)) n).set n ρ[n] = wksN ρ (ops.map fun i => (i, false)) n := by
        obtain ⟨hi, e⟩ := List.getElem?_eq_some_iff.mp h2
        rw [← e]; simp
      rw [e]; exact A1
theorem At.drops {Γ : Gm} {B : Bs} {G H : Hp} {σ : St} (ops : List Nat) {ρ : Sto} (A : At Γ B ρ G H σ) : At Γ B (Sim.wks ρ (ops.map fun i => (i, false))) G H σ := by
  have := At.dropN ops ρ.length (Nat.le_refl _) A
  rw [wksN_all] at this
  exact this
section
variable {X : Cx} {Γ : Gm} {B : Bs} {L β C : Type} [Rp β] {F : Kt L β C} {ρ ρ' : Sto} {N : List Str} {sc : Scope} {k : Nat} {fx : List Nat} {W : WX} {M : List Addr} {pos p p' p2 : Pos} {e a b o tg it elt kx vx : Expr} {es : List Expr} {S : Type} {sto : S → Sto}
variable {α γ κ : Type} [Rp α] [Rp γ] [K1 κ]
theorem xx_eq {m m' : Option (Except (Er × C) (α × S))} (h : XX X Γ B F ρ e m sto) (q : m = m') : XX X Γ B F ρ e m' sto := q ▸ h
/-- raise C(e) -/
theorem xb_raise (d : Dok X Γ B N sc k fx W M) {x : Str} {n : Nat} {m : Option α} {c : C} (hx : ExT Γ x n) (hn : n ≠ 9) (hg : Glb sc x) (he : XE X Γ B ρ e m) (ops : List Nat) (hw : Sim.wks ρ (ops.map fun i => (i, false)) = F.str c) (hW : F.W = W := by rfl) (s1 : starEach [e] X.env = (false, eval e X.env) :: starEach [] X.env := by rfl) (hdb : (x == ("__debug__" : Str)) = false := by decide) :
    XB1 X Γ B F ρ (.Raise (some (.Call (.Name x p) [e] [] p2)) none pos) (S := S) (m.bind fun _ => some (.err ⟨n, 0⟩ c)) sto :=
  imS (ps_raise d.calm d.tk (SkE.pmk_own1 PySem.F.excBase_ValueError (by rw [d.hK]; exact hx.ex) (by rw [d.hmg]; exact hx.g) (by rw [d.hK]; exact hx.kp) (raises_own (by rw [d.hK]; exact hx.sub) (by rw [d.hK]; exact hx.ty)) (d.gl hg) he s1 hdb)) fun D σ H ⟨G, s, A, e, q⟩ => by
  cases m with
  | none => cases e
  | some y =>
    cases e
    refine ⟨G, y, A, rfl, fun v G1 H1 g1 r1 => ?_⟩
    have A2 := At.drops ops (A.grow g1)
    rw [hw] at A2
    show W _ none σ H1
    rw [← hW]
    refine q _ none G1 H1 σ A2 ⟨rfl, ?_⟩
    rw [if_neg hn]
def exR {β C : Type} (c : C) : Except Er β → Except (Er × C) (β × Unit)
  | .ok b => .ok (b, ())
  | .error e => .error (e, c)
theorem xx_callE {τ δ : Type} [RpA τ] [Rp δ] {fr : Bool} {x : Str} {j : Nat} (d : Dok X Γ B N sc k fx W M) {f : τ → Option (Except Er δ)} {mt : Option τ} (c : C) (ops : List Nat) (h : CalE Γ x j fr f) (hk : j ≤ k) (hg : Glb sc x) (ha : XA X Γ B ρ (e :: es) mt) (hw : Sim.wks ρ (ops.map fun i => (i, false)) = F.str c) (hW : F.W = W := by rfl) (hdb : (x == ("__debug__" : Str)) = false := by decide) (he : starEach (e :: es) X.env = (false, eval e X.env) :: starEach es X.env := by rfl) (hpl : (backTo pos (starEach es X.env)).any (·.1) = false := by rfl) :
    XX X Γ B F ρ (.Call (.Name x p) (e :: es) [] pos) (mt.bind fun t => (f t).bind fun r => some (exR c r)) (fun _ => ρ) := by
  obtain ⟨a, fd, ps, Fo, hm, kp, bi⟩ := h.ex
  refine imE (pe_callS (CX := L2.CX X.prog X.w) (E := fun σ cls d H => F.W cls d σ H) (by rw [d.hP, d.hw, d.hK, d.hmg, d.hbase]; exact Fo) (d.room.mono hk) (d.gl hg) (by rw [d.hmg]; exact hm) (by rw [d.hK]; exact kp) (by rw [d.hK]; exact bi) (fun σ => by subst hW; exact passAt d.tk σ) ha hdb he hpl) fun σ H Q ⟨G, r, A, e, q⟩ => ?_
  cases mt with
  | none => cases e
  | some t =>
    have e : ((f t).bind fun r => some (exR c r)) = some r := e
    cases hf : f t with
    | none => rw [hf] at e; cases e
    | some b =>
      rw [hf] at e
      cases e
      refine ⟨G, t, A, rfl, fun vs G1 H1 g1 r1 => ⟨G1, t, b, g1.sub, r1, hf, ?_⟩⟩
      cases b with
      | ok b => exact fun v G2 H2 g2 r2 _ => q v G2 H2 (g1.trans g2).leG (A.grow (g1.trans g2)) r2
      | error er => exact fun cls dd G2 H2 g2 ie => q cls dd G2 H2 (by rw [← hw]; exact (A.grow (g1.trans g2)).drops ops) ie
/-- what is to come of it -/
def exDo {α S L β C : Type} : Except (Er × C) (α × S) → Fl S L β C
  | .ok q => .nx q.2
  | .error q => .err q.1 q.2
def exSet {α S L β C : Type} : Except (Er × C) (α × S) → Fl (α × S) L β C
  | .ok q => .nx q
  | .error q => .err q.1 q.2
def exRet {α S T L C : Type} (c : C) : Except (Er × C) (α × S) → Fl T L α C
  | .ok q => .ret q.1 c
  | .error q => .err q.1 q.2
theorem xb_doX {m : Option (Except (Er × C) (α × S))} (he : XX X Γ B F ρ e m sto) (hw : swapsWith e none pos.line X.env = pure false := by rfl) : XB1 X Γ B F ρ (.Expr e pos) (m.bind fun r => some (exDo r)) sto := imS (ps_expr he hw) fun D σ H ⟨G, s, A, e, q⟩ => by
  cases m with
  | none => cases e
  | some r =>
    cases e
    refine ⟨G, r, A, rfl, ?_⟩
    cases r with
    | ok y => exact fun v G1 H1 l1 A1 r1 => q G1 H1 σ A1
    | error y => exact fun cls d G1 H1 A1 ie => q cls d G1 H1 σ A1 ie
theorem xb_setX (d : Dok X Γ B N sc k fx W M) {m : Option (Except (Er × C) (α × S))} {x : Str} (i : Nat) (he : XX X Γ B F ρ e m sto) (hi : N[i]? = some x) (hx : Loc sc x) (hρ : ∀ s, Nat.ble (i + 1) (sto s).length = true := by intro _; rfl) (hf : fx.contains i = false := by rfl) (hs : swapsWith e (some (.Name x p')) pos.line X.env = pure false := by rfl) :
    XB1 X Γ B F ρ (.Assign [.Name x p'] e pos) (m.bind fun r => some (exSet r)) (fun q => (sto q.2).set i (vl q.1)) := imS (ps_set (i := i) (by rw [d.hN]; exact d.nd) (by rw [d.hN]; exact hi) (by rw [d.hsc]; exact hx) he hs (.inl (d.hfn x))) fun D σ H ⟨G, s, A, e, q⟩ => by
  cases m with
  | none => cases e
  | some r =>
    cases e
    refine ⟨G, r, A, rfl, ?_⟩
    cases r with
    | ok y => exact fun v G1 H1 l1 A1 r1 => q G1 H1 _ (A1.setV (Nat.le_of_ble_eq_true (hρ y.2)) r1 fun hm => by
        rw [d.hfx] at hm
        rw [List.contains_iff_mem.mpr hm] at hf
        cases hf)
    | error y => exact fun cls d G1 H1 A1 ie => q cls d G1 H1 σ A1 ie
theorem xb_retX {m : Option (Except (Er × C) (β × S))} {c : C} (he : XX X Γ B F ρ e m sto) (ops : List (Nat × Bool)) (hw : ∀ s, Sim.wks (sto s) ops = F.str c) (hfr : F.fr = false) : XB1 X Γ B F ρ (.Return (some e) pos) (S := S) (m.bind fun r => some (exRet c r)) sto := imS (lkS' (ps_ret he)) fun D σ H ⟨G, s, A, e, q⟩ => by
  cases m with
  | none => cases e
  | some r =>
    cases e
    refine ⟨G, r, A, rfl, ?_⟩
    cases r with
    | ok y => exact fun v G1 H1 l1 A1 r1 => (A1.wks ops).mono fun H2 ⟨G2, l2, A2⟩ => q v G2 H2 σ (by rw [← hw y.2]; exact A2) (Rp.mono l2 r1) fun z => by rw [hfr] at z; cases z
    | error y => exact fun cls d G1 H1 A1 ie => q cls d G1 H1 σ A1 ie
/-! ### while a dict, a list of one's own is read -/
theorem xn_thawD [NoDk α] {m : Option (List α)} (i : Nat) {δ : Type} {I : Ow δ} {z : δ} (hi : ρ[i]? = some (.own δ I z)) (hc : I.canF = true) (hdk : ∀ G H v fp, I.own Γ G H v fp z → ∃ q o, fp = [q] ∧ H q = some o ∧ isDk o ∧ Mut (some o)) (h : XN X Γ B (ρ.set i (.val I.F I.iF (I.toF z))) e m) : XN X Γ B ρ e m := imE (pe_lock h) fun σ H Q ⟨G, x, A, e, q⟩ => by
  obtain ⟨φ, h1, h3⟩ := A.slots
  obtain ⟨o', e1, v, e2, ow⟩ := h1.ok i _ hi
  obtain ⟨d, o, ef, ho, hd, mu⟩ := hdk _ _ _ _ ow
  have hg : G d = none := (h3 i d (by rw [ef]; exact List.mem_singleton.mpr rfl)).1
  refine ⟨d, o, ho, mu, fun od => ?_⟩
  have A1 := (A.freezeX hi hc h1 h3 fun _ => od).2
  rw [ef] at A1
  have eH : upd H d (.frz od o) = lkd H [d] (fun _ => od) := by
    funext y
    by_cases z : y = d
    · subst z; rw [upd_same, lkd_d (List.mem_singleton.mpr rfl) ho hd]
    · rw [upd_ne z, lkd1 z]
  rw [eH]
  refine ⟨_, x, A1, e, fun p vs G1 H1 g hp r => ?_⟩
  have ed := g.leH d _ (lkd_d (List.mem_singleton.mpr rfl) ho hd)
  have hpd : d ≠ p := fun z => by rw [z, hp] at ed; cases ed
  refine ⟨by rw [upd_ne hpd]; exact ed, ?_⟩
  have eU : upd (upd H1 p (.lst vs)) d o = upd (upd H1 d o) p (.lst vs) := by
    funext y
    by_cases z1 : y = d
    · subst z1; rw [upd_same, upd_ne hpd, upd_same]
    · rw [upd_ne z1]
      by_cases z2 : y = p
      · subst z2; rw [upd_same, upd_same]
      · rw [upd_ne z2, upd_ne z2, upd_ne z1]
  rw [eU]
  refine q p vs _ _ (thaw_grow (B := B) (σ := σ) A.sub hg ho hd g) (by rw [upd_ne (Ne.symm hpd)]; exact hp) (RpL.nodk (fun y u hu hy => ?_) r)
  have z : y ≠ d := fun z => by
    have := g.leG d _ (by show (if d ∈ [d] then lkd H [d] (fun _ => od) d else G d) = some (.frz od o); rw [if_pos (List.mem_singleton.mpr rfl)]; exact lkd_d (List.mem_singleton.mpr rfl) ho hd)
    rw [z, this] at hy
    cases hy
    exact hu trivial
  rw [drp1 z]; exact hy
/-- .. a dict made while a list of one's own is walked -/
theorem cKN_thawL [Flat α] {m : Option (List (κ × α))} (i : Nat) {δ : Type} {I : Ow δ} {z : δ} (hi : ρ[i]? = some (.own δ I z)) (hc : I.canF = true) (hdk : ∀ G H v fp, I.own Γ G H v fp z → ∃ q o, fp = [q] ∧ H q = some o ∧ ¬ isDk o) : ∀ σ H Q, cKN Γ B ρ m σ H Q → cKN Γ B (ρ.set i (.val I.F I.iF (I.toF z))) m σ H Q := fun σ H Q ⟨G, x, A, e, q⟩ => by
  obtain ⟨φ, h1, h3⟩ := A.slots
  obtain ⟨o', e1, v, e2, ow⟩ := h1.ok i _ hi
  obtain ⟨d, o, ef, ho, hd⟩ := hdk _ _ _ _ ow
  obtain ⟨l1, A1⟩ := A.freezeX hi hc h1 h3 fun _ => default
  rw [ef] at A1 l1
  have eH : lkd H [d] (fun _ => default) = H := by
    funext y
    by_cases z : y = d
    · subst z; rw [lkd_nd ho hd, ho]
    · rw [lkd1 z]
  rw [eH] at A1 l1
  exact ⟨_, x, A1, e, fun p vs G' H' g hp r => q p vs G H' ⟨.refl _, g.leH, fun a o q => g.sub a o (g.leG a o (l1 a o q)), fun _ _ q => .inl q⟩ hp (RpK.flat r)⟩
end
end Sim

set_option Elab.async false
set_option autoImplicit false
set_option linter.all false
set_option maxRecDepth 100000
set_option maxHeartbeats 1000000
namespace Sim
open PySem L2
open Rp (rep)
open RpA (repA stoA)
section
variable {Γ : Gm} {x : Str} {st : Stmt} {N ps : List Str} {j k : Nat} {τ β : Type} [RpA τ] [Rp β] {fr : Bool}
theorem Cal.mono {f : τ → Option β} (h : Cal Γ x j fr f) (hk : j ≤ k) : Cal Γ x k fr f := by
  obtain ⟨a, fd, ps, F, h1, h2, h3⟩ := h.ex
  exact ⟨a, fd, ps, F.mono hk, h1, h2, h3⟩
theorem CalE.mono {f : τ → Option (Except Er β)} (h : CalE Γ x j fr f) (hk : j ≤ k) : CalE Γ x k fr f := by
  obtain ⟨a, fd, ps, F, h1, h2, h3⟩ := h.ex
  exact ⟨a, fd, ps, F.mono hk, h1, h2, h3⟩
theorem cal_none (D : Def Γ x st ps) (Sc : FnScope N ps (defScope st)) (hps : RpA.num τ = ps.length) : Cal Γ x 1 fr (fun _ : τ => (none : Option β)) :=
  cal_of (S := Empty) (sto := fun s => s.elim) (m := fun _ => none) D Sc Empty.elim (fun s => s.elim) hps (fun X B t d => ⟨fun pins s σ H D I ⟨G, r, A, e, q⟩ => by cases e⟩) _ fun _ => rfl
end
end Sim

set_option Elab.async false
set_option autoImplicit false
set_option linter.all false
set_option maxRecDepth 100000
set_option maxHeartbeats 1000000
namespace Sim
open PySem PySem.Spec PyProof.Rows L2
open Rp (rep)
open At1 (toV)
open K1 (key)
open KT (keys)
open Ow (own)
open Dat (toD)
open RpA (repA stoA)

/-! ### data that may be None -/
instance : Dat (Option Int) := ⟨fun o => match o with | none => .none | some i => .int i, 0, fun {Γ G v a} h => by
    cases a with
    | none => rw [show v = .non from h]; exact .non
    | some i => rw [rep1 h.2]; exact .int _, fun a => by cases a <;> simp [PyData.canLay0], fun a => by cases a <;> simp [PyData.depth], fun a b => by
    cases a <;> cases b <;> simp [PyData.eqv, Bool.beq_eq_decide_eq]⟩
section
variable {X : Cx} {Γ : Gm} {B : Bs} {L β C : Type} [Rp β] {F : Kt L β C} {ρ ρ' : Sto} {N : List Str} {sc : Scope} {k : Nat} {fx : List Nat} {W : WX} {M : List Addr} {pos p p' p2 : Pos} {e a b o tg it elt kx : Expr} {st : Stmt} {sts : List Stmt} {es : List Expr} {S : Type} {sto : S → Sto}
variable {α γ : Type} [Rp α] [Rp γ]
/-- l.count(x) of data -/
def rCountD (K : PySem.W.Frag) : V → List V → Hp → VK → Prop := fun x xs H Q => ∃ (a : Addr) (y : V) (d : PyData) (ds : List PyData), x = V.ref a ∧ xs = [y] ∧ Dp K H (V.ref a) (.list ds) ∧ Dp K H y d ∧
  SeqAt.shaped (.list ds) = true ∧ SeqAt.shaped d = true ∧ Q (.int ((ds.countP fun z => PyData.eqv z d : Nat) : Int)) H
theorem mt_countD (hu : X.A.units + 65 < cLine) : MtR X "list.count" (rCountD X.K) := by
  intro pins s σ H x xs v us Q I rx rxs h
  obtain ⟨a, y, d, ds, rfl, rfl, hl, hy, sl, sd, q⟩ := h
  cases rx
  cases rxs with
  | cons ry rt =>
    rename_i uy ut
    cases rt
    obtain ⟨bs, r1⟩ := Dp.reads I d y uy hy ry
    have hxs : PyData.canLayAll0 ds = true := SeqAt.canLay_of_shaped sl
    have hroom : X.A.units + 1 + min (PyData.depthAll ds) d.depth < cLine := room_in_shaped sd hu
    cases hl with
    | lst hs ha =>
      obtain ⟨its, rv, ⟨⟨cls, dd, data, sls⟩, n, ho, hc, hdn, hdt⟩, hlen⟩ := I.list hs
      simp only at hc hdt
      subst hc hdt
      obtain ⟨as, h4⟩ := Dp.readsAll I ds _ its ha rv
      have hmap : its.map (SeqAt.readOf s.heap) = ds := SeqAt.readsAll_map ds its as hxs h4
      refine call_meets PySem.F.slot_list_count ⟨_, ho, rfl⟩ PySem.F.entry_list_count (PySem.F.args_list_count_2 _ _)
        (SeqAt.list_countAt a its.toArray n dd sls uy (fun u => PyData.eqv (SeqAt.readOf s.heap u) d)) ⟨ho, SeqAt.items_eqAt (vs := its.toArray) (show ReadsAll s.heap its.toArray.toList ds as from h4) r1 hxs (SeqAt.canLay_of_shaped sd) hroom, ?_⟩
      have ec : its.toArray.toList.countP (fun u => PyData.eqv (SeqAt.readOf s.heap u) d) = ds.countP fun z => PyData.eqv z d := by
        rw [← hmap, List.countP_map]
        rfl
      refine ⟨.int ((ds.countP fun z => PyData.eqv z d : Nat) : Int), H, I.tok _, ⟨s.toks, ?_⟩, q⟩
      show Value.int ((its.toArray.toList.countP (fun u => PyData.eqv (SeqAt.readOf s.heap u) d) : Nat) : Int) s.toks = Value.int ((ds.countP fun z => PyData.eqv z d : Nat) : Int) s.toks
      rw [ec]
theorem xe_count (c : Cok X Γ N sc k) [DecidableEq α] [Dat α] {mx : Option (List α)} {my : Option α} {apos : Pos} (ha : XR X Γ B ρ a mx) (hb : XE X Γ B ρ b my) (hd : Dat.dep α ≤ 60 := by decide) (hbase : attributeBase a "count" X.env (eval a X.env) = eval a X.env := by rfl)
    (hfew : ((backTo pos (starEach [b] X.env)).all (fun x => !x.1) && (backToKw pos (keywordEach [] X.env)).all (fun x => x.1.isSome)
      && decide ([b].length + ([] : List Keyword).length + (if ([] : List Keyword).isEmpty then 0 else 1) < 30)) = true := by rfl)
    (hline : (apos.endLine == pos.line) = true := by rfl) (hs : starEach [b] X.env = (false, eval b X.env) :: starEach [] X.env := by rfl) :
    XE X Γ B ρ (.Call (.Attribute a "count" apos) [b] [] pos) (b2 mx my fun xs x => some ((xs.countP fun y => decide (y = x) : Nat) : Int)) :=
  imE (pe_bm PySem.F.plainAttrs_list PySem.F.slot_list_count PySem.F.type_list_count (mt_countD c.hu65) ha (pa_cons hb pa_nil hs) hbase hfew hline hs (by rfl)) fun σ H Q ⟨G, z, A, e, q⟩ => by
  cases mx with
  | none => cases e
  | some xs =>
    cases my with
    | none => cases e
    | some x =>
      cases e
      refine ⟨G, xs, A, rfl, fun p vs G1 H1 g1 hp r1 => ⟨.inl ⟨rfl, vs, SqL.of hp⟩, G1, x, A.grow g1, rfl, fun v G2 H2 g2 r2 => ?_⟩⟩
      refine ⟨p, v, toD x, xs.map toD, rfl, rfl, ?_, ?_, dat_shapedL hd xs, dat_shaped (by omega) x, q _ G2 H2 (g1.trans g2) ?_⟩
      · rw [c.hK]; exact .lst (SqL.of (g2.leH _ _ hp)) (DpAll.up g2.sub (dat_reads (r1.mono g2.leG)))
      · rw [c.hK]; exact Dp.up g2.sub (Dat.reads r2)
      · show V.int _ = V.int _
        rw [List.countP_map]
        congr 2
        refine List.countP_congr fun y _ => ?_
        show PyData.eqv (toD y) (toD x) = true ↔ _
        rw [Dat.eqv y x]

/-! ### tuples of any length -/
/-- tuple(xs) of a list -/
theorem xe_tupOf (c : Cok X Γ N sc k) {m : Option (List α)} (ha : XR X Γ B ρ a m) (hg : Glb sc "tuple") (hm : Γ.mg "tuple" = none) (s1 : starEach [a] X.env = (false, eval a X.env) :: starEach [] X.env := by rfl) :
    XE X Γ B ρ (.Call (.Name "tuple" p) [a] [] pos) (m.bind fun xs => some (TL.mk xs)) := imE (pe_tupleOf (c.gl hg) (by rw [c.hmg]; exact hm) ha s1) fun σ H Q ⟨G, z, A, e, q⟩ => by
  cases m with
  | none => cases e
  | some xs =>
    cases e
    refine ⟨G, xs, A, rfl, fun p1 vs G1 H1 g1 hp r1 => .inl ⟨p1, vs, rfl, SqL.of hp, fun q1 hq => ?_⟩⟩
    have g2 := Grow.new g1.sub hq (.tup vs)
    exact q (.ref q1) _ _ (g1.trans g2) ⟨q1, vs, rfl, upd_same, r1.mono g2.leG⟩
/-- tuple(range(n)) -/
theorem xe_tupRange (c : Cok X Γ N sc k) {m : Option Int} (ha : XE X Γ B ρ a m) (hg : Glb sc "tuple") (hm : Γ.mg "tuple" = none) (hg2 : Glb sc "range") (hm2 : Γ.mg "range" = none) (s1 : starEach [a] X.env = (false, eval a X.env) :: starEach [] X.env := by rfl)
    (s2 : starEach [.Call (.Name "range" p2) [a] [] p'] X.env = (false, eval (.Call (.Name "range" p2) [a] [] p') X.env) :: starEach [] X.env := by rfl) :
    XE X Γ B ρ (.Call (.Name "tuple" p) [.Call (.Name "range" p2) [a] [] p'] [] pos) (m.bind fun n => if n.natAbs ≤ 16777216 then some (TL.mk (rangeL 0 n)) else none) :=
  imE (pe_tupRg c.calm (c.gl hg) (by rw [c.hmg]; exact hm) (prg_1 (c.gl hg2) (by rw [c.hmg]; exact hm2) ha s1) s2) fun σ H Q ⟨G, z, A, e, q⟩ => by
  cases m with
  | none => cases e
  | some n =>
    obtain ⟨hn, e⟩ := ite_some (show (if n.natAbs ≤ 16777216 then some (TL.mk (rangeL 0 n)) else none) = some z from e)
    subst e
    refine ⟨G, n, A, rfl, fun v G1 H1 g1 r1 => ⟨n, rep1 r1, ⟨by omega, by omega, by omega, by omega, by omega⟩, fun q1 hq => ?_⟩⟩
    have g2 := Grow.new g1.sub hq (.tup (rgV 0 n))
    refine q (.ref q1) _ _ (g1.trans g2) ⟨q1, _, rfl, upd_same, ?_⟩
    have : rgV 0 n = (rangeL 0 n).map toV := by
      unfold rgV rangeL
      rw [List.map_map]
      rfl
    rw [this]
    exact RpL.ofV _
theorem xe_lenTL (c : Cok X Γ N sc k) {m : Option (TL α)} (ha : XE X Γ B ρ a m) (hg : Glb sc "len") (hm : Γ.mg "len" = none) (s1 : starEach [a] X.env = (false, eval a X.env) :: starEach [] X.env := by rfl) (hpl : (backTo pos (starEach [] X.env)).any (·.1) = false := by rfl) :
    XE X Γ B ρ (.Call (.Name "len" p) [a] [] pos) (m.bind fun t => some ((t.l).length : Int)) :=
  imE (pe_callB call_len_seq (c.gl hg) (by rw [c.hmg]; exact hm) PySem.boot_len (pa_cons ha pa_nil s1) (he := s1)) fun σ H Q ⟨G, z, A, e, q⟩ => by
  cases m with
  | none => cases e
  | some xs =>
    cases e
    exact ⟨G, xs, A, rfl, fun v G1 H1 g1 ⟨p, vs, h1, h2, h3⟩ => ⟨p, vs, by rw [h1], .inr (SqT.of (g1.sub.tup h2)), q _ G1 H1 g1 (by show V.int _ = V.int _; rw [h3.length])⟩⟩
theorem xe_ixTL {ma : Option (TL α)} {mb : Option Int} (ha : XE X Γ B ρ a ma) (hb : XE X Γ B ρ b mb) (hs : PlainIx b := by intro _ _; rfl) : XE X Γ B ρ (.Subscript a b pos) (b2 ma mb fun xs i => atI xs.l i) := imE (pe_ix ix_tup ha hb hs) fun σ H Q ⟨G, z, A, e, q⟩ => by
  cases ma with
  | none => cases e
  | some xs =>
    cases mb with
    | none => cases e
    | some i =>
      refine ⟨G, xs, A, rfl, fun v1 G1 H1 g1 ⟨p, vs, h1, h2, h3⟩ => ⟨G1, i, A.grow g1, rfl, fun v2 G2 H2 g2 r2 => ?_⟩⟩
      obtain ⟨v, hv, r⟩ := atI_rep h3 (show atI xs.l i = some z from e)
      exact ⟨p, vs, i, v, h1, rep1 r2, SqT.of (g2.sub.tup (g2.leG _ _ h2)), hv, q v G2 H2 (g1.trans g2) (Rp.mono g2.leG r)⟩
theorem xe_sliceTL {m : Option (TL α)} {lo hi : Option Expr} {ml mh : Option (Option Int)} {p2 : Pos} (ha : XE X Γ B ρ a m) (hl : XO X Γ B ρ lo ml) (hh : XO X Γ B ρ hi mh) : XE X Γ B ρ (.Subscript a (.Slice lo hi none p2) pos) (m.bind fun xs => ml.bind fun l => mh.bind fun h => some (TL.mk (cut xs.l l h))) := imE (pe_slice sl_tupA ha hl hh) fun σ H Q ⟨G, z, A, e, q⟩ => by
  cases m with
  | none => cases e
  | some xs =>
    cases ml with
    | none => cases e
    | some l =>
      cases mh with
      | none => cases e
      | some h =>
        cases e
        refine ⟨G, xs, A, rfl, fun v1 G1 H1 g1 ⟨p, vs, h1, h2, h3⟩ => ⟨G1, l, A.grow g1, rfl, fun G2 H2 g2 => ⟨G2, h, A.grow (g1.trans g2), rfl, fun G3 H3 g3 => ?_⟩⟩⟩
        have l23 := g2.leG.trans g3.leG
        have hp : G3 p = some (.tup vs) := l23 _ _ h2
        have g123 := (g1.trans g2).trans g3
        refine ⟨p, vs, h1, SqT.of (g3.sub.tup hp), fun hw => ?_, fun hw q1 hq => ?_⟩
        · refine q (.ref p) G3 H3 g123 ⟨p, vs, rfl, hp, ?_⟩
          have : cut xs.l l h = xs.l := by
            unfold cut
            rw [h3.length] at hw
            rw [hw.1, hw.2]
            simp
          rw [this]
          exact h3.mono l23
        · have g4 := Grow.new g3.sub hq (.tup (cutV vs l h))
          exact q (.ref q1) _ _ (g123.trans g4) ⟨q1, _, rfl, upd_same, RpL.mono (l23.trans g4.leG) (cutV_rep h3 l h)⟩
theorem xc_tnotIn (c : Cok X Γ N sc k) {κ : Type} [KT κ] [Rp κ] [TKey κ] [DecidableEq κ] {md : Option (List (κ × α))} {mk : Option κ} (ha : XE X Γ B ρ a mk) (hb : XDT X Γ B ρ b md) : XC X Γ B ρ .NotIn a b (b2 mk md fun x d => some (!(look d x).isSome)) := imC (pc_dnotin c.hu ha hb) fun σ H Q ⟨G, z, A, e, q⟩ => by
  cases mk with
  | none => cases e
  | some x =>
    cases md with
    | none => cases e
    | some d =>
      cases e
      refine ⟨G, x, A, rfl, fun v G1 H1 g1 r1 => ⟨G1, d, A.grow g1, rfl, fun p kvs G2 H2 g2 hp r2 => ?_⟩⟩
      obtain ⟨t, e1, e2⟩ := TKey.tup (Rp.mono g2.leG r1)
      refine ⟨p, valV kvs (keys x), rfl, .inr ⟨kvs, keys x, t, hp, e1, g2.sub.tup e2, rfl⟩, q _ G2 H2 (g1.trans g2) ?_⟩
      show V.bl _ = V.bl _
      cases hl : look d x with
      | none => rw [(RpT.look (x := x) r2).2 hl]; rfl
      | some y =>
        obtain ⟨v', hv, _⟩ := (RpT.look (x := x) r2).1 y hl
        rw [hv]; rfl
end

/-! ### a def that changes one object handed to it last -/
/-- all that a call may do to the heap: one object changes, new ones come -/
structure GrowX (p : Addr) (G H G' H' : Hp) : Prop where
  leG : Le G G'
  keep : ∀ a o, a ≠ p → H a = some o → H' a = some o
  live : ∀ a, H a ≠ none → H' a ≠ none
  sub : Sub G' H'
  thin : ∀ a, H a ≠ none → G a = none → Th (H a) (G' a)
def specI (Γ : Gm) {τ β Z δ : Type} [RpA τ] [Rp β] [I : Ow δ] (mk : Z → δ) (f : τ → Z → Option (β × Z)) : Sp := fun vs H Q _ => ∃ G t z b z' ws p, Sub G H ∧ vs = ws ++ [.ref p] ∧ repA Γ G ws t ∧ G p = none ∧ own Γ G H (.ref p) [p] (mk z) ∧ f t z = some (b, z') ∧
  ∀ v G' H', GrowX p G H G' H' → rep Γ G' v b → own Γ G' H' (.ref p) [p] (mk z') → Q v H'
structure CalI (Γ : Gm) (x : Str) (k : Nat) {τ β Z δ : Type} [RpA τ] [Rp β] [I : Ow δ] (mk : Z → δ) (f : τ → Z → Option (β × Z)) : Prop where
  ex : ∃ a fd ps, FnOk Γ.P Γ.w Γ.K Γ.mg Γ.base CX0 k a fd ps (specI Γ mk f) ∧ Γ.mg x = some (.ref a) ∧ PySem.W.keepIn Γ.K (.ref a) = true ∧ Binds Γ.K fd ps []
theorem CalI.mono {Γ : Gm} {x : Str} {j k : Nat} {τ β Z δ : Type} [RpA τ] [Rp β] [I : Ow δ] {mk : Z → δ} {f : τ → Z → Option (β × Z)} (h : CalI Γ x j mk f) (hk : j ≤ k) : CalI Γ x k mk f := by
  obtain ⟨a, fd, ps, F, h1, h2, h3⟩ := h.ex
  exact ⟨a, fd, ps, F.mono hk, h1, h2, h3⟩
/-- such an object lies at one address -/
class One {δ : Type} (I : Ow δ) : Prop where
  one : ∀ {Γ : Gm} {G H : Hp} {v : V} {fp : List Addr} {a : δ}, I.own Γ G H v fp a → ∃ p, v = .ref p ∧ fp = [p]
instance {α : Type} [Rp α] : One (instOwOL (α := α)) := ⟨fun ⟨a, vs, h1, h2, _⟩ => ⟨a, h1, h2⟩⟩
instance {κ α : Type} [K1 κ] [Rp α] : One (instOwOK (κ := κ) (α := α)) := ⟨fun ⟨a, vs, h1, h2, _⟩ => ⟨a, h1, h2⟩⟩
instance {κ α : Type} [KT κ] [Rp α] : One (instOwOT (κ := κ) (α := α)) := ⟨fun ⟨a, vs, h1, h2, _⟩ => ⟨a, h1, h2⟩⟩
section
variable {Γ : Gm} {x : Str} {st : Stmt} {N ps : List Str} {k : Nat} {τ β Z δ : Type} [RpA τ] [Rp β] [I : Ow δ] {mk : Z → δ}
theorem at_startI {G H : Hp} {vs : List V} {t : τ} {p : Addr} {z : Z} (s : Sub G H) (r : repA Γ G vs t) (hn : RpA.num τ + 1 ≤ N.length) (hp : G p = none) (ow' : own Γ G H (.ref p) [p] (mk z)) :
    At Γ ⟨G, H, [p], L2.start N (vs ++ [.ref p]), [RpA.num τ]⟩ (stoA t ++ ow (mk z) :: deads (N.length - RpA.num τ - 1)) G H (L2.start N (vs ++ [.ref p])) := by
  have q := RpA.okA (H := H) r
  have hl : (stoA t).length = RpA.num τ := RpA.lenA t
  refine ⟨s, .refl _, fun _ _ _ h => h, fun _ h => h, fun _ _ _ h => .inl h, ⟨fun i => if i = RpA.num τ then [p] else [], ⟨by simp [L2.start, hl, q.1]; omega, fun i sl e => ?_, fun i j x h h' => ?_, fun i hi => ?_⟩, fun i a h => ?_⟩, fun _ _ => rfl⟩
  · unfold L2.start
    by_cases hi : i < RpA.num τ
    · rw [List.getElem?_append_left (by rw [hl]; exact hi)] at e
      obtain ⟨v, q1, q2⟩ := q.2 i sl e
      refine ⟨some v, ?_, by rw [if_neg (by omega)]; exact q2⟩
      rw [List.getElem?_append_left (by simp [q.1]; omega), List.getElem?_map, List.getElem?_append_left (by rw [q.1]; exact hi), q1]
      rfl
    · rw [List.getElem?_append_right (by rw [hl]; omega), hl] at e
      by_cases hi2 : i = RpA.num τ
      · subst hi2
        simp at e
        subst e
        refine ⟨some (.ref p), ?_, .ref p, rfl, by rw [if_pos rfl]; exact ow'⟩
        rw [List.getElem?_append_left (by simp [q.1]), List.getElem?_map, List.getElem?_append_right (by rw [q.1]; exact Nat.le_refl _), q.1]
        simp
      · obtain ⟨n, hn2⟩ : ∃ n, i - RpA.num τ = n + 1 := ⟨i - RpA.num τ - 1, by omega⟩
        rw [hn2, List.getElem?_cons_succ] at e
        obtain ⟨e1, e2⟩ := get_rep e
        subst e1
        refine ⟨none, ?_, by rw [if_neg hi2]; exact rfl⟩
        rw [List.getElem?_append_right (by simp [q.1]; omega), List.getElem?_replicate, if_pos]
        simp [q.1]
        omega
  · by_cases e1 : i = RpA.num τ <;> by_cases e2 : j = RpA.num τ
    · rw [e1, e2]
    · rw [if_neg e2] at h'; simp at h'
    · rw [if_neg e1] at h; simp at h
    · rw [if_neg e1] at h; simp at h
  · rw [if_neg]
    intro e
    rw [e, List.length_append, hl] at hi
    simp at hi
    omega
  · dsimp only at h
    by_cases e1 : i = RpA.num τ
    · rw [if_pos e1] at h
      rw [List.mem_singleton.mp h]
      exact ⟨hp, .inr (by simp)⟩
    · rw [if_neg e1] at h; simp at h
/-- a def's own outcomes -/
abbrev ktI (β : Type) {Z δ : Type} [Ow δ] (mk : Z → δ) (i n : Nat) : Kt Empty β Z := ⟨fun l => l.elim, fun l => l.elim, fun c => (deads n).set i (ow (mk c)), false, fun _ _ _ _ => False⟩
def retI {S β Z : Type} : Fl S Empty β Z → Option (β × Z)
  | .nx _ => none
  | .ret b c => some (b, c)
  | .bk l => l.elim
  | .ct l => l.elim
  | .err _ _ => none
theorem calI_of [O : One I] {S : Type} {sto : S → Sto} (D : Def Γ x st ps) (Sc : FnScope N ps (defScope st)) {m : τ → Z → Option (Fl S Empty β Z)} (hps : RpA.num τ + 1 = ps.length)
    (hb : ∀ (X : Cx) (B : Bs) (t : τ) (z : Z) (p : Addr), Dok X Γ B N (defScope st) k [RpA.num τ] (fun _ _ _ _ => False) [p] → XB X Γ B (ktI β mk (RpA.num τ) N.length) (stoA t ++ ow (mk z) :: deads (N.length - RpA.num τ - 1)) (defBody st) (m t z) sto)
    (fm : τ → Z → Option (β × Z)) (hm : ∀ t z, fm t z = (m t z).bind retI) : CalI Γ x (k + 1) mk fm := by
  obtain ⟨a, fd, F, hg, bi⟩ := D.ex
  refine ⟨a, fd, ps, F.ok Sc (fun vs H Q E h => ?_) (fun cdv A outer s H vs Q E hr h => ?_), hg, F.kp, bi⟩
  · obtain ⟨G, t, z, b, z', ws, p, h1, h2, h3, _⟩ := h
    rw [h2, List.length_append, (RpA.okA (H := H) h3).1]
    exact hps
  · obtain ⟨G, t, z, b, z', ws, p, h1, h2, h3, h4, h5, h6, q⟩ := h
    have hN : RpA.num τ + 1 ≤ N.length := by
      rw [hps]
      have z := congrArg List.length Sc.pre
      rw [List.length_take] at z
      omega
    subst h2
    have A0 := at_startI (N := N) h1 h3 hN h4 h5
    have q1 := (RpA.okA (H := H) h3).1
    refine ⟨_, hb _ ⟨G, H, [p], L2.start N (ws ++ [.ref p]), [RpA.num τ]⟩ t z p ⟨⟨rfl, rfl, rfl, rfl, rfl, rfl, Sc.nd, rfl, rfl, hr⟩, PassesOwn.never, fun _ => rfl, takes0, rfl, rfl, rfl, rfl⟩, ?_⟩
    rw [hm] at h6
    cases e : m t z with
    | none => rw [e] at h6; cases h6
    | some r =>
      rw [e] at h6
      refine ⟨G, r, A0, by first | exact e | rfl, ?_⟩
      cases r with
      | nx s1 => cases h6
      | bk l => exact l.elim
      | ct l => exact l.elim
      | ret b' c =>
        have h6 : some (b', c) = some (b, z') := h6
        cases h6
        intro v G' H' σ' A' r _
        have hlen : RpA.num τ < (deads N.length).length := by simp [deads]; omega
        obtain ⟨φ, s1, s2⟩ := A'.slots
        obtain ⟨o, e1, u, e2, ow2⟩ := s1.ok (RpA.num τ) (ow (mk z')) (by show ((deads N.length).set _ _)[_]? = _; rw [List.getElem?_set_self hlen])
        obtain ⟨p', hp1, hp2⟩ := One.one (I := I) ow2
        have fx := A'.fix (RpA.num τ) (by simp)
        have e3 : (L2.start N (ws ++ [.ref p]))[RpA.num τ]? = some (some (.ref p)) := by
          unfold L2.start
          rw [List.getElem?_append_left (by simp [q1]), List.getElem?_map, List.getElem?_append_right (by rw [q1]; exact Nat.le_refl _), q1]
          simp
        rw [e1, e2, hp1] at fx
        rw [show ({ G := G, H := H, M := [p], σ := L2.start N (ws ++ [.ref p]), fx := [RpA.num τ] } : Bs).σ[RpA.num τ]? = some (some (.ref p)) from e3] at fx
        have ep : p' = p := by
          have := Option.some.inj fx
          have := Option.some.inj this
          injection this
        subst ep
        have gp : G' p' = none := (s2 (RpA.num τ) p' (by rw [hp2]; simp)).1
        rw [hp1, hp2] at ow2
        refine q v G' H' ⟨A'.le, fun a o ha e => A'.keep a o (by simpa using ha) e, A'.live, A'.sub, fun a ha hg => ?_⟩ r ow2
        by_cases za : a = p'
        · rw [za]; exact .inl gp
        · exact A'.thin a (by simpa using za) ha hg
      | err e' c => cases h6
theorem calI_none (D : Def Γ x st ps) (Sc : FnScope N ps (defScope st)) (hps : RpA.num τ + 1 = ps.length) [O : One I] : CalI Γ x 1 mk (fun (_ : τ) (_ : Z) => (none : Option (β × Z))) :=
  calI_of (S := Empty) (sto := fun s => s.elim) (m := fun _ _ => none) D Sc hps (fun X B t z p d => ⟨fun pins s σ H D I ⟨G, r, A, e, q⟩ => by cases e⟩) _ fun _ _ => rfl
end
/-! ### its calls -/
/-- arguments, the object at slot i last -/
def cAI (Γ : Gm) (B : Bs) (ρ : Sto) (i : Nat) {τ : Type} [RpA τ] (m : Option τ) : TA := fun σ H Q => ∃ G a, At Γ B ρ G H σ ∧ m = some a ∧ ∀ vs v G' H', Grow G H G' H' → repA Γ G' vs a → σ[i]? = some (some v) → Q (vs ++ [v]) H'
abbrev XAI (X : Cx) (Γ : Gm) (B : Bs) (ρ : Sto) (i : Nat) (es : List Expr) {τ : Type} [RpA τ] (m : Option τ) : Prop := PA X es (cAI Γ B ρ i m)
section
variable {X : Cx} {Γ : Gm} {B : Bs} {ρ : Sto} {N : List Str} {sc : Scope} {k j : Nat} {pos p p' : Pos} {e a b : Expr} {es : List Expr} {x y : Str} {α τ β Z δ S : Type} [Rp α] [RpA τ] [Rp β] [I : Ow δ] {mk : Z → δ} {sto : S → Sto}
theorem xai_last (c : Cok X Γ N sc k) {i : Nat} {z : δ} (hi : ρ[i]? = some (.own δ I z)) (hN : N[i]? = some x) (hv : Vis sc x) (hd : (x == ("__debug__" : Str)) = false := by decide) (hcd : (x == ("__classdict__" : Str)) = false := by decide) (hs : starEach [.Name x p] X.env = (false, eval (.Name x p) X.env) :: starEach [] X.env := by rfl) :
    XAI X Γ B ρ i [.Name x p] (some ()) := imA (pa_cons (pv_ c hN hv hd hcd) pa_nil hs) fun σ H Q ⟨G, z, A, e, q⟩ => by
  cases e
  obtain ⟨v, fp, h1, h2, h3⟩ := A.getO hi
  exact ⟨v, h1, q [] v G H (.refl A.sub) rfl h1⟩
theorem xai_cons {i : Nat} {m : Option α} {mt : Option τ} (he : XE X Γ B ρ e m) (ht : XAI X Γ B ρ i es mt) (hs : starEach (e :: es) X.env = (false, eval e X.env) :: starEach es X.env := by rfl) : XAI X Γ B ρ i (e :: es) (b2 m mt fun a t => some (a, t)) := imA (pa_cons he ht hs) fun σ H Q ⟨G, z, A, e, q⟩ => by
  cases m with
  | none => cases e
  | some y =>
    cases mt with
    | none => cases e
    | some t =>
      cases e
      exact ⟨G, y, A, rfl, fun v G1 H1 g1 r1 => ⟨G1, t, A.grow g1, rfl, fun vs u G2 H2 g2 r2 hu => q (v :: vs) u G2 H2 (g1.trans g2) ⟨v, vs, rfl, Rp.mono g2.leG r1, r2⟩ hu⟩⟩
theorem xf_callI [O : One I] (c : Cok X Γ N sc k) (i : Nat) {z0 : Z} {f : τ → Z → Option (β × Z)} {mt : Option τ} (h : CalI Γ x j mk f) (hk : j ≤ k) (hg : Glb sc x) (hi : ρ[i]? = some (ow (mk z0))) (ha : XAI X Γ B ρ i (e :: es) mt) (hdb : (x == ("__debug__" : Str)) = false := by decide) (he : starEach (e :: es) X.env = (false, eval e X.env) :: starEach es X.env := by rfl) (hpl : (backTo pos (starEach es X.env)).any (·.1) = false := by rfl) :
    XF X Γ B ρ (.Call (.Name x p) (e :: es) [] pos) (mt.bind fun t => f t z0) (fun z => ρ.set i (ow (mk z))) := by
  obtain ⟨a, fd, ps, F, hm, kp, bi⟩ := h.ex
  refine imE (pe_call (dvs := []) (CX := CX0) (E := E0) (by rw [c.hP, c.hw, c.hK, c.hmg, c.hbase]; exact F) (c.room.mono hk) (c.gl hg) (by rw [c.hmg]; exact hm) (by rw [c.hK]; exact kp) (by rw [c.hK]; exact bi) .nil pass0 ha hdb he hpl) fun σ H Q ⟨G, b, z', A, e, q⟩ => ?_
  cases mt with
  | none => cases e
  | some t =>
    refine ⟨G, t, A, rfl, fun vs v G1 H1 g1 r1 hv => ?_⟩
    show specI Γ mk f ((vs ++ [v]) ++ []) H1 Q E0
    rw [List.append_nil]
    have A1 := A.grow g1
    obtain ⟨v2, fp, h1, h2, h3, h4⟩ := A1.openO hi
    rw [hv] at h1
    cases h1
    obtain ⟨q1, hq1, hq2⟩ := One.one (I := I) h2
    subst hq1 hq2
    refine ⟨G1, t, z0, b, z', vs, q1, g1.sub, rfl, r1, h3 q1 (by simp), h2, e, fun v G2 H2 g2 r2 o2 => ?_⟩
    refine q v G2 H2 (g1.leG.trans g2.leG) (h4 δ I (mk z') G2 H2 [q1] g2.leG g2.sub g2.thin (fun x o hx e => g2.keep x o (by simpa using hx) e) (fun x hx => ?_) (fun x hx => .inl hx) o2) r2
    rw [List.mem_singleton.mp hx]
    exact g2.live q1 ((Ow.there h2) q1 (by simp))
/-- .. a new dict handed to it -/
theorem xe_callI0 {κ α' : Type} [KT κ] [Rp α'] {f : τ → List (κ × α') → Option (β × List (κ × α'))} (c : Cok X Γ N sc k) {mt : Option τ} (h : CalI Γ x j (OT.mk (κ := κ) (α := α')) f) (hk : j ≤ k) (hg : Glb sc x) (hs : PA X (e :: es) (fun σ H Q => cA Γ B ρ mt σ H fun vs H1 => ∀ q, H1 q = none → Q (vs ++ [.ref q]) (upd H1 q (.dT []))))
    (hdb : (x == ("__debug__" : Str)) = false := by decide) (he : starEach (e :: es) X.env = (false, eval e X.env) :: starEach es X.env := by rfl) (hpl : (backTo pos (starEach es X.env)).any (·.1) = false := by rfl) :
    XE X Γ B ρ (.Call (.Name x p) (e :: es) [] pos) (mt.bind fun t => (f t []).bind fun q => some q.1) := by
  obtain ⟨a, fd, ps, F, hm, kp, bi⟩ := h.ex
  refine imE (pe_call (dvs := []) (CX := CX0) (E := E0) (by rw [c.hP, c.hw, c.hK, c.hmg, c.hbase]; exact F) (c.room.mono hk) (c.gl hg) (by rw [c.hmg]; exact hm) (by rw [c.hK]; exact kp) (by rw [c.hK]; exact bi) .nil pass0 hs hdb he hpl) fun σ H Q ⟨G, b, A, e, q⟩ => ?_
  cases mt with
  | none => cases e
  | some t =>
    refine ⟨G, t, A, rfl, fun vs G1 H1 g1 r1 d hd => ?_⟩
    show specI Γ (OT.mk (κ := κ) (α := α')) f ((vs ++ [.ref d]) ++ []) (upd H1 d (.dT [])) Q E0
    rw [List.append_nil]
    have e : ((f t []).bind fun q => some q.1) = some b := e
    cases hf : f t [] with
    | none => rw [hf] at e; cases e
    | some r =>
      rw [hf] at e
      cases e
      have g2 := Grow.newO g1.sub hd (.dT [])
      refine ⟨G1, t, [], r.1, r.2, vs, d, g2.sub, rfl, r1, g1.sub.none hd, ⟨d, [], rfl, rfl, upd_same, .nil⟩, hf, fun v G3 H3 g3 r3 o3 => ?_⟩
      refine q v G3 H3 (g1.trans ⟨g3.leG, fun a o ho => ?_, g3.sub, fun a ha hg => ?_⟩) r3
      · have z : a ≠ d := fun z => by rw [z, hd] at ho; cases ho
        exact g3.keep a o z (by rw [upd_ne z]; exact ho)
      · have z : a ≠ d := fun z => ha (by rw [z]; exact hd)
        have t := g3.thin a (by rw [upd_ne z]; exact ha) hg
        rw [upd_ne z] at t
        exact t
/-- the arguments of such a call -/
theorem xa0_last {p3 : Pos} (hs : starEach [.Dict [] [] p3] X.env = (false, eval (.Dict [] [] p3) X.env) :: starEach [] X.env := by rfl) : PA X [.Dict [] [] p3] (fun σ H Q => cA Γ B ρ (some ()) σ H fun vs H1 => ∀ q, H1 q = none → Q (vs ++ [.ref q]) (upd H1 q (.dT []))) :=
  imA (pa_cons pe_dnewT pa_nil hs) fun σ H Q ⟨G, z, A, e, q⟩ => by
  cases e
  exact fun d hd => q [] G H (.refl A.sub) rfl d hd
theorem xa0_cons {m : Option α} {mt : Option τ} (he : XE X Γ B ρ e m) (ht : PA X es (fun σ H Q => cA Γ B ρ mt σ H fun vs H1 => ∀ q, H1 q = none → Q (vs ++ [.ref q]) (upd H1 q (.dT [])))) (hs : starEach (e :: es) X.env = (false, eval e X.env) :: starEach es X.env := by rfl) :
    PA X (e :: es) (fun σ H Q => cA Γ B ρ (b2 m mt fun a t => some (a, t)) σ H fun vs H1 => ∀ q, H1 q = none → Q (vs ++ [.ref q]) (upd H1 q (.dT []))) := imA (pa_cons he ht hs) fun σ H Q ⟨G, z, A, e, q⟩ => by
  cases m with
  | none => cases e
  | some y =>
    cases mt with
    | none => cases e
    | some t =>
      cases e
      exact ⟨G, y, A, rfl, fun v G1 H1 g1 r1 => ⟨G1, t, A.grow g1, rfl, fun vs G2 H2 g2 r2 d hd => q (v :: vs) G2 H2 (g1.trans g2) ⟨v, vs, rfl, Rp.mono g2.leG r1, r2⟩ d hd⟩⟩
/-! ### what is reckoned with such a call in it -/
/-- an operation on values that no heap has a part in, the right one changing the store -/
theorem xf_op2R {α γ β : Type} [At1 α] [Rp β] [Rp γ] {op : Operator} {r : R2} {f : α → β → Option γ} {ma : Option α} {mb : Option (β × S)} (ho : OpR X (binaryOp op) r) (hf : Op2 Γ r f) (ha : XE X Γ B ρ a ma) (hb : XF X Γ B ρ b mb sto) :
    XF X Γ B ρ (.BinOp a op b pos) (ma.bind fun x => mb.bind fun q => (f x q.1).bind fun z => some (z, q.2)) sto := imE (pe_op ho ha hb) fun σ H Q ⟨G, z, s, A, e, q⟩ => by
  cases ma with
  | none => cases e
  | some x =>
    cases mb with
    | none => cases e
    | some y =>
      have e : ((f x y.1).bind fun z => some (z, y.2)) = some (z, s) := e
      cases hz : f x y.1 with
      | none => rw [hz] at e; cases e
      | some w =>
        rw [hz] at e
        cases e
        refine ⟨G, x, A, rfl, fun v1 G1 H1 g1 r1 => ⟨G1, y.1, y.2, A.grow g1, rfl, fun v2 G2 H2 l2 A2 r2 => ?_⟩⟩
        exact hf G2 H2 v1 v2 x y.1 _ A2.sub (by rw [rep1 r1]; exact rfl) r2 hz Q fun v G3 H3 g3 r3 => q v G3 H3 ((g1.leG.trans l2).trans g3.leG) (A2.grow g3) r3
theorem xf_max2R (c : Cok X Γ N sc k) {ma : Option Int} {mb : Option (Int × S)} (ha : XE X Γ B ρ a ma) (hb : XF X Γ B ρ b mb sto) (hg : Glb sc "max") (hm : Γ.mg "max" = none) (s1 : starEach [a, b] X.env = (false, eval a X.env) :: starEach [b] X.env := by rfl) (s2 : starEach [b] X.env = (false, eval b X.env) :: starEach [] X.env := by rfl) (hpl : (backTo pos (starEach [b] X.env)).any (·.1) = false := by rfl) :
    XF X Γ B ρ (.Call (.Name "max" p) [a, b] [] pos) (ma.bind fun x => mb.bind fun q => some (maxI x q.1, q.2)) sto :=
  imE (pe_callB (call_max2 c.calm) (c.gl hg) (by rw [c.hmg]; exact hm) PyProof.Rows.boot_max (pa_cons ha (pa_cons hb pa_nil s2) s1) (he := s1) (hpl := hpl)) fun σ H Q ⟨G, z, s, A, e, q⟩ => by
  cases ma with
  | none => cases e
  | some x =>
    cases mb with
    | none => cases e
    | some y =>
      cases e
      refine ⟨G, x, A, rfl, fun v1 G1 H1 g1 r1 => ⟨G1, y.1, y.2, A.grow g1, rfl, fun v2 G2 H2 l2 A2 r2 => ?_⟩⟩
      exact ⟨x, y.1, by rw [rep1 r1, rep1 r2]; rfl, q _ G2 H2 (g1.leG.trans l2) A2 rfl⟩
end
theorem ol_fp {Γ : Gm} {α : Type} [Rp α] {xs : List α} : ∀ G H v fp, Ow.own Γ G H v fp (OL.mk xs) → ∀ p, v = .ref p → p ∈ fp := fun _ _ _ _ ⟨a, vs, h1, h2, _⟩ p e => by
  rw [h1] at e
  injection e with e
  rw [h2, e]; simp
/-! ### a new list from a call -/
section
variable {X : Cx} {Γ : Gm} {B : Bs} {ρ : Sto} {N : List Str} {sc : Scope} {k j : Nat} {pos p p' : Pos} {e a b : Expr} {es : List Expr} {x y : Str} {α τ : Type} [Rp α] [RpA τ]
/-- the frozen heap less one object -/
theorem xn_callEF [Flat α] (c : Cok X Γ N sc k) {f : τ → Option (Except Er (List α))} {mt : Option τ} (h : CalE Γ x j true f) (hk : j ≤ k) (hg : Glb sc x) (ha : XA X Γ B ρ (e :: es) mt) (hdb : (x == ("__debug__" : Str)) = false := by decide) (he : starEach (e :: es) X.env = (false, eval e X.env) :: starEach es X.env := by rfl) (hpl : (backTo pos (starEach es X.env)).any (·.1) = false := by rfl) :
    XN X Γ B ρ (.Call (.Name x p) (e :: es) [] pos) (mt.bind fun t => (f t).bind okOf) := by
  obtain ⟨a, fd, ps, F, hm, kp, bi⟩ := h.ex
  refine imE (pe_call (dvs := []) (CX := L2.CX X.prog X.w) (E := E0) (by rw [c.hP, c.hw, c.hK, c.hmg, c.hbase]; exact F) (c.room.mono hk) (c.gl hg) (by rw [c.hmg]; exact hm) (by rw [c.hK]; exact kp) (by rw [c.hK]; exact bi) .nil passL ha hdb he hpl) fun σ H Q ⟨G, z, A, e, q⟩ => ?_
  cases mt with
  | none => cases e
  | some t =>
    refine ⟨G, t, A, rfl, fun vs G1 H1 g1 r1 => ?_⟩
    show specE Γ true f (vs ++ []) H1 Q E0
    rw [List.append_nil]
    have e : (f t).bind okOf = some z := e
    cases hf : f t with
    | none => rw [hf] at e; cases e
    | some r =>
      rw [hf] at e
      cases r with
      | error er => cases e
      | ok b =>
        cases e
        refine ⟨G1, t, .ok _, g1.sub, r1, hf, fun v G2 H2 g2 ⟨d, us, hv, hd, rl⟩ fr => ?_⟩
        subst hv
        have hd1 : H1 d = none := fr rfl d rfl
        have hdH : H d = none := by
          cases q : H d with
          | none => rfl
          | some o => rw [g1.leH d o q] at hd1; cases hd1
        have hd2 : H2 d = some (.lst us) := g2.sub _ _ hd
        -- the heap as it is less the new list
        let H3 : Hp := fun a => if a = d then none else H2 a
        have e3 : H2 = upd H3 d (.lst us) := by
          funext a
          by_cases z : a = d
          · subst z; rw [upd_same, hd2]
          · rw [upd_ne z]; show H2 a = if a = d then none else H2 a
            rw [if_neg z]
        rw [e3]
        refine q d us G H3 ⟨.refl _, fun a o ho => ?_, fun a o ho => ?_, fun _ _ h => .inl h⟩ (by show (if d = d then none else H2 d) = none; rw [if_pos rfl]) rl.flat
        · have z : a ≠ d := fun z => by rw [z, hdH] at ho; cases ho
          show (if a = d then none else H2 a) = some o
          rw [if_neg z]
          exact g2.leH _ _ (g1.leH _ _ ho)
        · have ho2 := A.sub _ _ ho
          have z : a ≠ d := fun z => by rw [z, hdH] at ho2; cases ho2
          show (if a = d then none else H2 a) = some o
          rw [if_neg z]
          exact g2.leH _ _ (g1.leH _ _ ho2)
end
end Sim

set_option Elab.async false
set_option autoImplicit false
set_option linter.all false
set_option maxRecDepth 100000
set_option maxHeartbeats 1000000
namespace Sim
open PySem PySem.Spec PyProof.Rows L2
open Rp (rep)
open RpA (repA stoA)
/-! ### from the head's facts -/
theorem fun_of {K : PySem.W.Frag} {x qual : Str} {st : Stmt} {f : Addr} {fd : FuncData} (F : FunD K x qual (defArgs st) (defBody st) (defScope st) [] [] f fd) : Fun K x qual st f fd := by
  obtain ⟨oc, od, dV, kV, doc, pm, an, cdv, ct, osl, h1, h2, h3, h4, h5⟩ := F.ex
  rcases h4 with ⟨_, h4⟩ | ⟨h4, _⟩
  · subst h4
    exact ⟨⟨oc, od, kV, doc, pm, an, cdv, ct, osl, h1, h2, h3⟩, F.kp⟩
  · exact absurd rfl h4
theorem def_ok {Γ : Gm} {x : Str} {st : Stmt} {ps : List Str} {f : Addr} {fd : FuncData} (F : FunD Γ.K x x (defArgs st) (defBody st) (defScope st) [] [] f fd) (hg : Γ.mg x = some (.ref f))
    (h : ∀ (kV doc pm : Value) (an : Option Addr) (cdv ct : Value) (us : List Value), us.length = ps.length → bindArgs (PySem.W.fnOf x x (defArgs st) (defBody st) (defScope st) .none kV doc pm an cdv ct) ⟨us, []⟩ = pure (ps.zip us)) : Def Γ x st ps :=
  ⟨f, fd, fun_of F, hg, fun s us _ hl => by
    rw [List.append_nil] at hl ⊢
    exact F.bindsA h s us hl⟩
section
variable {Γ : Gm} {x : Str} {st : Stmt} {N ps : List Str} {k : Nat} {τ β : Type} [RpA τ] [Rp β] {fr : Bool} {S : Type} {sto : S → Sto}
/-- the rule for a def that is pure, its function given -/
theorem fnok_of {a : Addr} {fd : FuncData} (F : Fun Γ.K x x st a fd) (Sc : FnScope N ps (defScope st)) {m : τ → Option (Fl S Empty β Unit)} (fin : S → β) (hfin : ∀ s (G : Hp), rep Γ G .non (fin s)) (hps : RpA.num τ = ps.length)
    (hb : ∀ (X : Cx) (B : Bs) (t : τ), Dok X Γ B N (defScope st) k [] (fun _ _ _ _ => False) [] → XB X Γ B (ktP β fr N.length) (stoA t ++ deads (N.length - RpA.num τ)) (defBody st) (m t) sto) (fm : τ → Option β) (hm : ∀ t, fm t = (m t).bind (retP fin)) : FnOk Γ.P Γ.w Γ.K Γ.mg Γ.base CX0 (k + 1) a fd ps (specP Γ fr fm) := by
  refine F.ok Sc (fun vs H Q E h => ?_) (fun cdv A outer s H vs Q E hr h => ?_)
  · obtain ⟨G, t, b, h1, h2, _⟩ := h
    rw [(RpA.okA (H := H) h2).1, hps]
  · obtain ⟨G, t, b, h1, h2, h3, q⟩ := h
    have hN : RpA.num τ ≤ N.length := by
      rw [hps]
      have z := congrArg List.length Sc.pre
      rw [List.length_take] at z
      omega
    have A0 := at_start (fx := []) h1 h2 hN
    refine ⟨_, hb _ ⟨G, H, [], L2.start N vs, []⟩ t ⟨⟨rfl, rfl, rfl, rfl, rfl, rfl, Sc.nd, rfl, rfl, hr⟩, PassesOwn.never, fun _ => rfl, takes0, rfl, rfl, rfl, rfl⟩, ?_⟩
    rw [hm] at h3
    cases e : m t with
    | none => rw [e] at h3; cases h3
    | some r =>
      rw [e] at h3
      refine ⟨G, r, A0, by first | exact e | rfl, ?_⟩
      cases r with
      | nx s1 =>
        have h3 : some (fin s1) = some b := h3
        have h3 := Option.some.inj h3
        subst h3
        intro G' H' σ' A'
        exact q .non G' H' A'.grown (hfin s1 G') fun _ p z => by cases z
      | bk l => exact l.elim
      | ct l => exact l.elim
      | ret b' c =>
        have h3 : some b' = some b := h3
        have h3 := Option.some.inj h3
        subst h3
        intro v G' H' σ' A' r f
        exact q v G' H' A'.grown r f
      | err e' c => cases h3
end
/-- where the law begins -/
theorem law_start {Γ : Gm} {m : Scr × Unit → Option Bool} {H : Hp} {a : Addr} {ns : List Int} (hS : SqL Γ.K H a (ns.map V.int)) (h : m (⟨ns⟩, ()) = some true) {E : XK} : specP Γ false m [.ref a] H (fun v _ => v = .bl true) E :=
  ⟨H, (⟨ns⟩, ()), true, fun _ _ q => q, ⟨.ref a, [], rfl, ⟨a, rfl, hS⟩, rfl⟩, h, fun v G' H' _ r _ => r⟩
theorem ext_ok {Γ : Gm} {x : Str} {n : Nat} {h : Heap} (X : Γ.K.In h) (G : h.Ns mainGlobals Γ.mg) (hC : Γ.C n = He.ga Γ.K x) (c1 : (He.Fa.glo x).ok Γ.K = true) (c2 : (He.Fa.exc x).ok Γ.K = true) : ExT Γ x n := by
  obtain ⟨h1, h2, h3, h4⟩ := He.exc_ok c2
  refine ⟨?_, ?_, ?_, ?_, ?_⟩
  · rw [hC]; exact He.glo_ok X G c1
  all_goals rw [hC]
  · exact h2
  · exact h1
  · exact h3
  · exact h4
end Sim

set_option Elab.async false
set_option autoImplicit false
set_option linter.all false
set_option maxRecDepth 100000
set_option maxHeartbeats 1000000
namespace Sim
open PySem PySem.Spec PyProof.Rows L2
open Rp (rep)
open At1 (toV)
open K1 (key)
open KT (keys)
open Ow (own)
open Dat (toD)
open RpA (repA stoA)
section
variable {X : Cx} {Γ : Gm} {B : Bs} {L β C : Type} [Rp β] {F : Kt L β C} {ρ ρ' : Sto} {N : List Str} {sc : Scope} {k : Nat} {fx : List Nat} {W : WX} {M : List Addr} {pos p p' p2 : Pos} {e a b o tg it elt kx : Expr} {st : Stmt} {sts rest body : List Stmt} {es : List Expr} {S S1 : Type} {sto : S → Sto}
variable {α γ : Type} [Rp α] [Rp γ]
/-- == and != of lists that are read -/
theorem xc_eqR (c : Cok X Γ N sc k) [DecidableEq α] [Dat α] {ma mb : Option (List α)} (ha : XR X Γ B ρ a ma) (hb : XR X Γ B ρ b mb) (hd : Dat.dep α ≤ 50 := by decide) : XC X Γ B ρ .Eq a b (b2 ma mb fun x y => some (decide (x = y))) := imC (pc_R (op_eqD c.hu64) ha hb) fun σ H Q ⟨G, z, A, e, q⟩ => by
  cases ma with
  | none => cases e
  | some x =>
    cases mb with
    | none => cases e
    | some y =>
      cases e
      refine ⟨G, x, A, rfl, fun p1 vs G1 H1 g1 hp r1 => ⟨G1, y, A.grow g1, rfl, fun p2 ws G2 H2 g2 hp2 r2 => ⟨.list (x.map toD), .list (y.map toD), ?_, ?_, dat_shapedL (by omega) x, dat_shapedL (by omega) y, q _ G2 H2 (g1.trans g2) ?_⟩⟩⟩
      · rw [c.hK]; exact .lst (SqL.of (g2.leH _ _ hp)) (DpAll.up g2.sub (dat_reads (r1.mono g2.leG)))
      · rw [c.hK]; exact .lst (SqL.of hp2) (DpAll.up g2.sub (dat_reads r2))
      · show V.bl _ = V.bl _
        have := Dat.eqv (α := List α) x y
        rw [show PyData.eqv (.list (x.map toD)) (.list (y.map toD)) = decide (x = y) from this]
theorem xc_neR (c : Cok X Γ N sc k) [DecidableEq α] [Dat α] {ma mb : Option (List α)} (ha : XR X Γ B ρ a ma) (hb : XR X Γ B ρ b mb) (hd : Dat.dep α ≤ 50 := by decide) : XC X Γ B ρ .NotEq a b (b2 ma mb fun x y => some (!decide (x = y))) := imC (pc_R (op_neD c.hu64) ha hb) fun σ H Q ⟨G, z, A, e, q⟩ => by
  cases ma with
  | none => cases e
  | some x =>
    cases mb with
    | none => cases e
    | some y =>
      cases e
      refine ⟨G, x, A, rfl, fun p1 vs G1 H1 g1 hp r1 => ⟨G1, y, A.grow g1, rfl, fun p2 ws G2 H2 g2 hp2 r2 => ⟨.list (x.map toD), .list (y.map toD), ?_, ?_, dat_shapedL (by omega) x, dat_shapedL (by omega) y, q _ G2 H2 (g1.trans g2) ?_⟩⟩⟩
      · rw [c.hK]; exact .lst (SqL.of (g2.leH _ _ hp)) (DpAll.up g2.sub (dat_reads (r1.mono g2.leG)))
      · rw [c.hK]; exact .lst (SqL.of hp2) (DpAll.up g2.sub (dat_reads r2))
      · show V.bl _ = V.bl _
        have := Dat.eqv (α := List α) x y
        rw [show PyData.eqv (.list (x.map toD)) (.list (y.map toD)) = decide (x = y) from this]
/-! ### tests that change the store -/
def cTF (Γ : Gm) (B : Bs) (ρ : Sto) {S : Type} (m : Option (Bool × S)) (sto : S → Sto) : TT := fun σ H Q => ∃ G b s, At Γ B ρ G H σ ∧ m = some (b, s) ∧ ∀ G' H', Le G G' → At Γ B (sto s) G' H' σ → Q b H'
abbrev XTF (X : Cx) (Γ : Gm) (B : Bs) (ρ : Sto) (e : Expr) {S : Type} (m : Option (Bool × S)) (sto : S → Sto) : Prop := PT X e (cTF Γ B ρ m sto)
theorem allEx {I : Type} {t : I → TE} (h : ∀ i, PE X e (t i)) : PE X e (fun σ H Q => ∃ i, t i σ H Q) := ⟨fun pins s σ H Q I ⟨i, q⟩ => (h i).run pins s σ H Q I q⟩
/-- the left side changes the store, the right one is read behind it -/
theorem xtf_cmpL {op : CmpOp} {r : R2} {f : α → γ → Option Bool} {ma : Option (α × S)} {mb : S → Option γ} (ho : OpR X (compareOp op) r) (hf : Op2 Γ r f) (ha : XF X Γ B ρ a ma sto) (hb : ∀ s, XE X Γ B (sto s) b (mb s)) (hm : behindInMarks op b = false := by rfl) :
    XTF X Γ B ρ (.Compare a [op] [b] pos) (ma.bind fun q => (mb q.2).bind fun y => (f q.1 y).bind fun z => some (z, q.2)) sto :=
  imT (pt_cmpR ho ha (allEx hb) hm) fun σ H Q ⟨G, z, s, A, e, q⟩ => by
  cases ma with
  | none => cases e
  | some x =>
    have e : ((mb x.2).bind fun y => (f x.1 y).bind fun z => some (z, x.2)) = some (z, s) := e
    cases hy : mb x.2 with
    | none => rw [hy] at e; cases e
    | some y =>
      rw [hy] at e
      have e : ((f x.1 y).bind fun z => some (z, x.2)) = some (z, s) := e
      cases hz : f x.1 y with
      | none => rw [hz] at e; cases e
      | some w =>
        rw [hz] at e
        cases e
        refine ⟨G, x.1, x.2, A, rfl, fun v1 G1 H1 l1 A1 r1 => ⟨x.2, G1, y, A1, hy, fun v2 G2 H2 g2 r2 => ?_⟩⟩
        refine hf G2 H2 v1 v2 x.1 y _ g2.sub (Rp.mono g2.leG r1) r2 hz _ fun v G3 H3 g3 r3 => ?_
        exact ⟨z, rep1 r3, q G3 H3 ((l1.trans g2.leG).trans g3.leG) ((A1.grow g2).grow g3)⟩
theorem xtf_eq {m m' : Option (Bool × S)} (h : XTF X Γ B ρ e m sto) (q : m = m') : XTF X Γ B ρ e m' sto := q ▸ h
theorem xp_ifF {c : Expr} {mc : Option (Bool × S1)} {stoc : S1 → Sto} {m1 m2 : S1 → Option S} (hc : XTF X Γ B ρ c mc stoc) (h1 : ∀ s, XP X Γ B (stoc s) sts (m1 s) sto) (h2 : ∀ s, XP X Γ B (stoc s) rest (m2 s) sto) : XP1 X Γ B ρ (.If c sts rest pos) (mc.bind fun q => if q.1 = true then m1 q.2 else m2 q.2) sto := imS (ps_if hc (allB h1) (allB h2)) fun D σ H ⟨G, s, A, e, q⟩ => by
  cases mc with
  | none => cases e
  | some x =>
    obtain ⟨t, s1⟩ := x
    refine ⟨G, t, s1, A, rfl, fun G1 H1 l1 A1 => ?_⟩
    cases t with
    | true => exact ⟨s1, G1, s, A1, e, q⟩
    | false => exact ⟨s1, G1, s, A1, e, q⟩
theorem xb_ifF {c : Expr} {mc : Option (Bool × S1)} {stoc : S1 → Sto} {m1 m2 : S1 → Option (Fl S L β C)} (hc : XTF X Γ B ρ c mc stoc) (h1 : ∀ s, XB X Γ B F (stoc s) sts (m1 s) sto) (h2 : ∀ s, XB X Γ B F (stoc s) rest (m2 s) sto) : XB1 X Γ B F ρ (.If c sts rest pos) (mc.bind fun q => if q.1 = true then m1 q.2 else m2 q.2) sto := imS (ps_if hc (allB h1) (allB h2)) fun D σ H ⟨G, s, A, e, q⟩ => by
  cases mc with
  | none => cases e
  | some x =>
    obtain ⟨t, s1⟩ := x
    refine ⟨G, t, s1, A, rfl, fun G1 H1 l1 A1 => ?_⟩
    cases t with
    | true => exact ⟨s1, G1, s, A1, e, by cases s <;> exact q⟩
    | false => exact ⟨s1, G1, s, A1, e, by cases s <;> exact q⟩
end
end Sim

set_option Elab.async false
set_option autoImplicit false
set_option linter.all false
set_option maxRecDepth 100000
set_option maxHeartbeats 1000000
namespace Sim
open PySem L2
open Rp (rep)
open At1 (toV)
open Ow (own)
/-! ### a list of one's own is walked, and stays one's own -/
/-- the base with more frozen, slot i held -/
abbrev Bs.upO (B : Bs) (G : Hp) (σ : St) (i : Nat) : Bs := { B with G := G, σ := σ, fx := i :: B.fx }
theorem At.upO {Γ : Gm} {B : Bs} {ρ ρ' : Sto} {G H G' H' : Hp} {σ σ' : St} {i : Nat} (A0 : At Γ B ρ G H σ) (A : At Γ B ρ' G' H' σ') (l : Le G G') (hi : σ'[i]? = σ[i]?) : At Γ (B.upO G σ i) ρ' G' H' σ' :=
  ⟨A.sub, l, A.keep, A.live, fun a hm hb hg => A.thin a hm hb (by
    cases q : B.G a with
    | none => rfl
    | some o => exact absurd ((A0.le a o q).symm.trans hg) (by simp)), A.slots, fun j hj => by
    rcases List.mem_cons.mp hj with e | e
    · rw [e]; exact hi
    · rw [A.fix j e, A0.fix j e]⟩
theorem At.downO {Γ : Gm} {B : Bs} {ρ ρ' : Sto} {G H G' H' : Hp} {σ σ' : St} {i : Nat} (A0 : At Γ B ρ G H σ) (A : At Γ (B.upO G σ i) ρ' G' H' σ') : At Γ B ρ' G' H' σ' ∧ σ'[i]? = σ[i]? :=
  ⟨⟨A.sub, A0.le.trans A.le, A.keep, A.live, fun a hm hb hg => (A0.thin a hm hb hg).trans (A.thin a hm hb), A.slots, fun j hj => by
    have e := A.fix j (List.mem_cons_of_mem _ hj)
    have e : σ'[j]? = σ[j]? := e
    rw [e, A0.fix j hj]⟩, A.fix i List.mem_cons_self⟩
section
variable {X : Cx} {Γ : Gm} {B : Bs} {L β C : Type} [Rp β] {F : Kt L β C} {ρ ρ' : Sto} {N : List Str} {sc : Scope} {k : Nat} {fx : List Nat} {W : WX} {M : List Addr} {pos p : Pos} {tg : Expr} {body : List Stmt} {S : Type} {sto : S → Sto} {α : Type} [At1 α]
theorem xb_forO (d : Dok X Γ B N sc k fx W M) {x : Str} (i : Nat) {xs : List α} {ρt : S → α → Sto} {f : S → α → Option (Fl S S β C)} (s0 : S) (hi : ∀ s, (sto s)[i]? = some (ow (OL.mk xs))) (hN : N[i]? = some x) (hv : Vis sc x)
    (hg : ∀ B', Dok X Γ B' N sc k (i :: fx) W M → XG X Γ B' tg sto ρt) (hb : ∀ B', Dok X Γ B' N sc k (i :: fx) W M → ∀ s a, XB X Γ B' (F.loop S sto) (ρt s a) body (f s a) sto)
    (hd : (x == ("__debug__" : Str)) = false := by decide) (hcd : (x == ("__classdict__" : Str)) = false := by decide) (hs : ∀ y, foldedSetIterable (.Name x p) X.env y = pure y := by intro _; rfl) : XB1 X Γ B F (sto s0) (.For tg (.Name x p) body [] pos) (forF f s0 xs) sto := by
  have up : ∀ q : Hp × St, Dok X Γ (B.upO q.1 q.2 i) N sc k (i :: fx) W M := fun q => ⟨d.toCok, d.own, d.hfn, d.tk, by show i :: B.fx = i :: fx; rw [d.hfx], d.hM, d.stk, d.frm⟩
  refine imS (ps_for (g := fun v σ H Q => ∃ q : Hp × St, cG Γ (B.upO q.1 q.2 i) sto ρt v σ H Q) (tb := fun D σ H => ∃ p : (Hp × St) × S × α, cS Γ (B.upO p.1.1 p.1.2 i) (F.loop S sto) (ρt p.2.1 p.2.2) (f p.2.1 p.2.2) sto D σ H) d.own d.calm (pi_list (pv_ d.toCok hN hv hd hcd))
    ⟨fun pins s σ H v u Q I r ⟨G, q⟩ => (hg _ (up G)).run pins s σ H v u Q I r q⟩ (allB fun p => hb _ (up p.1) p.2.1 p.2.2) hs) fun D σ H ⟨G, r, A, e, q⟩ => ?_
  obtain ⟨v0, fp, h1, ⟨l, vs, rfl, h3, h4, h5⟩, h6⟩ := A.getO (hi s0)
  have hvs := h5.toV
  have content : ∀ {s : S} {G1 H1 : Hp} {σ1 : St}, At Γ B (sto s) G1 H1 σ1 → σ1[i]? = σ[i]? → H1 l = some (.lst vs) := fun {s G1 H1 σ1} A1 hσ => by
    obtain ⟨v1, fp1, k1, ⟨l1, vs1, rfl, k3, k4, k5⟩, k6⟩ := A1.getO (hi s)
    rw [hσ, h1] at k1
    cases k1
    rw [k4, k5.toV, hvs]
  refine ⟨.ref l, h1, l, rfl, ⟨vs, SqL.of h4⟩, ?_⟩
  have hw : Walk (Itl X.K l) xs.length (fun H => SqL X.K H l vs) (YAt vs) := by
    rw [← h5.length]
    exact walk_list
  refine for_it (g := fun v σ H Q => ∃ q : Hp × St, cG Γ (B.upO q.1 q.2 i) sto ρt v σ H Q) (tb := fun D σ H => ∃ p : (Hp × St) × S × α, cS Γ (B.upO p.1.1 p.1.2 i) (F.loop S sto) (ρt p.2.1 p.2.2) (f p.2.1 p.2.2) sto D σ H) (D := D) hw
    (fun j σ1 H1 => ∃ s G1, At Γ B (sto s) G1 H1 σ1 ∧ Le G G1 ∧ σ1[i]? = σ[i]? ∧ (forF f s (xs.drop j) : Option (Fl S L β C)) = some r) ⟨s0, G, A, .refl _, rfl, e⟩ (fun j σ1 H1 _ ⟨s, G1, A1, _, hσ, _⟩ => SqL.of (content A1 hσ)) ?_ ?_
  · rintro j v σ1 H1 H2 hj ⟨s, G1, A1, l1, hσ, e1⟩ ⟨y1, y2⟩
    subst y1
    obtain ⟨a, hx, r2⟩ := h5.getV y2
    refine ⟨(G, σ), s, a, G1, A.upO A1 l1 hσ, by rw [rep1 r2]; exact rfl, fun G3 H3 σ3 l3 A3 => ?_⟩
    have ed : xs.drop j = a :: xs.drop (j + 1) := by
      obtain ⟨h1, h2⟩ := List.getElem?_eq_some_iff.mp hx
      rw [List.drop_eq_getElem_cons h1, h2]
    rw [ed] at e1
    refine ⟨⟨(G, σ), s, a⟩, ?_⟩
    have e1 : ((f s a).bind (flNext fun s' => forF f s' (xs.drop (j + 1)))) = some r := e1
    cases hf : f s a with
    | none => rw [hf] at e1; cases e1
    | some o =>
      rw [hf] at e1
      refine ⟨G3, o, A3, by first | exact hf | rfl, ?_⟩
      cases o with
      | nx s' => exact fun G4 H4 σ4 A4 => ⟨s', G4, (A.downO A4).1, A4.le, (A.downO A4).2, e1⟩
      | ct s' => exact fun G4 H4 σ4 A4 => ⟨s', G4, (A.downO A4).1, A4.le, (A.downO A4).2, e1⟩
      | bk s' =>
        have e1 := Option.some.inj e1
        subst e1
        exact fun G4 H4 σ4 A4 => q G4 H4 σ4 (A.downO A4).1
      | ret b c =>
        have e1 := Option.some.inj e1
        subst e1
        exact fun v G4 H4 σ4 A4 => q v G4 H4 σ4 (A.downO A4).1
      | err e c =>
        have e1 := Option.some.inj e1
        subst e1
        exact fun cls d G4 H4 σ4 A4 => q cls d G4 H4 σ4 (A.downO A4).1
  · rintro σ1 H1 ⟨s, G1, A1, l1, hσ, e1⟩
    rw [List.drop_length] at e1
    have e1 := Option.some.inj e1
    subst e1
    exact q G1 H1 σ1 A1
theorem xp_forO (d : Dok X Γ B N sc k fx W M) {x : Str} (i : Nat) {xs : List α} {ρt : S → α → Sto} {f : S → α → Option S} (s0 : S) (hi : ∀ s, (sto s)[i]? = some (ow (OL.mk xs))) (hN : N[i]? = some x) (hv : Vis sc x)
    (hg : ∀ B', Dok X Γ B' N sc k (i :: fx) W M → XG X Γ B' tg sto ρt) (hb : ∀ B', Dok X Γ B' N sc k (i :: fx) W M → ∀ s a, XP X Γ B' (ρt s a) body (f s a) sto)
    (hd : (x == ("__debug__" : Str)) = false := by decide) (hcd : (x == ("__classdict__" : Str)) = false := by decide) (hs : ∀ y, foldedSetIterable (.Name x p) X.env y = pure y := by intro _; rfl) : XP1 X Γ B (sto s0) (.For tg (.Name x p) body [] pos) (forP f s0 xs) sto := by
  have up : ∀ q : Hp × St, Dok X Γ (B.upO q.1 q.2 i) N sc k (i :: fx) W M := fun q => ⟨d.toCok, d.own, d.hfn, d.tk, by show i :: B.fx = i :: fx; rw [d.hfx], d.hM, d.stk, d.frm⟩
  refine imS (ps_for (g := fun v σ H Q => ∃ q : Hp × St, cG Γ (B.upO q.1 q.2 i) sto ρt v σ H Q) (tb := fun D σ H => ∃ p : (Hp × St) × S × α, cP Γ (B.upO p.1.1 p.1.2 i) (ρt p.2.1 p.2.2) (f p.2.1 p.2.2) sto D σ H) d.own d.calm (pi_list (pv_ d.toCok hN hv hd hcd))
    ⟨fun pins s σ H v u Q I r ⟨G, q⟩ => (hg _ (up G)).run pins s σ H v u Q I r q⟩ (allB fun p => hb _ (up p.1) p.2.1 p.2.2) hs) fun D σ H ⟨G, r, A, e, q⟩ => ?_
  obtain ⟨v0, fp, h1, ⟨l, vs, rfl, h3, h4, h5⟩, h6⟩ := A.getO (hi s0)
  have hvs := h5.toV
  have content : ∀ {s : S} {G1 H1 : Hp} {σ1 : St}, At Γ B (sto s) G1 H1 σ1 → σ1[i]? = σ[i]? → H1 l = some (.lst vs) := fun {s G1 H1 σ1} A1 hσ => by
    obtain ⟨v1, fp1, k1, ⟨l1, vs1, rfl, k3, k4, k5⟩, k6⟩ := A1.getO (hi s)
    rw [hσ, h1] at k1
    cases k1
    rw [k4, k5.toV, hvs]
  refine ⟨.ref l, h1, l, rfl, ⟨vs, SqL.of h4⟩, ?_⟩
  have hw : Walk (Itl X.K l) xs.length (fun H => SqL X.K H l vs) (YAt vs) := by
    rw [← h5.length]
    exact walk_list
  refine for_it (g := fun v σ H Q => ∃ q : Hp × St, cG Γ (B.upO q.1 q.2 i) sto ρt v σ H Q) (tb := fun D σ H => ∃ p : (Hp × St) × S × α, cP Γ (B.upO p.1.1 p.1.2 i) (ρt p.2.1 p.2.2) (f p.2.1 p.2.2) sto D σ H) (D := D) hw
    (fun j σ1 H1 => ∃ s G1, At Γ B (sto s) G1 H1 σ1 ∧ Le G G1 ∧ σ1[i]? = σ[i]? ∧ forP f s (xs.drop j) = some r) ⟨s0, G, A, .refl _, rfl, e⟩ (fun j σ1 H1 _ ⟨s, G1, A1, _, hσ, _⟩ => SqL.of (content A1 hσ)) ?_ ?_
  · rintro j v σ1 H1 H2 hj ⟨s, G1, A1, l1, hσ, e1⟩ ⟨y1, y2⟩
    subst y1
    obtain ⟨a, hx, r2⟩ := h5.getV y2
    refine ⟨(G, σ), s, a, G1, A.upO A1 l1 hσ, by rw [rep1 r2]; exact rfl, fun G3 H3 σ3 l3 A3 => ?_⟩
    have ed : xs.drop j = a :: xs.drop (j + 1) := by
      obtain ⟨h1, h2⟩ := List.getElem?_eq_some_iff.mp hx
      rw [List.drop_eq_getElem_cons h1, h2]
    rw [ed] at e1
    refine ⟨⟨(G, σ), s, a⟩, ?_⟩
    have e1 : ((f s a).bind fun s' => forP f s' (xs.drop (j + 1))) = some r := e1
    cases hf : f s a with
    | none => rw [hf] at e1; cases e1
    | some s' =>
      rw [hf] at e1
      exact ⟨G3, s', A3, by first | exact hf | rfl, fun G4 H4 σ4 A4 => ⟨s', G4, (A.downO A4).1, A4.le, (A.downO A4).2, e1⟩⟩
  · rintro σ1 H1 ⟨s, G1, A1, l1, hσ, e1⟩
    rw [List.drop_length] at e1
    have e1 := Option.some.inj e1
    subst e1
    exact q G1 H1 σ1 A1
end
end Sim

set_option Elab.async false
set_option autoImplicit false
set_option linter.all false
set_option maxRecDepth 100000
set_option maxHeartbeats 1000000
namespace Sim
open PySem L2
open Rp (rep)
open At1 (toV)
open Ow (own)
section
variable {X : Cx} {Γ : Gm} {B : Bs} {L β C : Type} [Rp β] {F : Kt L β C} {ρ ρ' : Sto} {N : List Str} {sc : Scope} {k : Nat} {fx : List Nat} {W : WX} {M : List Addr} {pos p p' p2 : Pos} {e a b o tg it elt kx : Expr} {st : Stmt} {sts : List Stmt} {es : List Expr} {S : Type} {sto : S → Sto}
variable {α γ : Type} [Rp α] [Rp γ]
/-- isinstance(xs, T) of a list that is read -/
theorem xe_isiR (c : Cok X Γ N sc k) {T : String} {x : Str} {r : Bool} {m : Option (List α)} (he : XR X Γ B ρ e m) (hg : Glb sc "isinstance") (hm : Γ.mg "isinstance" = none) (hg2 : Glb sc x) (hm2 : Γ.mg x = none) (hv : bootBuiltins x = some (.type T)) (hr : kitB "list" T = some r) (hn : x ≠ "__name__" := by decide) (hdb : (x == ("__debug__" : Str)) = false := by decide)
    (s1 : starEach [e, .Name x p2] X.env = (false, eval e X.env) :: starEach [.Name x p2] X.env := by rfl) (s2 : starEach [.Name x p2] X.env = (false, eval (.Name x p2) X.env) :: starEach [] X.env := by rfl) (hpl : (backTo pos (starEach [.Name x p2] X.env)).any (·.1) = false := by rfl) :
    XE X Γ B ρ (.Call (.Name "isinstance" p) [e, .Name x p2] [] pos) (m.bind fun _ => some r) :=
  imE (pe_callB call_isi (c.gl hg) (by rw [c.hmg]; exact hm) PyProof.Rows.boot_isinstance (pa_cons he (pa_cons (pe_bltn (c.gl hg2) (by rw [c.hmg]; exact hm2) hv (show RelV (.ty T) (.type T) from rfl) hn hdb) pa_nil s2) s1) (he := s1) (hpl := hpl)) fun σ H Q ⟨G, z, A, e, q⟩ => by
  cases m with
  | none => cases e
  | some w =>
    cases e
    exact ⟨G, w, A, rfl, fun l vs G1 H1 g1 hp r1 => ⟨.ref l, .ty T, .type "list", .type T, r, rfl, .ty T, .base (.lst hp), kit_ty hr, q _ G1 H1 g1 rfl⟩⟩
/-- list(range(n)) -/
theorem xn_listRange (c : Cok X Γ N sc k) {m : Option Int} (ha : XE X Γ B ρ a m) (hg : Glb sc "list") (hm : Γ.mg "list" = none) (hg2 : Glb sc "range") (hm2 : Γ.mg "range" = none) (s1 : starEach [a] X.env = (false, eval a X.env) :: starEach [] X.env := by rfl)
    (s2 : starEach [.Call (.Name "range" p2) [a] [] p'] X.env = (false, eval (.Call (.Name "range" p2) [a] [] p') X.env) :: starEach [] X.env := by rfl) :
    XN X Γ B ρ (.Call (.Name "list" p) [.Call (.Name "range" p2) [a] [] p'] [] pos) (m.bind fun n => if n.natAbs ≤ 16777216 then some (rangeL 0 n) else none) :=
  imE (pe_listRg c.calm (c.gl hg) (by rw [c.hmg]; exact hm) (prg_1 (c.gl hg2) (by rw [c.hmg]; exact hm2) ha s1) s2) fun σ H Q ⟨G, z, A, e, q⟩ => by
  cases m with
  | none => cases e
  | some n =>
    obtain ⟨hn, e⟩ := ite_some (show (if n.natAbs ≤ 16777216 then some (rangeL 0 n) else none) = some z from e)
    subst e
    refine ⟨G, n, A, rfl, fun v G1 H1 g1 r1 => ⟨n, rep1 r1, ⟨by omega, by omega, by omega, by omega, by omega⟩, fun q1 hq => ?_⟩⟩
    refine q q1 _ G1 H1 g1 hq ?_
    have : rgV 0 n = (rangeL 0 n).map toV := by
      unfold rgV rangeL
      rw [List.map_map]
      rfl
    rw [this]
    exact RpL.ofV _
end
end Sim

set_option Elab.async false
set_option autoImplicit false
set_option linter.all false
set_option maxRecDepth 100000
set_option maxHeartbeats 1000000
namespace L2
open PySem PySem.Spec PyProof.Rows
section
variable {X : Cx}
/-- the two ints of a key tuple -/
def kOf (H : Hp) (v : Value) : Int × Int := match v with
  | .ref t => (match H t with | some (.tup [.int i, .int j]) => (i, j) | _ => (0, 0))
  | _ => (0, 0)
theorem kOf_eq {H : Hp} {t : Addr} {i j : Int} (h : H t = some (.tup [.int i, .int j])) : kOf H (.ref t) = (i, j) := by
  unfold kOf
  simp only [h]
/-- sorted(d), d a dict whose keys are pairs of ints -/
theorem call_sortedDP (hcalm : X.calm = true) : CallR X (.builtin "sorted") (fun xs H Q => ∃ (a : Addr) (kvs : List (List Key × V)) (ks : List (Int × Int)), xs = [.ref a] ∧ Rd H a (.dT kvs) ∧ kvs.map (·.1) = ks.map (fun k => [Sum.inl k.1, Sum.inl k.2]) ∧ ks.length ≤ sizeLine ∧
    ∀ (zs : List (Int × Int)) (ys : List V) (p : Addr), zs.Perm ks → zs.Pairwise (fun a b => SrtO.lexB b a = false) → Paired (fun y z => ∃ t, y = V.ref t ∧ H t = some (.tup [.int z.1, .int z.2])) ys zs → H p = none → Q (.ref p) (upd H p (.lst ys))) := by
  intro pins s σ H xs us Q I r q
  obtain ⟨a, kvs, ks0, ex, hd, hks, hsz, q⟩ := q
  subst ex
  obtain ⟨u, eu, rx⟩ := vals1 r
  subst eu
  cases rx
  obtain ⟨z, hs, ks, pr, o, es, ep, ho, hx, hdt, he, hn⟩ := (show ObjOk X.prog X.w H s.heap a (.dT kvs) from hd.ok I.hok)
  have l1 : es.size = ks.length := size_of_entries he
  have l2 : kvs.length = ks.length := Paired.length pr
  have l3 : ks0.length = kvs.length := by
    have := congrArg List.length hks
    simpa using this.symm
  refine Calls.call_function_entry PyProof.Rows.kind_sorted PyProof.Rows.plain_sorted PyProof.Rows.entry_sorted (PyProof.Rows.args_sorted1 _) ?_
  unfold Builtin.«sorted»
  refine wpAny_bind (m := checkCount "sorted" 1 1 _) (wpAny_pure ?_)
  refine wpAny_bind (PySem.W.kdu_collect (A := X.A.in1) (kdl_raw hs hx hdt) (I.ok.hd hcalm) ho (by omega) fun h' tk acc hk hacc => ?_)
  have ea : acc.toList = ks.map fun x => Value.ref x.2.1 := by
    have hl : acc.toList.length = ks.length := by rw [Array.length_toList, hacc.1]; exact l1
    apply List.ext_getElem?
    intro j
    rw [List.getElem?_map]
    cases hj : acc.toList[j]? with
    | none =>
      have h1 := List.getElem?_eq_none_iff.mp hj
      rw [List.getElem?_eq_none (by omega)]
      all_goals rfl
    | some v =>
      obtain ⟨en, hen, hv⟩ := hacc.2 j v (by rw [← Array.getElem?_toList]; exact hj)
      have qe := entry_at he j
      rw [hen] at qe
      cases hb : ks[j]? with
      | none =>
        rw [hb] at qe
        exact nomatch (show some en = none from qe)
      | some b =>
        rw [hb] at qe
        have e2 : en = entryOfKey (tupleKind (mixKind X.prog X.w)) b := Option.some.inj qe
        rw [hv, e2]
        all_goals rfl
  -- each of them is a pair
  have hpr : ∀ v ∈ acc.toList, ∃ t i j, v = Value.ref t ∧ H t = some (.tup [.int i, .int j]) := by
    rw [ea]
    intro v hv
    obtain ⟨x, hx, rfl⟩ := List.mem_map.mp hv
    obtain ⟨j, hj⟩ := List.mem_iff_getElem?.mp hx
    obtain ⟨p, hp, rel⟩ : ∃ p, kvs[j]? = some p ∧ H x.2.1 = some (.tup (p.1.map kV)) := by
      clear hx hv ea
      have : ∀ {kvs : List (List Key × V)} {ks : List (List Key × Addr × Value)} (pr : KT H kvs ks) (j : Nat), ks[j]? = some x → ∃ p, kvs[j]? = some p ∧ H x.2.1 = some (.tup (p.1.map kV)) := by
        intro kvs ks pr
        induction pr with
        | nil => intro j h; simp at h
        | cons h t ih =>
          intro j hj
          cases j with
          | zero =>
            have e := Option.some.inj hj
            subst e
            exact ⟨_, rfl, h.2.1⟩
          | succ j => exact ih j (by simpa using hj)
      exact this pr j hj
    have hk := congrArg (fun l => l[j]?) hks
    simp only [List.getElem?_map, hp] at hk
    cases hk0 : ks0[j]? with
    | none => rw [hk0] at hk; cases hk
    | some k =>
      rw [hk0] at hk
      have e : p.1 = [Sum.inl k.1, Sum.inl k.2] := Option.some.inj hk
      rw [e] at rel
      exact ⟨_, k.1, k.2, rfl, rel⟩
  have hmap : acc.toList.map (kOf H) = ks0 := by
    apply List.ext_getElem?
    intro j
    rw [List.getElem?_map, ea, List.getElem?_map]
    cases hj : ks[j]? with
    | none =>
      have h1 := List.getElem?_eq_none_iff.mp hj
      rw [List.getElem?_eq_none (by omega)]
      all_goals rfl
    | some x =>
      obtain ⟨p, hp, rel⟩ : ∃ p, kvs[j]? = some p ∧ H x.2.1 = some (.tup (p.1.map kV)) := by
        have : ∀ {kvs : List (List Key × V)} {ks : List (List Key × Addr × Value)} (pr : KT H kvs ks) (j : Nat), ks[j]? = some x → ∃ p, kvs[j]? = some p ∧ H x.2.1 = some (.tup (p.1.map kV)) := by
          intro kvs ks pr
          induction pr with
          | nil => intro j h; simp at h
          | cons h t ih =>
            intro j hj
            cases j with
            | zero =>
              have e := Option.some.inj hj
              subst e
              exact ⟨_, rfl, h.2.1⟩
            | succ j => exact ih j (by simpa using hj)
        exact this pr j hj
      have hk := congrArg (fun l => l[j]?) hks
      simp only [List.getElem?_map, hp] at hk
      cases hk0 : ks0[j]? with
      | none => rw [hk0] at hk; cases hk
      | some k =>
        rw [hk0] at hk
        have e : p.1 = [Sum.inl k.1, Sum.inl k.2] := Option.some.inj hk
        rw [e] at rel
        show some (kOf H (.ref x.2.1)) = some k
        rw [kOf_eq rel]
  have hal : acc.toList.length = ks.length := by rw [ea, List.length_map]
  have I1 : Inv X pins σ H { s with heap := h', toks := tk } := I.kept hk
  refine wpAny_bind (wpAny_newList ?_ (by rw [hal]; omega))
  have hoL : (h'.push (seqObj "list" acc.toList.toArray 0)).get? h'.objs.size = some (seqObj "list" acc.toList.toArray 0) := Heap.get?_push_size _ rfl
  show wpAny _ _ _ _ _ { s with heap := h'.push (seqObj "list" acc.toList.toArray 0), toks := tk }
  have hp1 : ∀ v ∈ acc.toList, Srt.IsPair (h'.push (seqObj "list" acc.toList.toArray 0)) v (kOf H v).1 (kOf H v).2 := fun v hv => by
    obtain ⟨t, i, j, rfl, ht⟩ := hpr v hv
    rw [kOf_eq ht]
    obtain ⟨_, its2, r2, o2, ho2, hc2, n2, hd2⟩ := I1.hok _ _ ht
    obtain ⟨u1, u2, rfl, ri, rj⟩ := vals2 r2
    obtain ⟨t1, rfl⟩ := ri
    obtain ⟨t2, rfl⟩ := rj
    exact ⟨t, o2, t1, t2, n2, rfl, Heap.get?_push_of_some _ ho2, hc2, hd2⟩
  refine wpAny_bind (wpAny_holding (wpAny_call_entry PyProof.Rows.slot_list_sort ⟨_, hoL, rfl⟩ PyProof.Rows.entry_list_sort
    (SrtO.list_sort_ord (s := { s with heap := h'.push (seqObj "list" acc.toList.toArray 0), toks := tk }) (SrtO.swo_lex (kOf H)) hoL (by rw [hal]; omega) (fun h2 => SrtO.pairs_sortableO (s := { s with heap := h'.push (seqObj "list" acc.toList.toArray 0), toks := tk }) (by omega) hp1 fun o e => by
      have e' : some o = some (seqObj "list" acc.toList.toArray 0) := e.symm.trans hoL
      cases e'
      intro c
      exact absurd (Value.type.inj c) (by decide)) fun out g1 g2 => ⟨_, rfl, ?_⟩) (PyProof.Rows.args_list_sort _)))
  obtain ⟨e', he'⟩ := PyProof.Rows.sortedHeap_at (vs := acc.toList) (out := out.toArray) hoL
  have hout : ∀ v ∈ out, ∃ t i j, v = Value.ref t ∧ H t = some (.tup [.int i, .int j]) := fun v hv => hpr v (g2.perm.mem_iff.mp hv)
  have hys : ∃ ys : List V, Vals ys out ∧ Paired (fun y z => ∃ t, y = V.ref t ∧ H t = some (.tup [.int z.1, .int z.2])) ys (out.map (kOf H)) := by
    clear g1 g2 he' e'
    induction out with
    | nil => exact ⟨[], .nil, .nil⟩
    | cons v r ih =>
      obtain ⟨ys, h1, h2⟩ := ih fun w hw => hout w (List.mem_cons_of_mem _ hw)
      obtain ⟨t, i, j, rfl, ht⟩ := hout v List.mem_cons_self
      exact ⟨.ref t :: ys, .cons rfl h1, .cons ⟨t, rfl, by rw [kOf_eq ht]; exact ht⟩ h2⟩
  obtain ⟨ys, rv, pd⟩ := hys
  have lo : out.length = ks.length := by rw [g2.perm.length_eq, hal]
  have hlen : ys.length ≤ sizeLine := by
    have := rv.length
    omega
  refine wpAny_pure ⟨_, rfl, .ref h'.objs.size, upd H h'.objs.size (.lst ys), I1.laid (t' := tk) (fun b u e => ?_) (Nat.le_refl _)
    (show ObjOk X.prog X.w _ _ _ (.lst ys) from ⟨hlen, out, e', rv, he'⟩), rfl, q (out.map (kOf H)) ys _ (by rw [← hmap]; exact g2.perm.map _) (List.pairwise_map.mpr g1) pd (I1.hok.fresh (Nat.le_refl _))⟩
  have hb : b < h'.objs.size := Heap.lt_size e
  rw [PyProof.Rows.sortedHeap_old (Nat.ne_of_lt hb) (by rw [size_push']; exact Nat.lt_succ_of_lt hb)]
  exact Heap.get?_push_of_some _ e
end
end L2
namespace Sim
open PySem L2
open Rp (rep)
open At1 (toV)
open Ow (own)
open KT (keys)
/-! ### what is sorted -/
class Tot (α : Type) where
  le : α → α → Bool
  tr : ∀ a b c, le a b = true → le b c = true → le a c = true
  tot : ∀ a b, (le a b || le b a) = true
  anti : ∀ a b, le a b = true → le b a = true → a = b
def srt {α : Type} [Tot α] (xs : List α) : List α := xs.mergeSort Tot.le
theorem srt_perm {α : Type} [Tot α] (xs : List α) : (srt xs).Perm xs := List.mergeSort_perm _ _
theorem srt_pair {α : Type} [Tot α] (xs : List α) : (srt xs).Pairwise (fun a b => Tot.le a b = true) := List.pairwise_mergeSort Tot.tr Tot.tot xs
theorem srt_uniq {α : Type} [Tot α] {xs ys : List α} (p : ys.Perm xs) (s : ys.Pairwise (fun a b => Tot.le a b = true)) : ys = srt xs :=
  List.Perm.eq_of_pairwise (fun a b _ _ => Tot.anti a b) s (srt_pair xs) (p.trans (srt_perm xs).symm)
instance : Tot Int := ⟨fun a b => decide (a ≤ b), fun a b c h1 h2 => by simp at *; omega, fun a b => by simp; omega, fun a b h1 h2 => by simp at *; omega⟩
instance : Tot (Int × Int) := ⟨fun a b => !SrtO.lexB b a, fun a b c h1 h2 => by
    simp only [Bool.not_eq_true', SrtO.lexB_no] at *
    omega, fun a b => by
    rw [Bool.or_eq_true, Bool.not_eq_true', Bool.not_eq_true', SrtO.lexB_no, SrtO.lexB_no]
    omega, fun a b h1 h2 => by
    simp only [Bool.not_eq_true', SrtO.lexB_no] at *
    exact Prod.ext (by omega) (by omega)⟩
/-- all tuples are frozen -/
def tupd (G H : Hp) : Hp := fun a => match G a with
  | some o => some o
  | none => (match H a with | some (.tup vs) => some (.tup vs) | _ => none)
theorem tupd_old {G H : Hp} {a : Addr} {o : HO} (h : G a = some o) : tupd G H a = some o := by unfold tupd; rw [h]
theorem tupd_tup {G H : Hp} (s : Sub G H) {a : Addr} {vs : List V} (h : H a = some (.tup vs)) : tupd G H a = some (.tup vs) := by
  unfold tupd
  cases q : G a with
  | some o =>
    have := s a o q
    rw [h] at this
    exact this.symm
  | none => simp [h]
theorem Grow.tups {G H : Hp} (s : Sub G H) : Grow G H (tupd G H) H := by
  refine ⟨fun a o e => tupd_old e, .refl _, fun a o e => ?_, fun a ha e => ?_⟩
  · unfold tupd at e
    cases q : G a with
    | some u => rw [q] at e; cases e; exact s a _ q
    | none =>
      rw [q] at e
      simp only at e
      split at e
      · cases e; assumption
      · cases e
  · cases q : H a with
    | none => exact absurd q ha
    | some u =>
      by_cases t : ∃ vs, u = .tup vs
      · obtain ⟨vs, rfl⟩ := t
        exact .inr ⟨vs, rfl⟩
      · left
        unfold tupd
        rw [e, q]
        simp only
        split
        · rename_i vs w
          cases w
          exact absurd ⟨vs, rfl⟩ t
        · rfl
section
variable {X : Cx} {Γ : Gm} {B : Bs} {ρ : Sto} {N : List Str} {sc : Scope} {k : Nat} {pos p p' : Pos} {e a : Expr} {α : Type} [Rp α]
theorem xn_sortI (c : Cok X Γ N sc k) {m : Option (List Int)} (ha : XR X Γ B ρ a m) (hg : Glb sc "sorted") (hm : Γ.mg "sorted" = none) (s1 : starEach [a] X.env = (false, eval a X.env) :: starEach [] X.env := by rfl) :
    XN X Γ B ρ (.Call (.Name "sorted" p) [a] [] pos) (m.bind fun xs => some (srt xs)) :=
  imE (pe_callB cr_sortedI (c.gl hg) (by rw [c.hmg]; exact hm) PyProof.Rows.boot_sorted (pa_cons ha pa_nil s1) (he := s1)) fun σ H Q ⟨G, z, A, e, q⟩ => by
  cases m with
  | none => cases e
  | some xs =>
    cases e
    refine ⟨G, xs, A, rfl, fun l vs G1 H1 g1 hp r1 => ⟨l, xs, rfl, SqL.of (by rw [← show vs = xs.map V.int from r1.toV]; exact hp), fun ns' q1 h1 h2 h3 => ?_⟩⟩
    have : ns' = srt xs := srt_uniq h1 (h2.imp fun h => decide_eq_true h)
    subst this
    exact q q1 _ G1 H1 g1 h3 (RpL.ofV (α := Int) _)
/-- sorted(d), the keys pairs of ints -/
theorem xn_sortDP (c : Cok X Γ N sc k) {m : Option (List ((Int × Int) × α))} (ha : XDT X Γ B ρ a m) (hg : Glb sc "sorted") (hm : Γ.mg "sorted" = none) (s1 : starEach [a] X.env = (false, eval a X.env) :: starEach [] X.env := by rfl) :
    XN X Γ B ρ (.Call (.Name "sorted" p) [a] [] pos) (m.bind fun d => if d.length ≤ BIG then some (srt (d.map (·.1))) else none) :=
  imE (pe_callB (call_sortedDP c.calm) (c.gl hg) (by rw [c.hmg]; exact hm) PyProof.Rows.boot_sorted (pa_cons ha pa_nil s1) (he := s1)) fun σ H Q ⟨G, z, A, e, q⟩ => by
  cases m with
  | none => cases e
  | some d =>
    obtain ⟨hl, e⟩ := ite_some (show (if d.length ≤ BIG then some (srt (d.map (·.1))) else none) = some z from e)
    subst e
    refine ⟨G, d, A, rfl, fun l kvs G1 H1 g1 hp r1 => ⟨l, kvs, d.map (·.1), rfl, hp, ?_, ?_, fun zs ys q1 h1 h2 h3 h4 => ?_⟩⟩
    · have : ∀ {kvs : List (List Key × V)} {d : List ((Int × Int) × α)}, RpT Γ G1 kvs d → kvs.map (·.1) = (d.map (·.1)).map (fun k => [Sum.inl k.1, Sum.inl k.2]) := by
        intro kvs d r
        induction r with
        | nil => rfl
        | cons h t ih => rw [List.map_cons, List.map_cons, List.map_cons, ih, h.1]; rfl
      exact this r1
    · rw [List.length_map]; exact big_le hl
    · have : zs = srt (d.map (·.1)) := srt_uniq h1 (h2.imp fun h => by show (!SrtO.lexB _ _) = true; rw [h]; rfl)
      subst this
      refine q q1 ys _ H1 (g1.trans (Grow.tups g1.sub)) h4 ?_
      exact Paired.mapP h3 fun y z ⟨t, e1, e2⟩ => ⟨t, .int z.1, .int z.2, e1, tupd_tup g1.sub e2, rfl, rfl⟩
end
end Sim

set_option Elab.async false
set_option autoImplicit false
set_option linter.all false
set_option maxRecDepth 100000
set_option maxHeartbeats 1000000
namespace Sim
open PySem L2
open Rp (rep)
open At1 (toV)
open K1 (key)
open KT (keys)
open Ow (own)
open RpA (repA stoA)
/-! ### comprehensions whose target is a pair -/
/-- the store with the two slots put anew -/
abbrev st2 {α δ : Type} [Rp α] [Rp δ] (ρ : Sto) (i l : Nat) (a : α × δ) : Sto := (((ρ.set l .dead).set i .dead).set i (vl a.1)).set l (vl a.2)
/-- a pair is unpacked into two slots -/
def gP (K : PySem.W.Frag) (i l : Nat) : TG := fun v σ H Q => ∃ p u w, v = .ref p ∧ SqT K H p [u, w] ∧ Q ((σ.set i (some u)).set l (some w)) H
theorem wipe_set2 {σ : St} {i l : Nat} {u w : V} : wipe (((wipe σ [i, l]).set i (some u)).set l (some w)) [i, l] = wipe σ [i, l] := by
  show ((((((σ.set l none).set i none).set i (some u)).set l (some w)).set l none).set i none) = (σ.set l none).set i none
  apply List.ext_getElem?
  intro k
  simp only [List.getElem?_set, List.length_set]
  split <;> split <;> simp_all
section
variable {X : Cx} {Γ : Gm} {B : Bs} {L β C : Type} [Rp β] {F : Kt L β C} {ρ ρ' : Sto} {N : List Str} {sc : Scope} {k : Nat} {fx : List Nat} {W : WX} {M : List Addr} {pos p p' : Pos} {e a b o tg it elt : Expr} {st : Stmt} {sts : List Stmt} {es : List Expr} {S : Type} {sto : S → Sto}
variable {α γ δ : Type} [Rp α] [Rp γ] [Rp δ]
theorem lc_sim2 {i l : Nat} {mxs : Option (List (α × δ))} {t : α × δ → Option Bool} {f : α × δ → Option γ} (hf : i ∉ B.fx) (hρ : i < ρ.length) (hf2 : l ∉ B.fx) (hρ2 : l < ρ.length) {σ : St} {H : Hp} {Q : VK} (h : cN Γ B ρ (mxs.bind (lcB t f)) σ H Q) :
    tLc (cI Γ B ρ mxs) (gP X.K i l) (fun σ H Q => ∃ a, cT Γ B (st2 ρ i l a) (t a) σ H Q) (fun σ H Q => ∃ a, cE Γ B (st2 ρ i l a) (f a) σ H Q) [i, l] σ H Q := by
  obtain ⟨G, zs, A, e, q⟩ := h
  cases mxs with
  | none => cases e
  | some xs =>
    obtain ⟨hl, e⟩ : xs.length ≤ BIG ∧ lcM t f xs = some zs := by
      have e : lcB t f xs = some zs := e
      unfold lcB at e
      by_cases hc : xs.length ≤ BIG
      · rw [if_pos hc] at e; exact ⟨hc, e⟩
      · rw [if_neg hc] at e; cases e
    refine ⟨G, xs, A, rfl, fun J G' H' g ⟨Y, hw, hy⟩ D hD => ?_⟩
    have hGD : G' D = none := g.sub.none hD
    refine lc_it (g := gP X.K i l) (tt := fun σ H Q => ∃ a, cT Γ B (st2 ρ i l a) (t a) σ H Q) (te := fun σ H Q => ∃ a, cE Γ B (st2 ρ i l a) (f a) σ H Q) (vs := [i, l]) (σ := σ) (Qd := fun H2 => Q (.ref D) H2) hw (fun j H2 => ∃ G1 vs ys ws, Grow G' H' G1 H2 ∧ G1 D = none ∧ H2 D = some (.lst vs) ∧ RpL Γ G1 vs ys ∧ lcM t f (xs.drop j) = some ws ∧ ys ++ ws = zs)
      ⟨G', [], [], zs, Grow.newO g.sub hD _, hGD, upd_same, .nil, e, rfl⟩ (fun j H2 _ ⟨G1, vs, ys, ws, g1, _⟩ => ⟨G1, g1.leG, g1.sub⟩) ?_ ?_
    · rintro j v H2 H3 hj ⟨G1, vs, ys, ws, g1, hG1, hD1, r1, e1, e2⟩ y
      obtain ⟨x0, G2, hx0, g2, rv⟩ := hy j H2 v H3 hj y G1 g1.leG g1.sub
      have ed : xs.drop j = x0 :: xs.drop (j + 1) := by
        obtain ⟨h1, h2⟩ := List.getElem?_eq_some_iff.mp hx0
        rw [List.drop_eq_getElem_cons h1, h2]
      rw [ed] at e1
      unfold lcM at e1
      have A2 := ((A.grow g).grow g1).grow g2
      obtain ⟨pp, u1, u2, hv1, hv2, hv3, hv4⟩ := rv
      subst hv1
      have A3 : At Γ B (st2 ρ i l x0) G2 H3 (((wipe σ [i, l]).set i (some u1)).set l (some u2)) := by
        have B1 := (A2.wiped l hf2).wiped i hf
        have B2 := B1.setV (i := i) (by simpa using hρ) hv3 hf
        exact B2.setV (i := l) (by simpa using hρ2) hv4 hf2
      refine ⟨pp, u1, u2, rfl, SqT.of (g2.sub.tup hv2), ?_⟩
      show wipe (((wipe σ [i, l]).set i (some u1)).set l (some u2)) [i, l] = wipe σ [i, l] ∧ _
      refine ⟨wipe_set2, ?_⟩
      cases hb : t x0 with
      | none => rw [hb] at e1; cases e1
      | some b =>
        rw [hb] at e1
        refine ⟨x0, G2, b, A3, hb, fun G4 H4 g4 => ?_⟩
        cases b with
        | false =>
          have e1 : lcM t f (xs.drop (j + 1)) = some ws := e1
          obtain ⟨z1, z2, z3⟩ := Grow.item (ws := vs) g1 hD hG1 hD1 (g2.trans g4)
          refine ⟨G4, vs, ys, ws, ⟨z1.leG, ((g1.trans g2).trans g4).leH, ((g1.trans g2).trans g4).sub, z1.thin⟩, z2, z3, r1.mono (g2.trans g4).leG, e1, e2⟩
        | true =>
          have e1 : (f x0).bind (fun y => (lcM t f (xs.drop (j + 1))).bind fun ys => some (y :: ys)) = some ws := e1
          cases hfx : f x0 with
          | none => rw [hfx] at e1; cases e1
          | some y =>
            rw [hfx] at e1
            cases hr : lcM t f (xs.drop (j + 1)) with
            | none => rw [hr] at e1; cases e1
            | some us =>
              rw [hr] at e1
              cases e1
              refine ⟨x0, G4, y, A3.grow g4, hfx, fun w G5 H5 g5 r5 => ?_⟩
              obtain ⟨z1, z2, z3⟩ := Grow.item (ws := vs ++ [w]) g1 hD hG1 hD1 ((g2.trans g4).trans g5)
              have hz := lcM_len hr
              have hzl : zs.length ≤ xs.length := lcM_len e
              refine ⟨vs, z3, ?_, G5, vs ++ [w], ys ++ [y], us, z1, z2, upd_same, (r1.mono ((g2.trans g4).trans g5).leG).append (.cons r5 .nil), rfl, by rw [← e2]; simp⟩
              have : vs.length = ys.length := r1.length
              have h3 : ys.length ≤ zs.length := by rw [← e2]; simp
              exact big_lt (by omega)
    · rintro H2 ⟨G1, vs, ys, ws, g1, hG1, hD1, r1, e1, e2⟩
      rw [List.drop_length] at e1
      have e1 : some ([] : List γ) = some ws := e1
      have e1 := Option.some.inj e1
      subst e1
      rw [List.append_nil] at e2
      subst e2
      have := q D vs G1 (hideD H2 D) (g.trans (g1.hide hD hG1)) (if_pos rfl) r1
      rw [upd_hide hD1] at this
      exact this

theorem xn_lc2 (d : Cok X Γ N sc k) {x y : Str} {px py pt : Pos} {nt : Nat} {i l : Nat} {ifs : List Expr} {scope sc' : Scope} {mxs : Option (List (α × δ))} {t : α × δ → Option Bool} {f : α × δ → Option γ} (hi : XI X Γ B ρ (.Tuple [.Name x px, .Name y py] nt pt) it mxs) (hsc : relS scope sc = sc') (hB : blkC N sc scope [(x, i), (y, l)] = true) (hx : N[i]? = some x) (hy : N[l]? = some y) (hxl' : sc'.names.lookup x = some .local) (hyl' : sc'.names.lookup y = some .local) (hfx : B.fx = fx)
    (ht : ∀ X', Cok X' Γ N sc' k → ∀ a : α × δ, PTs X' ifs (cT Γ B (st2 ρ i l a) (t a)))
    (he : ∀ X', Cok X' Γ N sc' k → ∀ a : α × δ, XE X' Γ B (st2 ρ i l a) elt (f a)) (hs : ∀ x, foldedSetIterable it X.env x = pure x := by intro _; rfl) (hρ : Nat.ble (i + 1) ρ.length = true := by rfl) (hfc : fx.contains i = false := by rfl) (hρ2 : Nat.ble (l + 1) ρ.length = true := by rfl) (hfc2 : fx.contains l = false := by rfl) :
    XN X Γ B ρ (.ListComp elt [⟨.Tuple [.Name x px, .Name y py] nt pt, it, ifs, 0⟩] scope pos) (mxs.bind (lcB t f)) := by
  have cb : ∀ (s : Shared) (H : Hp) (C : Addr) (cl : List (Str × Addr)) (fp : List Addr), Cok (X.blk s H scope (compEnvC scope cl C X.env) fp) Γ N sc' k := fun s H C cl fp => d.blk hsc
  have gn : ∀ (s : Shared) (H : Hp) (C : Addr) (cl : List (Str × Addr)) (fp : List Addr) {z : Str} {pz : Pos} {j : Nat}, N[j]? = some z → sc'.names.lookup z = some .local → PG (X.blk s H scope (compEnvC scope cl C X.env) fp) (.Name z pz) (gName j) := fun s H C cl fp {z pz j} h1 h2 =>
    pg_name (i := j) (by rw [(cb s H C cl fp).hN]; exact d.nd) (by rw [(cb s H C cl fp).hN]; exact h1) (by rw [(cb s H C cl fp).hsc]; exact .inl h2) (.inr (by rw [(cb s H C cl fp).hsc]; exact h2))
  exact imE (pe_lc (own := [(x, i), (y, l)]) (g := gP X.K i l) (tt := fun σ H Q => ∃ a, cT Γ B (st2 ρ i l a) (t a) σ H Q) (te := fun σ H Q => ∃ a, cE Γ B (st2 ρ i l a) (f a) σ H Q) d.calm (by rw [d.hN]; exact d.nd) hi (by rw [d.hN, d.hsc]; exact blkOk_by hB)
    (fun s H C cl fp => imG (pg_tup (cb s H C cl fp).calm (pgs_cons (gn s H C cl fp hx hxl') (pgs_cons (gn s H C cl fp hy hyl') pgs_nil))) fun v σ H Q ⟨p, u, w, h1, h2, q⟩ => ⟨p, [u, w], h1, h2, rfl, u, [w], rfl, w, [], rfl, rfl, q⟩)
    (fun s H C cl fp => ⟨fun pins s' σ H' Q I ⟨a, q⟩ => (ht _ (cb s H C cl fp) a).run pins s' σ H' Q I q⟩) (fun s H C cl fp => allE fun a => he _ (cb s H C cl fp) a) hs) fun σ H Q h => lc_sim2 (lc_pre hρ hfc hfx).1 (lc_pre hρ hfc hfx).2 (lc_pre hρ2 hfc2 hfx).1 (lc_pre hρ2 hfc2 hfx).2 h
/-! ### in, of tuples -/
theorem xc_inTL {α : Type} [At1 α] [DecidableEq α] [AtE α] {ma : Option α} {mb : Option (TL α)} (ha : XE X Γ B ρ a ma) (hb : XE X Γ B ρ b mb) : XC X Γ B ρ .In a b (b2 ma mb fun x t => some (isIn x t.l)) := imC (pc_R op_in_seq ha hb) fun σ H Q ⟨G, z, A, e, q⟩ => by
  cases ma with
  | none => cases e
  | some x =>
    cases mb with
    | none => cases e
    | some t =>
      cases e
      refine ⟨G, x, A, rfl, fun v G1 H1 g1 r1 => ⟨G1, t, A.grow g1, rfl, fun w G2 H2 g2 ⟨p, vs, h1, h2, h3⟩ => ⟨p, vs, h1, .inr (SqT.of (g2.sub.tup h2)), by rw [rep1 r1]; exact At1.flat x, by rw [h3.toV]; exact flat_map t.l, q _ G2 H2 (g1.trans g2) ?_⟩⟩⟩
      show V.bl (inV v vs) = V.bl _
      rw [rep1 r1, h3.toV, inV_dec]
theorem xc_notInTL {α : Type} [At1 α] [DecidableEq α] [AtE α] {ma : Option α} {mb : Option (TL α)} (ha : XE X Γ B ρ a ma) (hb : XE X Γ B ρ b mb) : XC X Γ B ρ .NotIn a b (b2 ma mb fun x t => some (!isIn x t.l)) := imC (pc_R op_notIn_seq ha hb) fun σ H Q ⟨G, z, A, e, q⟩ => by
  cases ma with
  | none => cases e
  | some x =>
    cases mb with
    | none => cases e
    | some t =>
      cases e
      refine ⟨G, x, A, rfl, fun v G1 H1 g1 r1 => ⟨G1, t, A.grow g1, rfl, fun w G2 H2 g2 ⟨p, vs, h1, h2, h3⟩ => ⟨p, vs, h1, .inr (SqT.of (g2.sub.tup h2)), by rw [rep1 r1]; exact At1.flat x, by rw [h3.toV]; exact flat_map t.l, q _ G2 H2 (g1.trans g2) ?_⟩⟩⟩
      show V.bl (!inV v vs) = V.bl _
      rw [rep1 r1, h3.toV, inV_dec]
/-- of a pair of alike things -/
theorem xc_inP {α : Type} [At1 α] [DecidableEq α] [AtE α] {ma : Option α} {mb : Option (α × α)} (ha : XE X Γ B ρ a ma) (hb : XE X Γ B ρ b mb) : XC X Γ B ρ .In a b (b2 ma mb fun x t => some (isIn x [t.1, t.2])) := imC (pc_R op_in_seq ha hb) fun σ H Q ⟨G, z, A, e, q⟩ => by
  cases ma with
  | none => cases e
  | some x =>
    cases mb with
    | none => cases e
    | some t =>
      cases e
      refine ⟨G, x, A, rfl, fun v G1 H1 g1 r1 => ⟨G1, t, A.grow g1, rfl, fun w G2 H2 g2 ⟨p, u1, u2, h1, h2, h3, h4⟩ => ⟨p, [u1, u2], h1, .inr (SqT.of (g2.sub.tup h2)), by rw [rep1 r1]; exact At1.flat x, by rw [rep1 h3, rep1 h4]; exact flat_map [t.1, t.2], q _ G2 H2 (g1.trans g2) ?_⟩⟩⟩
      show V.bl (inV v [u1, u2]) = V.bl _
      rw [rep1 r1, rep1 h3, rep1 h4]
      exact congrArg V.bl (inV_dec x [t.1, t.2])
theorem xc_notInP {α : Type} [At1 α] [DecidableEq α] [AtE α] {ma : Option α} {mb : Option (α × α)} (ha : XE X Γ B ρ a ma) (hb : XE X Γ B ρ b mb) : XC X Γ B ρ .NotIn a b (b2 ma mb fun x t => some (!isIn x [t.1, t.2])) := imC (pc_R op_notIn_seq ha hb) fun σ H Q ⟨G, z, A, e, q⟩ => by
  cases ma with
  | none => cases e
  | some x =>
    cases mb with
    | none => cases e
    | some t =>
      cases e
      refine ⟨G, x, A, rfl, fun v G1 H1 g1 r1 => ⟨G1, t, A.grow g1, rfl, fun w G2 H2 g2 ⟨p, u1, u2, h1, h2, h3, h4⟩ => ⟨p, [u1, u2], h1, .inr (SqT.of (g2.sub.tup h2)), by rw [rep1 r1]; exact At1.flat x, by rw [rep1 h3, rep1 h4]; exact flat_map [t.1, t.2], q _ G2 H2 (g1.trans g2) ?_⟩⟩⟩
      show V.bl (!inV v [u1, u2]) = V.bl _
      rw [rep1 r1, rep1 h3, rep1 h4]
      exact congrArg (fun b => V.bl (!b)) (inV_dec x [t.1, t.2])
end
end Sim

set_option Elab.async false
set_option autoImplicit false
set_option linter.all false
set_option maxRecDepth 100000
set_option maxHeartbeats 1000000
namespace Sim
open PySem L2
open Rp (rep)
open At1 (toV)
open K1 (key)
open KT (keys)
open Ow (own)
open RpA (repA stoA)
/-! ### a value of any kind -/
inductive Dy where
  | i (n : Int)
  | b (x : Bool)
  | u
  | t (s : Tt)
  | tp
  | ls
instance : Rp Dy := ⟨fun Γ G v y => match y with
  | .i n => v = .int n
  | .b x => v = .bl x
  | .u => v = .non
  | .t s => v = .str s.s
  | .tp => ∃ a xs, v = .ref a ∧ G a = some (.tup xs)
  | .ls => ∃ a xs, v = .ref a ∧ G a = some (.lst xs), fun {_ _ _ _ y} e h => by
  cases y with
  | tp => obtain ⟨a, xs, h1, h2⟩ := h; exact ⟨a, xs, h1, e _ _ h2⟩
  | ls => obtain ⟨a, xs, h1, h2⟩ := h; exact ⟨a, xs, h1, e _ _ h2⟩
  | _ => exact h⟩
def Dy.N : Dy → String
  | .i _ => "int"
  | .b _ => "bool"
  | .u => "NoneType"
  | .t _ => "str"
  | .tp => "tuple"
  | .ls => "list"
theorem Dy.ty {Γ : Gm} {G H : Hp} {v : V} {y : Dy} {K : PySem.W.Frag} (h : rep Γ G v y) (s : Sub G H) : TyOf K H v (.type y.N) := by
  cases y with
  | i n => rw [show v = .int n from h]; exact .int _
  | b x => rw [show v = .bl x from h]; exact .bl _
  | u => rw [show v = .non from h]; exact .non
  | t x => rw [show v = .str x.s from h]; exact .str _
  | tp => obtain ⟨a, xs, h1, h2⟩ := h; rw [h1]; exact .tup (s _ _ h2)
  | ls => obtain ⟨a, xs, h1, h2⟩ := h; rw [h1]; exact .lst (s _ _ h2)
def Dy.isI : Dy → Bool
  | .i _ => true
  | .b _ => true
  | _ => false
def Dy.isB : Dy → Bool
  | .b _ => true
  | _ => false
/-- the same value, told in another way -/
class Cst (α β : Type) [Rp α] [Rp β] where
  f : α → Option β
  ok : ∀ {Γ : Gm} {G : Hp} {v : V} {a : α} {b : β}, f a = some b → rep Γ G v a → rep Γ G v b
/-- a cast of one's own type into another -/
abbrev cst {α : Type} (β : Type) [Rp α] [Rp β] [Cst α β] (a : α) : Option β := Cst.f a
instance : Cst Int Dy := ⟨fun n => some (.i n), fun h r => by cases h; exact rep1 r⟩
instance : Cst Bool Dy := ⟨fun x => some (.b x), fun h r => by cases h; exact rep1 r⟩
instance : Cst Unit Dy := ⟨fun _ => some .u, fun h r => by cases h; exact rep1 r⟩
instance : Cst Tt Dy := ⟨fun s => some (.t s), fun h r => by cases h; exact rep1 r⟩
instance {α : Type} [Rp α] : Cst (TL α) Dy := ⟨fun _ => some .tp, fun h ⟨a, vs, h1, h2, _⟩ => by cases h; exact ⟨a, vs, h1, h2⟩⟩
instance {α : Type} [Rp α] : Cst (List α) Dy := ⟨fun _ => some .ls, fun h ⟨a, vs, h1, h2, _⟩ => by cases h; exact ⟨a, vs, h1, h2⟩⟩
def Dy.int? : Dy → Option Int
  | .i n => some n
  | _ => none
instance : Cst Dy Int := ⟨Dy.int?, fun {_ _ _ a _} h r => by cases a <;> first | (cases h; exact r) | cases h⟩
instance : Cst Dy Dy := ⟨some, fun h r => by cases h; exact r⟩
instance {α β γ δ : Type} [Rp α] [Rp β] [Rp γ] [Rp δ] [Cst α γ] [Cst β δ] : Cst (α × β) (γ × δ) := ⟨fun p => (cst γ p.1).bind fun x => (cst δ p.2).bind fun y => some (x, y), fun {_ _ _ p q} h ⟨a, x, y, h1, h2, h3, h4⟩ => by
  have h : ((cst γ p.1).bind fun x => (cst δ p.2).bind fun y => some (x, y)) = some q := h
  cases e1 : cst γ p.1 with
  | none => rw [e1] at h; cases h
  | some x' =>
    rw [e1] at h
    cases e2 : cst δ p.2 with
    | none => rw [e2] at h; cases h
    | some y' =>
      rw [e2] at h
      cases h
      exact ⟨a, x, y, h1, h2, Cst.ok e1 h3, Cst.ok e2 h4⟩⟩
def cstL {α : Type} (β : Type) [Rp α] [Rp β] [Cst α β] : List α → Option (List β)
  | [] => some []
  | a :: r => (cst β a).bind fun b => (cstL β r).bind fun t => some (b :: t)
theorem cstL_ok {α β : Type} [Rp α] [Rp β] [Cst α β] {Γ : Gm} {G : Hp} : ∀ {xs : List α} {ys : List β} {vs : List V}, cstL β xs = some ys → RpL Γ G vs xs → RpL Γ G vs ys
  | [], ys, vs, h, r => by cases h; cases r; exact .nil
  | a :: r, ys, vs, h, hr => by
    have h : ((cst β a).bind fun b => (cstL β r).bind fun t => some (b :: t)) = some ys := h
    cases e1 : cst β a with
    | none => rw [e1] at h; cases h
    | some b =>
      rw [e1] at h
      cases e2 : cstL β r with
      | none => rw [e2] at h; cases h
      | some t' =>
        rw [e2] at h
        cases h
        cases hr with
        | cons q t => exact .cons (Cst.ok e1 q) (cstL_ok e2 t)
instance {α β : Type} [Rp α] [Rp β] [Cst α β] : Cst (List α) (List β) := ⟨cstL β, fun h ⟨a, vs, h1, h2, h3⟩ => ⟨a, vs, h1, h2, cstL_ok h h3⟩⟩
section
variable {X : Cx} {Γ : Gm} {B : Bs} {L β C : Type} [Rp β] {F : Kt L β C} {ρ ρ' : Sto} {N : List Str} {sc : Scope} {k : Nat} {fx : List Nat} {W : WX} {M : List Addr} {pos p p' p2 : Pos} {e a b o tg it elt kx : Expr} {st : Stmt} {sts : List Stmt} {es : List Expr} {S : Type} {sto : S → Sto}
variable {α γ : Type} [Rp α] [Rp γ]
theorem xe_cst [Cst α γ] {m : Option α} (h : XE X Γ B ρ e m) : XE X Γ B ρ e (m.bind (cst γ)) := imE h fun σ H Q ⟨G, z, A, e, q⟩ => by
  cases m with
  | none => cases e
  | some w => exact ⟨G, w, A, rfl, fun v G1 H1 g r => q v G1 H1 g (Cst.ok e r)⟩
theorem xr_cst [Cst α γ] {m : Option (List α)} (h : XR X Γ B ρ e m) : XR X Γ B ρ e (m.bind (cstL γ)) := imE h fun σ H Q ⟨G, z, A, e, q⟩ => by
  cases m with
  | none => cases e
  | some w => exact ⟨G, w, A, rfl, fun p vs G1 H1 g h1 r => q p vs G1 H1 g h1 (cstL_ok e r)⟩
/-- isinstance of a value of any kind -/
theorem xe_isiD (c : Cok X Γ N sc k) {T : String} {x : Str} {r : Dy → Bool} {m : Option Dy} (he : XE X Γ B ρ e m) (hg : Glb sc "isinstance") (hm : Γ.mg "isinstance" = none) (hg2 : Glb sc x) (hm2 : Γ.mg x = none) (hv : bootBuiltins x = some (.type T)) (hr : ∀ y : Dy, kitB y.N T = some (r y)) (hn : x ≠ "__name__" := by decide) (hdb : (x == ("__debug__" : Str)) = false := by decide)
    (s1 : starEach [e, .Name x p2] X.env = (false, eval e X.env) :: starEach [.Name x p2] X.env := by rfl) (s2 : starEach [.Name x p2] X.env = (false, eval (.Name x p2) X.env) :: starEach [] X.env := by rfl) (hpl : (backTo pos (starEach [.Name x p2] X.env)).any (·.1) = false := by rfl) :
    XE X Γ B ρ (.Call (.Name "isinstance" p) [e, .Name x p2] [] pos) (m.bind fun y => some (r y)) :=
  imE (pe_callB call_isi (c.gl hg) (by rw [c.hmg]; exact hm) PyProof.Rows.boot_isinstance (pa_cons he (pa_cons (pe_bltn (c.gl hg2) (by rw [c.hmg]; exact hm2) hv (show RelV (.ty T) (.type T) from rfl) hn hdb) pa_nil s2) s1) (he := s1) (hpl := hpl)) fun σ H Q ⟨G, z, A, e, q⟩ => by
  cases m with
  | none => cases e
  | some w =>
    cases e
    exact ⟨G, w, A, rfl, fun v G1 H1 g1 r1 => ⟨v, .ty T, .type w.N, .type T, r w, rfl, .ty T, .base (Dy.ty r1 g1.sub), kit_ty (hr w), q _ G1 H1 g1 rfl⟩⟩
theorem isI_int (y : Dy) : kitB y.N "int" = some y.isI := by
  cases y with
  | i _ => exact (by decide +kernel : kitB "int" "int" = some true)
  | b _ => exact (by decide +kernel : kitB "bool" "int" = some true)
  | u => exact (by decide +kernel : kitB "NoneType" "int" = some false)
  | t _ => exact (by decide +kernel : kitB "str" "int" = some false)
  | tp => exact (by decide +kernel : kitB "tuple" "int" = some false)
  | ls => exact (by decide +kernel : kitB "list" "int" = some false)
theorem isB_bool (y : Dy) : kitB y.N "bool" = some y.isB := by
  cases y with
  | i _ => exact (by decide +kernel : kitB "int" "bool" = some false)
  | b _ => exact (by decide +kernel : kitB "bool" "bool" = some true)
  | u => exact (by decide +kernel : kitB "NoneType" "bool" = some false)
  | t _ => exact (by decide +kernel : kitB "str" "bool" = some false)
  | tp => exact (by decide +kernel : kitB "tuple" "bool" = some false)
  | ls => exact (by decide +kernel : kitB "list" "bool" = some false)
end
/-! ### try -/
/-- the classes of errors that the text has -/
structure ExS (Γ : Gm) (cs : List Nat) : Prop where
  no9 : 9 ∉ cs
  cc : ∀ i, i ∈ cs → ExcC Γ.K (Γ.C i)
  kit : ∀ i j, i ∈ cs → j ∈ cs → PySem.W.kitOne Γ.K (.ref (Γ.C i)) (.ref (Γ.C j)) = some (He.subN i j)
  exm : ∀ i j, i ∈ cs → j ∈ cs → PySem.W.exmOne Γ.K (.ref (Γ.C i)) (.ref (Γ.C j)) = some (He.subN i j)
  ve : ∀ i, i ∈ cs → PySem.W.kitOne Γ.K (.ref (Γ.C i)) (.type "ValueError") = some true
/-- the error that a suite holds -/
structure ExV (a : Addr) where
  e : Er
instance {a : Addr} : Rp (ExV a) := ⟨fun _ _ v _ => v = .ref a, fun _ h => h⟩
/-- where a suite stands: its error stands at a -/
structure Hok (X : Cx) (Γ : Gm) (N : List Str) (sc : Scope) (k : Nat) (a : Addr) (e : Er) : Prop where
  hP : X.prog = Γ.P
  hw : X.w = Γ.w
  hK : X.K = Γ.K
  hmg : X.mg = Γ.mg
  hbase : X.base = Γ.base
  hN : X.N = N
  nd : N.Nodup
  hsc : X.env.scope = sc
  ex : ∃ X0 oe pn d, X = Cx.suite X0 a ((a, oe) :: pn) ∧ Zc (.ref (Γ.C e.cls)) d oe ∧ (e.cls ≠ 9 → d = none) ∧ ∃ vs, oe.data = .fields vs
theorem Hok.gl {X : Cx} {Γ : Gm} {N : List Str} {sc : Scope} {k : Nat} {a : Addr} {e : Er} (c : Hok X Γ N sc k a e) {x : Str} (h : Glb sc x) : Gl X x := by
  show X.env.scope.names.lookup x = _
  rw [c.hsc]
  exact h
theorem At.unset {Γ : Gm} {B : Bs} {ρ : Sto} {G H : Hp} {σ : St} {i : Nat} (A : At Γ B ρ G H σ) (hi : ρ[i]? = some .dead) (nf : i ∉ B.fx) : At Γ B ρ G H (σ.set i none) := by
  obtain ⟨φ, h1, h3⟩ := A.slots
  refine ⟨A.sub, A.le, A.keep, A.live, A.thin, ⟨φ, ⟨by rw [List.length_set]; exact h1.len, fun j s hj => ?_, h1.apart, h1.out⟩, h3⟩, fun j hj => ?_⟩
  · by_cases e : j = i
    · subst e
      rw [hi] at hj
      cases hj
      obtain ⟨o, ho, hs⟩ := h1.ok j _ hi
      have hl : j < σ.length := (List.getElem?_eq_some_iff.mp ho).1
      exact ⟨none, by rw [List.getElem?_set_self hl], hs⟩
    · rw [List.getElem?_set_ne (Ne.symm e)]
      exact h1.ok j s hj
  · rw [List.getElem?_set_ne fun z => nf (by rw [z]; exact hj)]
    exact A.fix j hj
abbrev Kt.tr {L β C : Type} (F : Kt L β C) {Sx : Type} (stx : Sx → Sto) (W : WX) : Kt L β (C ⊕ Sx) := ⟨F.stb, F.stc, Sum.elim F.str stx, F.fr, W⟩
abbrev Kt.su {L β C : Type} (F : Kt L β C) : Kt L β C := ⟨F.stb, F.stc, F.str, F.fr, fun _ _ _ _ => False⟩
/-- a suite raises nothing -/
def noErr {S L β C : Type} : Option (Fl S L β C) → Option (Fl S L β C)
  | some (.err _ _) => none
  | r => r
theorem noErr_some {S L β C : Type} {m : Option (Fl S L β C)} {r : Fl S L β C} (h : noErr m = some r) : m = some r ∧ ∀ e c, r ≠ .err e c := by
  cases m with
  | none => cases h
  | some x => cases x <;> first | (cases h; exact ⟨rfl, fun _ _ z => by cases z⟩) | cases h
/-- try, and what its suite makes of an error -/
def tryM {S L β C Sx : Type} (hit : Er → Bool) (m : Option (Fl S L β (C ⊕ Sx))) (ms : Er → Sx → Option (Fl S L β C)) : Option (Fl S L β C) := m.bind fun r => match r with
  | .nx s => some (.nx s)
  | .bk l => some (.bk l)
  | .ct l => some (.ct l)
  | .ret b (.inl c) => some (.ret b c)
  | .err e (.inr x) => if hit e = true then noErr (ms e x) else none
  | _ => none
def hitN (cs : List Nat) (j : Nat) (e : Er) : Bool := decide (e.cls ∈ cs) && He.subN e.cls j
theorem hit_in {cs : List Nat} {j : Nat} {e : Er} (h : hitN cs j e = true) : e.cls ∈ cs := by
  have h : (decide (e.cls ∈ cs) && He.subN e.cls j) = true := h
  simp at h
  exact h.1
theorem exs_ok {Γ : Gm} {xs : List (Nat × Str)} (h : He.exsB xs Γ.K = true) (no9 : 9 ∉ xs.map (·.1)) (hx : ∀ p ∈ xs, Γ.C p.1 = He.ga Γ.K p.2) : ExS Γ (xs.map (·.1)) := by
  have key : ∀ p ∈ xs, He.excB Γ.K p.2 = true ∧ PySem.W.kitOne Γ.K (.ref (He.ga Γ.K p.2)) (.type "ValueError") = some true ∧ ∀ q ∈ xs, He.pairB Γ.K p q = true := fun p hp => by
    obtain ⟨h1, h2⟩ := He.ba (List.all_eq_true.mp h p hp)
    obtain ⟨h3, h4⟩ := He.ba h2
    exact ⟨h1, of_decide_eq_true h3, fun q hq => List.all_eq_true.mp h4 q hq⟩
  refine ⟨no9, fun i hi => ?_, fun i j hi hj => ?_, fun i j hi hj => ?_, fun i hi => ?_⟩
  · obtain ⟨p, hp, rfl⟩ := List.mem_map.mp hi
    rw [hx p hp]
    exact He.excB_ok (key p hp).1
  · obtain ⟨p, hp, rfl⟩ := List.mem_map.mp hi
    obtain ⟨q, hq, rfl⟩ := List.mem_map.mp hj
    rw [hx p hp, hx q hq]
    exact of_decide_eq_true (He.ba ((key p hp).2.2 q hq)).1
  · obtain ⟨p, hp, rfl⟩ := List.mem_map.mp hi
    obtain ⟨q, hq, rfl⟩ := List.mem_map.mp hj
    rw [hx p hp, hx q hq]
    exact of_decide_eq_true (He.ba ((key p hp).2.2 q hq)).2
  · obtain ⟨p, hp, rfl⟩ := List.mem_map.mp hi
    rw [hx p hp]
    exact (key p hp).2.1
section
variable {X : Cx} {Γ : Gm} {B : Bs} {L β C : Type} [Rp β] {F : Kt L β C} {ρ ρ' : Sto} {N : List Str} {sc : Scope} {k : Nat} {fx : List Nat} {W : WX} {M : List Addr} {pos pos' p p' p2 : Pos} {e a b o tg it elt kx : Expr} {st : Stmt} {sts suite : List Stmt} {b₀ : Stmt} {es : List Expr} {S Sx : Type} {sto : S → Sto}
theorem xb_tryAs (d : Dok X Γ B N sc k fx W M) {cs : List Nat} (xs : ExS Γ cs) {stx : Sx → Sto} {mb : Option (Fl S L β (C ⊕ Sx))} {ms : Er → Sx → Option (Fl S L β C)} {x n : Str} {j i : Nat} (hx : ExT Γ x j) (hj : j ∈ cs) (hg : Glb sc x) (hi : N[i]? = some n) (hn : sc.names.lookup n = some .local) (hf : fx.contains i = false)
    (hL : ∀ s, Nat.ble (i + 1) (stx s).length = true) (hdead : ∀ s, (sto s)[i]? = some .dead) (hbk : ∀ l, (F.stb l)[i]? = some .dead) (hct : ∀ l, (F.stc l)[i]? = some .dead) (hfr : F.fr = false)
    (hb : ∀ (X' : Cx) (W' : WX), Dok X' Γ B N sc k fx W' M → XB X' Γ B (F.tr stx W') ρ sts mb sto)
    (hs : ∀ (X' : Cx) (a : Addr) (er : Er) (s : Sx), Hok X' Γ N sc k a er → hitN cs j er = true → XB X' Γ B F.su ((stx s).set i (vl (ExV.mk (a := a) er))) (b₀ :: suite) (ms er s) sto)
    (hdb : (x == ("__debug__" : Str)) = false := by decide) :
    XB1 X Γ B F ρ (.Try sts [.ExceptHandler (some (.Name x p)) (some n) (b₀ :: suite) pos'] [] [] pos) (tryM (hitN cs j) mb ms) sto := by
  have nf : i ∉ B.fx := by
    rw [d.hfx]
    intro z
    rw [List.contains_iff_mem.mpr z] at hf
    cases hf
  refine imS (ps_try_as (i := i) (Wout := W) (tb := fun W' => cS Γ B (F.tr stx W') ρ mb sto)
    (ts := fun a cls dd => fun D σ H => ∃ q : { q : Er × Sx // hitN cs j q.1 = true }, (cls = .ref (Γ.C q.1.1.cls) ∧ dd = none) ∧ cS Γ B F.su ((stx q.1.2).set i (vl (ExV.mk (a := a) q.1.1))) (ms q.1.1 q.1.2) sto D σ H)
    d.stk d.frm (by rw [d.hN]; exact d.nd) (by rw [d.hN]; exact hi) (by rw [show X.env.kindOf n = X.env.scope.names.lookup n from rfl, d.hsc]; exact hn) ⟨d.gl hg, hdb, .inl (by rw [d.hmg]; exact hx.g)⟩ d.tk (fun W' pn xe tk pa => hb _ W' ⟨⟨d.hP, d.hw, d.hK, d.hmg, d.hbase, d.hN, d.nd, d.hsc, d.calm, d.room⟩, pa, d.hfn, tk, d.hfx, d.hM, d.stk, d.frm⟩) (fun a oe cls dd pn hz hfs => ?_)) fun D σ H ⟨G, r, A, e, q⟩ => ?_
  · refine ⟨fun pins s σ H D I h => ?_⟩
    obtain ⟨⟨⟨er, sx⟩, hh⟩, ⟨hc, hd⟩, h⟩ := h
    subst hc hd
    exact (hs (X.suite a ((a, oe) :: pn)) a er sx ⟨d.hP, d.hw, d.hK, d.hmg, d.hbase, d.hN, d.nd, d.hsc, ⟨X, oe, pn, none, rfl, hz, fun _ => rfl, hfs⟩⟩ hh).run pins s σ H D I h
  · refine ⟨G, ?_⟩
    cases hmb : mb with
    | none => rw [hmb] at e; cases e
    | some rb =>
      rw [hmb] at e
      refine ⟨rb, A, rfl, ?_⟩
      cases rb with
      | nx s => cases e; exact q
      | bk l => cases e; exact q
      | ct l => cases e; exact q
      | ret b c =>
        cases c with
        | inl c => cases e; exact q
        | inr x => cases e
      | err er c =>
        cases c with
        | inl c => cases e
        | inr sx =>
          have e : (if hitN cs j er = true then noErr (ms er sx) else none) = some r := e
          by_cases hh : hitN cs j er = true
          · rw [if_pos hh] at e
            obtain ⟨e, hne⟩ := noErr_some e
            have h7 : er.cls ∈ cs ∧ He.subN er.cls j = true := by
              have hh : (decide (er.cls ∈ cs) && He.subN er.cls j) = true := hh
              simp at hh
              exact hh
            intro cls dd G' H' σ' A' ie
            have ic : cls = .ref (Γ.C er.cls) := ie.1
            have idd : dd = none := by
              have := ie.2
              rwa [if_neg (fun z : er.cls = 9 => xs.no9 (by rw [← z]; exact h7.1))] at this
            subst ic idd
            refine ⟨true, ?_, fun _ a ha => ⟨⟨(er, sx), hh⟩, ⟨rfl, rfl⟩, G', r, ?_, e, ?_⟩, fun z => by cases z⟩
            · have := xs.exm er.cls j h7.1 hj
              rw [h7.2] at this
              rw [d.hK]
              exact this
            · exact A'.setV (v := .ref a) (Nat.le_of_ble_eq_true (hL sx)) rfl nf
            · cases r with
              | nx s => exact fun G1 H1 σ1 A1 => q G1 H1 _ (A1.unset (hdead s) nf)
              | bk l => exact fun G1 H1 σ1 A1 => q G1 H1 _ (A1.unset (hbk l) nf)
              | ct l => exact fun G1 H1 σ1 A1 => q G1 H1 _ (A1.unset (hct l) nf)
              | ret b c => exact q
              | err e2 c2 => exact absurd rfl (hne e2 c2)
          · rw [if_neg hh] at e; cases e
/-! ### in a suite -/
theorem xh_err {a : Addr} {er : Er} (h : Hok X Γ N sc k a er) {x : Str} (i : Nat) (hi : ρ[i]? = some (vl (ExV.mk (a := a) er))) (hN : N[i]? = some x) (hv : Vis sc x) (hd : (x == ("__debug__" : Str)) = false := by decide) (hcd : (x == ("__classdict__" : Str)) = false := by decide) :
    XE X Γ B ρ (.Name x pos) (some (ExV.mk (a := a) er)) := imE (pe_var (X := X) (i := i) (by rw [h.hN]; exact hN) (by rw [h.hsc]; exact hv) hd hcd) fun σ H Q ⟨G, z', A, e, q⟩ => by
  cases e
  obtain ⟨v, h1, h2⟩ := A.get hi
  exact ⟨v, h1, q v G H (.refl A.sub) h2⟩
theorem xh_isE {a : Addr} {er : Er} (h : Hok X Γ N sc k a er) {cs : List Nat} (xs : ExS Γ cs) (h7 : er.cls ∈ cs) {x : Str} {j : Nat} (hx : ExT Γ x j) (hj : j ∈ cs) (he : XE X Γ B ρ e (some (ExV.mk (a := a) er))) (hg : Glb sc "isinstance") (hm : Γ.mg "isinstance" = none) (hg2 : Glb sc x) (hdb : (x == ("__debug__" : Str)) = false := by decide)
    (s1 : starEach [e, .Name x p2] X.env = (false, eval e X.env) :: starEach [.Name x p2] X.env := by rfl) (s2 : starEach [.Name x p2] X.env = (false, eval (.Name x p2) X.env) :: starEach [] X.env := by rfl) (hpl : (backTo pos (starEach [.Name x p2] X.env)).any (·.1) = false := by rfl) :
    XE X Γ B ρ (.Call (.Name "isinstance" p) [e, .Name x p2] [] pos) (some (He.subN er.cls j)) := by
  obtain ⟨X0, oe, pn, d, rfl, hz, hd, hf⟩ := h.ex
  rw [hd (fun z => xs.no9 (z ▸ h7))] at hz
  have hK : X0.K = Γ.K := h.hK
  exact imE (pe_callB (call_isE (X := X0) (by rw [hK]; exact xs.cc _ h7) hz hf) (h.gl hg) (by rw [h.hmg]; exact hm) PyProof.Rows.boot_isinstance (pa_cons he (pa_cons (pe_glob (h.gl hg2) (by rw [h.hmg]; exact hx.g) (show RelV (.ref (Γ.C j)) (.ref (Γ.C j)) from rfl) hdb) pa_nil s2) s1) (he := s1) (hpl := hpl)) fun σ H Q ⟨G, z, A, e, q⟩ => by
    cases e
    exact ⟨G, _, A, rfl, fun v G1 H1 g1 r1 => ⟨.ref (Γ.C j), .ref (Γ.C j), _, by rw [show v = .ref a from r1], fun u r => r, by rw [hK]; exact xs.kit _ _ h7 hj, q _ G1 H1 g1 rfl⟩⟩
theorem xh_isVE {a : Addr} {er : Er} (h : Hok X Γ N sc k a er) {cs : List Nat} (xs : ExS Γ cs) (h7 : er.cls ∈ cs) (he : XE X Γ B ρ e (some (ExV.mk (a := a) er))) (hg : Glb sc "isinstance") (hm : Γ.mg "isinstance" = none) (hg2 : Glb sc "ValueError") (hm2 : Γ.mg "ValueError" = none)
    (s1 : starEach [e, .Name "ValueError" p2] X.env = (false, eval e X.env) :: starEach [.Name "ValueError" p2] X.env := by rfl) (s2 : starEach [.Name "ValueError" p2] X.env = (false, eval (.Name "ValueError" p2) X.env) :: starEach [] X.env := by rfl) (hpl : (backTo pos (starEach [.Name "ValueError" p2] X.env)).any (·.1) = false := by rfl) :
    XE X Γ B ρ (.Call (.Name "isinstance" p) [e, .Name "ValueError" p2] [] pos) (some true) := by
  obtain ⟨X0, oe, pn, d, rfl, hz, hd, hf⟩ := h.ex
  rw [hd (fun z => xs.no9 (z ▸ h7))] at hz
  have hK : X0.K = Γ.K := h.hK
  exact imE (pe_callB (call_isE (X := X0) (by rw [hK]; exact xs.cc _ h7) hz hf) (h.gl hg) (by rw [h.hmg]; exact hm) PyProof.Rows.boot_isinstance (pa_cons he (pa_cons (pe_bltn (h.gl hg2) (by rw [h.hmg]; exact hm2) (show bootBuiltins "ValueError" = some (.type "ValueError") by decide +kernel) (show RelV (.ty "ValueError") (.type "ValueError") from rfl) (by decide) (by decide)) pa_nil s2) s1) (he := s1) (hpl := hpl)) fun σ H Q ⟨G, z, A, e, q⟩ => by
    cases e
    exact ⟨G, _, A, rfl, fun v G1 H1 g1 r1 => ⟨.ty "ValueError", .type "ValueError", _, by rw [show v = .ref a from r1], fun u r => r, by rw [hK]; exact xs.ve _ h7, q _ G1 H1 g1 rfl⟩⟩
end
end Sim

set_option autoImplicit false
set_option linter.all false
namespace Bl
/-! ### pairings as involutions, and what shows that one is greatest -/
structure Gk (V : List Int) (E : Int → Int → Prop) : Prop where
  nd : V.Nodup
  sym : ∀ u v, E u v → E v u
  irr : ∀ u, ¬ E u u
  inn : ∀ u v, E u v → u ∈ V
structure Mt (V : List Int) (E : Int → Int → Prop) (f : Int → Int) : Prop where
  inv : ∀ v ∈ V, f (f v) = v
  inn : ∀ v ∈ V, f v ∈ V
  ed : ∀ v ∈ V, f v ≠ v → E v (f v)
def un (f : Int → Int) (v : Int) : Bool := decide (f v = v)
def df (V : List Int) (f : Int → Int) : Nat := V.countP (un f)
theorem un_t {f : Int → Int} {v : Int} : un f v = true ↔ f v = v := by simp [un]
theorem nd_filter {l : List Int} (p : Int → Bool) (h : l.Nodup) : (l.filter p).Nodup := List.Pairwise.filter p h

theorem even_inv (f : Int → Int) : ∀ (n : Nat) (L : List Int), L.length = n → L.Nodup → (∀ v ∈ L, f v ∈ L ∧ f (f v) = v ∧ f v ≠ v) → n % 2 = 0 := by
  intro n
  induction n using Nat.strongRecOn with
  | ind n ih =>
    intro L hl nd h
    cases L with
    | nil => simp at hl; omega
    | cons v r =>
      have hv := h v List.mem_cons_self
      have hfr : f v ∈ r := by
        rcases List.mem_cons.mp hv.1 with e | e
        · exact absurd e hv.2.2
        · exact e
      have nd' := List.nodup_cons.mp nd
      have nr := nd'.2
      have lr := List.length_erase_of_mem hfr
      have hp : 0 < r.length := List.length_pos_of_mem hfr
      simp at hl
      have := ih (n-2) (by omega) (r.erase (f v)) (by omega) (nr.erase _) (fun w hw => by
        have hw' := (nr.mem_erase_iff).mp hw
        have a := h w (List.mem_cons_of_mem _ hw'.2)
        refine ⟨nr.mem_erase_iff.mpr ⟨?_, ?_⟩, a.2.1, a.2.2⟩
        · intro e
          have : w = v := by rw [← a.2.1, e, hv.2.1]
          exact nd'.1 (this ▸ hw'.2)
        · rcases List.mem_cons.mp a.1 with e | e
          · exact absurd (by rw [← a.2.1, e]) hw'.1
          · exact e)
      omega

theorem countP_or_and (V : List Int) (p q : Int → Bool) : V.countP (fun v => p v || q v) + V.countP (fun v => p v && q v) = V.countP p + V.countP q := by
  induction V with
  | nil => rfl
  | cons v r ih =>
    simp only [List.countP_cons]
    cases p v <;> cases q v <;> simp <;> omega

section
variable {V : List Int} {E : Int → Int → Prop} {A : Int → Bool} {c : Int → Int}
def Cls (A : Int → Bool) (c : Int → Int) (l : Int) (v : Int) : Bool := !A v && decide (c v = l)
theorem cls_t {l v : Int} : Cls A c l v = true ↔ A v = false ∧ c v = l := by simp [Cls]
theorem exists_out (nd : V.Nodup) {f : Int → Int} (m : Mt V E f) (cl : ∀ u v, E u v → A u = false → A v = false → c u = c v) {l : Int} (odd : V.countP (Cls A c l) % 2 = 1) :
    ∃ v, v ∈ V ∧ A v = false ∧ c v = l ∧ (f v = v ∨ A (f v) = true) := by
  apply Classical.byContradiction
  intro hn
  have h : ∀ v ∈ V, A v = false → c v = l → f v ≠ v ∧ A (f v) = false := fun v hv h1 h2 => ⟨fun e => hn ⟨v, hv, h1, h2, .inl e⟩, by
    cases e : A (f v) with
    | false => rfl
    | true => exact absurd ⟨v, hv, h1, h2, .inr e⟩ hn⟩
  have := even_inv f _ (V.filter (Cls A c l)) rfl (nd_filter _ nd) fun v hv => by
    have hv' := List.mem_filter.mp hv
    have hc := cls_t.mp hv'.2
    have q := h v hv'.1 hc.1 hc.2
    refine ⟨List.mem_filter.mpr ⟨m.inn v hv'.1, cls_t.mpr ⟨q.2, ?_⟩⟩, m.inv v hv'.1, q.1⟩
    rw [← hc.2]
    exact (cl v (f v) (m.ed v hv'.1 q.1) hc.1 q.2).symm
  rw [← List.countP_eq_length_filter] at this
  omega
theorem pick (nd : V.Nodup) {f : Int → Int} (m : Mt V E f) (cl : ∀ u v, E u v → A u = false → A v = false → c u = c v) : ∀ (Ls : List Int), Ls.Nodup → (∀ l ∈ Ls, V.countP (Cls A c l) % 2 = 1) →
    ∃ ws : List Int, ws.length = Ls.length ∧ ws.Nodup ∧ ∀ x ∈ ws, x ∈ V ∧ (un f x || A x) = true ∧ c (f x) ∈ Ls
  | [], _, _ => ⟨[], rfl, List.nodup_nil, fun x hx => by simp at hx⟩
  | l :: r, h1, h2 => by
    obtain ⟨ws, q1, q2, q3⟩ := pick nd m cl r (List.nodup_cons.mp h1).2 fun x hx => h2 x (List.mem_cons_of_mem _ hx)
    obtain ⟨v, hv, ha, hc, ho⟩ := exists_out nd m cl (h2 l List.mem_cons_self)
    refine ⟨f v :: ws, by simp [q1], List.nodup_cons.mpr ⟨fun hm => ?_, q2⟩, fun x hx => ?_⟩
    · have := (q3 _ hm).2.2
      rw [m.inv v hv, hc] at this
      exact (List.nodup_cons.mp h1).1 this
    · rcases List.mem_cons.mp hx with e | e
      · subst e
        refine ⟨m.inn v hv, ?_, by rw [m.inv v hv, hc]; exact List.mem_cons_self⟩
        rcases ho with o | o
        · rw [un_t.mpr (by rw [o, o])]; rfl
        · rw [o]; simp
      · have := q3 x e
        exact ⟨this.1, this.2.1, List.mem_cons_of_mem _ this.2.2⟩
theorem bound (nd : V.Nodup) {f : Int → Int} (m : Mt V E f) (cl : ∀ u v, E u v → A u = false → A v = false → c u = c v) {Ls : List Int} (h1 : Ls.Nodup) (h2 : ∀ l ∈ Ls, V.countP (Cls A c l) % 2 = 1) : Ls.length ≤ df V f + V.countP A := by
  obtain ⟨ws, q1, q2, q3⟩ := pick nd m cl Ls h1 h2
  have h : ws ⊆ V.filter fun v => un f v || A v := fun x hx => List.mem_filter.mpr ⟨(q3 x hx).1, (q3 x hx).2.1⟩
  have := q2.length_le_of_subset h
  rw [← List.countP_eq_length_filter] at this
  have e := countP_or_and V (un f) A
  unfold df
  omega
theorem tight {f : Int → Int} (nd : V.Nodup) (m : Mt V E f) (cl : ∀ u v, E u v → A u = false → A v = false → c u = c v) {Ls : List Int} (h1 : Ls.Nodup) (h2 : ∀ l ∈ Ls, V.countP (Cls A c l) % 2 = 1)
    (ht : Ls.length = df V f + V.countP A) : ∀ v ∈ V, f v = v → A v = false ∧ c v ∈ Ls := by
  intro v hv hf
  obtain ⟨ws, q1, q2, q3⟩ := pick nd m cl Ls h1 h2
  have h : ws ⊆ V.filter fun v => un f v || A v := fun x hx => List.mem_filter.mpr ⟨(q3 x hx).1, (q3 x hx).2.1⟩
  have hl := q2.length_le_of_subset h
  rw [← List.countP_eq_length_filter] at hl
  have e := countP_or_and V (un f) A
  have z : V.countP (fun v => un f v && A v) = 0 := by unfold df at ht; omega
  have ha : A v = false := by
    cases q : A v with
    | false => rfl
    | true => exact absurd z (Nat.pos_iff_ne_zero.mp (List.countP_pos_iff.mpr ⟨v, hv, by simp [q, un_t.mpr hf]⟩))
  refine ⟨ha, ?_⟩
  have hm : v ∈ ws := by
    apply Classical.byContradiction
    intro hn
    have h' : (v :: ws) ⊆ V.filter fun v => un f v || A v := fun x hx => by
      rcases List.mem_cons.mp hx with e | e
      · subst e; exact List.mem_filter.mpr ⟨hv, by simp [un_t.mpr hf]⟩
      · exact h e
    have hl' := (List.nodup_cons.mpr ⟨hn, q2⟩ : (v :: ws).Nodup).length_le_of_subset h'
    rw [← List.countP_eq_length_filter] at hl'
    simp at hl'
    unfold df at ht
    omega
  have := (q3 v hm).2.2
  rwa [hf] at this
end
/-- f is greatest, and A and the odd classes Ls show it -/
structure Cert (V : List Int) (E : Int → Int → Prop) (f : Int → Int) (A : Int → Bool) (c : Int → Int) (Ls : List Int) : Prop where
  nd : Ls.Nodup
  cl : ∀ u v, E u v → A u = false → A v = false → c u = c v
  odd : ∀ l ∈ Ls, V.countP (Cls A c l) % 2 = 1
  tgt : Ls.length = df V f + V.countP A
  mis : ∀ v ∈ V, A v = false → c v ∈ Ls → ∃ g, Mt V E g ∧ df V g = df V f ∧ g v = v
  tch : ∀ a ∈ V, A a = true → ∃ d ∈ V, E a d ∧ A d = false ∧ c d ∈ Ls
theorem Cert.le {V : List Int} {E : Int → Int → Prop} {f g : Int → Int} {A : Int → Bool} {c : Int → Int} {Ls : List Int} (nd : V.Nodup) (h : Cert V E f A c Ls) (m : Mt V E g) : df V f ≤ df V g := by
  have := bound nd m h.cl h.nd h.odd
  have := h.tgt
  omega
theorem Cert.ms {V : List Int} {E : Int → Int → Prop} {f g : Int → Int} {A : Int → Bool} {c : Int → Int} {Ls : List Int} (nd : V.Nodup) (h : Cert V E f A c Ls) (m : Mt V E g) (e : df V g = df V f) {v : Int} (hv : v ∈ V) (hg : g v = v) : A v = false ∧ c v ∈ Ls :=
  tight nd m h.cl h.nd h.odd (by rw [e]; exact h.tgt) v hv hg

/-! ### paths that alternate -/
def Stp (E : Int → Int → Prop) (f : Int → Int) (k : Nat) (x y : Int) : Prop := if k % 2 = 0 then E x y else f x = y
def Alt (E : Int → Int → Prop) (f : Int → Int) : Nat → List Int → Prop
  | k, x :: y :: r => Stp E f k x y ∧ Alt E f (k + 1) (y :: r)
  | _, _ => True
section
variable {E : Int → Int → Prop} {f : Int → Int}
theorem Stp.par {k k' : Nat} {x y : Int} (h : k % 2 = k' % 2) : Stp E f k x y ↔ Stp E f k' x y := by unfold Stp; rw [h]
theorem Alt.par : ∀ {xs : List Int} {k k' : Nat}, k % 2 = k' % 2 → Alt E f k xs → Alt E f k' xs
  | [], _, _, _, _ => trivial
  | [_], _, _, _, _ => trivial
  | x :: y :: r, k, k', h, a => ⟨(Stp.par h).mp a.1, Alt.par (by omega) a.2⟩
theorem alt_app : ∀ {xs : List Int} {k : Nat} {y : Int} {ys : List Int}, Alt E f k (xs ++ y :: ys) ↔ Alt E f k (xs ++ [y]) ∧ Alt E f (k + xs.length) (y :: ys)
  | [], k, y, ys => ⟨fun h => ⟨trivial, h⟩, fun h => h.2⟩
  | [x], k, y, ys => ⟨fun h => ⟨⟨h.1, trivial⟩, h.2⟩, fun h => ⟨h.1.1, h.2⟩⟩
  | x :: z :: r, k, y, ys => by
    have ih := alt_app (xs := z :: r) (k := k + 1) (y := y) (ys := ys)
    show Stp E f k x z ∧ Alt E f (k + 1) ((z :: r) ++ y :: ys) ↔ (Stp E f k x z ∧ Alt E f (k + 1) ((z :: r) ++ [y])) ∧ _
    rw [ih]
    have e : k + 1 + (z :: r).length = k + (x :: z :: r).length := by simp; omega
    rw [e]
    exact ⟨fun ⟨a, b, c⟩ => ⟨⟨a, b⟩, c⟩, fun ⟨⟨a, b⟩, c⟩ => ⟨a, b, c⟩⟩
theorem Alt.mono {f' : Int → Int} {E' : Int → Int → Prop} : ∀ {xs : List Int} {k : Nat}, (∀ x ∈ xs, ∀ y ∈ xs, E x y → E' x y) → (∀ x ∈ xs, ∀ y ∈ xs, f x = y → f' x = y) → Alt E f k xs → Alt E' f' k xs
  | [], _, _, _, _ => trivial
  | [_], _, _, _, _ => trivial
  | x :: y :: r, k, h1, h2, a => by
    refine ⟨?_, Alt.mono (fun u hu v hv => h1 u (List.mem_cons_of_mem _ hu) v (List.mem_cons_of_mem _ hv)) (fun u hu v hv => h2 u (List.mem_cons_of_mem _ hu) v (List.mem_cons_of_mem _ hv)) a.2⟩
    have a1 := a.1
    unfold Stp at a1 ⊢
    split at a1
    · rw [if_pos ‹_›]; exact h1 _ (by simp) _ (by simp) a1
    · rw [if_neg ‹_›]; exact h2 _ (by simp) _ (by simp) a1
theorem Alt.rev (hs : ∀ u v, E u v → E v u) : ∀ {xs : List Int} {k : Nat}, (∀ x ∈ xs, f (f x) = x) → Alt E f k xs → Alt E f (k + xs.length) xs.reverse
  | [], _, _, _ => trivial
  | [_], _, _, _ => trivial
  | x :: y :: r, k, hf, a => by
    have ih := Alt.rev hs (xs := y :: r) (k := k + 1) (fun z hz => hf z (List.mem_cons_of_mem _ hz)) a.2
    rw [List.reverse_cons, List.reverse_cons, List.append_assoc]
    show Alt E f _ (r.reverse ++ y :: [x])
    rw [List.reverse_cons] at ih
    rw [alt_app]
    refine ⟨Alt.par (by simp; omega) ih, ?_, trivial⟩
    have a1 := a.1
    unfold Stp at a1 ⊢
    have e : (k + (x :: y :: r).length + r.reverse.length) % 2 = k % 2 := by simp; omega
    rw [e]
    split at a1
    · rw [if_pos ‹_›]; exact hs _ _ a1
    · rw [if_neg ‹_›, ← a1]; exact hf x (by simp)
theorem Alt.cons1 {k : Nat} {x : Int} {xs : List Int} (h : Alt E f k (x :: xs)) : Alt E f (k + 1) xs := by
  cases xs with
  | nil => trivial
  | cons y r => exact h.2
theorem Alt.left : ∀ {xs ys : List Int} {k : Nat}, Alt E f k (xs ++ ys) → Alt E f k xs
  | [], _, _, _ => trivial
  | [_], _, _, _ => trivial
  | x :: y :: r, ys, k, h => ⟨h.1, Alt.left (xs := y :: r) (ys := ys) h.2⟩
theorem Alt.right : ∀ {xs ys : List Int} {k : Nat}, Alt E f k (xs ++ ys) → Alt E f (k + xs.length) ys
  | [], _, _, h => h
  | x :: r, ys, k, h => by
    have := Alt.right (xs := r) (ys := ys) (Alt.cons1 (xs := r ++ ys) h)
    exact Alt.par (by simp; omega) this
end
/-! ### pairs along a list -/
/-- the partner along a list: first with second, third with fourth .. -/
def prs : List Int → Int → Int
  | a :: b :: r, v => if v = a then b else if v = b then a else prs r v
  | _, v => v
theorem prs_out : ∀ {L : List Int} {v : Int}, v ∉ L → prs L v = v
  | [], _, _ => rfl
  | [_], _, _ => rfl
  | a :: b :: r, v, h => by
    have h1 : v ≠ a := fun e => h (by simp [e])
    have h2 : v ≠ b := fun e => h (by simp [e])
    have h3 : v ∉ r := fun e => h (by simp [e])
    unfold prs
    rw [if_neg h1, if_neg h2]
    exact prs_out h3
theorem prs_in : ∀ {L : List Int} {v : Int}, v ∈ L → prs L v ∈ L
  | [], _, h => by simp at h
  | [_], _, h => h
  | a :: b :: r, v, h => by
    unfold prs
    by_cases h1 : v = a
    · rw [if_pos h1]; simp
    · rw [if_neg h1]
      by_cases h2 : v = b
      · rw [if_pos h2]; simp
      · rw [if_neg h2]
        have : v ∈ r := by simpa [h1, h2] using h
        have := prs_in this
        simp [this]
theorem prs_inv : ∀ {L : List Int} (v : Int), L.Nodup → prs L (prs L v) = v
  | [], _, _ => rfl
  | [_], _, _ => rfl
  | a :: b :: r, v, h => by
    have hd := List.nodup_cons.mp h
    have hd2 := List.nodup_cons.mp hd.2
    have hab : a ≠ b := fun e => hd.1 (by simp [e])
    by_cases h1 : v = a
    · subst h1
      simp [prs, Ne.symm hab]
    · by_cases h2 : v = b
      · subst h2
        simp [prs, h1]
      · have e : prs (a :: b :: r) v = prs r v := by simp [prs, h1, h2]
        rw [e]
        by_cases h3 : v ∈ r
        · have m := prs_in h3
          have n1 : prs r v ≠ a := fun e => hd.1 (by rw [← e]; simp [m])
          have n2 : prs r v ≠ b := fun e => hd2.1 (by rw [← e]; exact m)
          have e2 : prs (a :: b :: r) (prs r v) = prs r (prs r v) := by simp [prs, n1, n2]
          rw [e2]
          exact prs_inv v hd2.2
        · rw [prs_out h3, e, prs_out h3]
theorem prs_ne : ∀ {L : List Int} {v : Int}, L.Nodup → L.length % 2 = 0 → v ∈ L → prs L v ≠ v
  | [], _, _, _, h => by simp at h
  | [_], _, _, h, _ => by simp at h
  | a :: b :: r, v, h, hl, hv => by
    have hd := List.nodup_cons.mp h
    have hd2 := List.nodup_cons.mp hd.2
    have hab : a ≠ b := fun e => hd.1 (by simp [e])
    by_cases h1 : v = a
    · subst h1; simp [prs, Ne.symm hab]
    · by_cases h2 : v = b
      · subst h2; simp [prs, h1, Ne.symm h1]
      · have e : prs (a :: b :: r) v = prs r v := by simp [prs, h1, h2]
        rw [e]
        exact prs_ne hd2.2 (by simp at hl; omega) (by simpa [h1, h2] using hv)
/-- even steps are edges: so the pairs are -/
theorem prs_ed {E : Int → Int → Prop} {f : Int → Int} (hs : ∀ u v, E u v → E v u) : ∀ {L : List Int} {k : Nat} {v : Int}, k % 2 = 0 → Alt E f k L → prs L v ≠ v → E v (prs L v)
  | [], _, _, _, _, h => absurd rfl h
  | [_], _, _, _, _, h => absurd rfl h
  | a :: b :: r, k, v, hk, ha, h => by
    by_cases h1 : v = a
    · subst h1
      have := ha.1
      unfold Stp at this
      rw [if_pos hk] at this
      simpa [prs] using this
    · by_cases h2 : v = b
      · subst h2
        have := ha.1
        unfold Stp at this
        rw [if_pos hk] at this
        simpa [prs, h1] using hs _ _ this
      · have e : prs (a :: b :: r) v = prs r v := by simp [prs, h1, h2]
        rw [e] at h ⊢
        exact prs_ed hs (k := k + 2) (by omega) (Alt.cons1 ha.2) h
/-- where odd steps are f's: f keeps the list's inside -/
theorem alt_f {E : Int → Int → Prop} {f : Int → Int} : ∀ {L : List Int} {k : Nat} {v : Int}, k % 2 = 1 → L.length % 2 = 0 → (∀ x ∈ L, f (f x) = x) → Alt E f k L → v ∈ L → f v ∈ L
  | [], _, _, _, _, _, _, h => by simp at h
  | [_], _, _, _, h, _, _, _ => by simp at h
  | a :: b :: r, k, v, hk, hl, hf, ha, h => by
    have := ha.1
    unfold Stp at this
    rw [if_neg (by omega)] at this
    by_cases h1 : v = a
    · subst h1; rw [this]; simp
    · by_cases h2 : v = b
      · subst h2; rw [← this, hf a (by simp)]; simp
      · have hr : v ∈ r := by simpa [h1, h2] using h
        have := alt_f (k := k + 2) (by omega) (by simp at hl; omega) (fun x hx => hf x (by simp [hx])) (Alt.cons1 ha.2) hr
        simp [this]
end Bl

set_option autoImplicit false
set_option linter.all false
namespace Bl
theorem split_perm {V R : List Int} (nV : V.Nodup) (nR : R.Nodup) (sub : ∀ x ∈ R, x ∈ V) : V.Perm (V.filter (fun v => !decide (v ∈ R)) ++ R) := by
  refine (List.perm_ext_iff_of_nodup nV ?_).mpr fun a => ?_
  · rw [List.nodup_append]
    refine ⟨nd_filter _ nV, nR, fun a ha b hb e => ?_⟩
    have := (List.mem_filter.mp ha).2
    simp [e, hb] at this
  · rw [List.mem_append, List.mem_filter]
    constructor
    · intro h
      by_cases q : a ∈ R
      · exact .inr q
      · exact .inl ⟨h, by simp [q]⟩
    · rintro (h | h)
      · exact h.1
      · exact sub a h
theorem mem_out {V R : List Int} {v : Int} : v ∈ V.filter (fun v => !decide (v ∈ R)) ↔ v ∈ V ∧ v ∉ R := by
  rw [List.mem_filter]; simp
theorem df_split {V R : List Int} (nV : V.Nodup) (nR : R.Nodup) (sub : ∀ x ∈ R, x ∈ V) (p : Int → Bool) : V.countP p = (V.filter (fun v => !decide (v ∈ R))).countP p + R.countP p := by
  rw [(split_perm nV nR sub).countP_eq, List.countP_append]
theorem countP_one {L : List Int} (nd : L.Nodup) {x : Int} (hx : x ∈ L) {p : Int → Bool} (h : ∀ v ∈ L, p v = true ↔ v = x) : L.countP p = 1 := by
  rw [List.countP_congr (q := fun v => v == x) fun v hv => by rw [h v hv]; simp]
  have : L.count x = 1 := by
    have h1 := (List.nodup_iff_count.mp nd) x
    have h2 := List.count_pos_iff.mpr hx
    omega
  exact this
theorem countP_zero {L : List Int} {p : Int → Bool} (h : ∀ v ∈ L, p v = false) : L.countP p = 0 := by
  rw [List.countP_eq_zero]
  intro v hv
  rw [h v hv]; simp
section
variable {V : List Int} {E : Int → Int → Prop} {f : Int → Int}
/-- another pairing of the nodes of a list that f keeps -/
theorem patch (nV : V.Nodup) (m : Mt V E f) {L : List Int} (nL : L.Nodup) (sub : ∀ x ∈ L, x ∈ V) (cl : ∀ x ∈ L, f x ∈ L) {h : Int → Int} (h1 : ∀ x ∈ L, h (h x) = x) (h2 : ∀ x ∈ L, h x ∈ L) (h3 : ∀ x ∈ L, h x ≠ x → E x (h x)) :
    Mt V E (fun v => if v ∈ L then h v else f v) ∧ df V (fun v => if v ∈ L then h v else f v) + L.countP (un f) = df V f + L.countP (un h) := by
  have out : ∀ v ∈ V, v ∉ L → f v ∉ L := fun v hv hn q => hn (by have := cl _ q; rwa [m.inv v hv] at this)
  refine ⟨⟨fun v hv => ?_, fun v hv => ?_, fun v hv => ?_⟩, ?_⟩
  · by_cases q : v ∈ L
    · simp [q, h2 v q, h1 v q]
    · simp [q, out v hv q, m.inv v hv]
  · by_cases q : v ∈ L
    · simp [q, sub _ (h2 v q)]
    · simp [q, m.inn v hv]
  · by_cases q : v ∈ L
    · simp [q]; exact h3 v q
    · simp [q]; exact m.ed v hv
  · unfold df
    rw [df_split nV nL sub, df_split nV nL sub (un f)]
    have e1 : (V.filter (fun v => !decide (v ∈ L))).countP (un fun v => if v ∈ L then h v else f v) = (V.filter (fun v => !decide (v ∈ L))).countP (un f) := List.countP_congr fun v hv => by
      have := (mem_out.mp hv).2
      simp [un, this]
    have e2 : L.countP (un fun v => if v ∈ L then h v else f v) = L.countP (un h) := List.countP_congr fun v hv => by simp [un, hv]
    rw [e1, e2]
    omega
/-- on a list with f's steps first, all are paired by f -/
theorem alt_ne : ∀ {L : List Int} {k : Nat} {v : Int}, k % 2 = 1 → L.length % 2 = 0 → L.Nodup → (∀ x ∈ L, f (f x) = x) → Alt E f k L → v ∈ L → f v ≠ v
  | [], _, _, _, _, _, _, _, h => by simp at h
  | [_], _, _, _, h, _, _, _, _ => by simp at h
  | a :: b :: r, k, v, hk, hl, nd, hf, ha, h => by
    have := ha.1
    unfold Stp at this
    rw [if_neg (by omega)] at this
    have hd := List.nodup_cons.mp nd
    have hab : a ≠ b := fun e => hd.1 (by simp [e])
    by_cases h1 : v = a
    · subst h1; rw [this]; exact Ne.symm hab
    · by_cases h2 : v = b
      · subst h2; rw [← this, hf a (by simp), this]; exact hab
      · have hr : v ∈ r := by simpa [h1, h2] using h
        exact alt_ne (k := k + 2) (by omega) (by simp at hl; omega) (List.nodup_cons.mp hd.2).2 (fun x hx => hf x (by simp [hx])) (Alt.cons1 ha.2) hr
/-- the pairing turned along a way to a node that is left -/
theorem stem (G : Gk V E) (m : Mt V E f) {b z : Int} {D r : List Int} (he : D ++ [z] = b :: r) (nd : (b :: r).Nodup) (sub : ∀ x ∈ b :: r, x ∈ V) (ev : D.length % 2 = 0) (al : Alt E f 1 (b :: r)) (hz : f z = z) :
    ∃ g, Mt V E g ∧ df V g = df V f ∧ g b = b ∧ ∀ v, v ∉ b :: r → g v = f v := by
  have hD : ∀ x ∈ D, x ∈ b :: r := fun x hx => by rw [← he]; simp [hx]
  have hzr : z ∈ b :: r := by rw [← he]; simp
  have aD : Alt E f 1 D := by rw [← he] at al; exact al.left
  have nD : D.Nodup ∧ z ∉ D := by
    rw [← he, List.nodup_append] at nd
    exact ⟨nd.1, fun h => nd.2.2 z h z (by simp) rfl⟩
  have inv : ∀ x ∈ D, f (f x) = x := fun x hx => m.inv x (sub x (hD x hx))
  have lr : r.length % 2 = 0 := by
    have := congrArg List.length he
    simp at this
    omega
  have nr := List.nodup_cons.mp nd
  have cl : ∀ x ∈ b :: r, f x ∈ b :: r := fun x hx => by
    rw [← he] at hx
    rcases List.mem_append.mp hx with q | q
    · exact hD _ (alt_f (by omega) ev inv aD q)
    · rw [List.mem_singleton.mp q, hz]; exact hzr
  have pb : prs r b = b := prs_out nr.1
  have ein : ∀ x ∈ b :: r, x ≠ b → x ∈ r := fun x hx h => by simpa [h] using hx
  obtain ⟨p1, p2⟩ := patch G.nd m nd sub cl (h := prs r) (fun x hx => prs_inv x nr.2) (fun x hx => by
      by_cases q : x = b
      · rw [q, pb]; simp
      · exact List.mem_cons_of_mem _ (prs_in (ein x hx q))) (fun x hx h => prs_ed G.sym (k := 2) (by omega) (Alt.cons1 al) h)
  refine ⟨_, p1, ?_, by simp [pb], fun v hv => by rw [if_neg hv]⟩
  have c1 : (b :: r).countP (un f) = 1 := countP_one nd hzr fun v hv => by
    rw [un_t]
    constructor
    · intro h
      rw [← he] at hv
      rcases List.mem_append.mp hv with q | q
      · exact absurd h (alt_ne (by omega) ev nD.1 inv aD q)
      · exact List.mem_singleton.mp q
    · intro h; rw [h, hz]
  have c2 : (b :: r).countP (un (prs r)) = 1 := countP_one nd (x := b) (by simp) fun v hv => by
    rw [un_t]
    constructor
    · intro h
      apply Classical.byContradiction
      intro q
      exact prs_ne nr.2 lr (ein v hv q) h
    · intro h; rw [h, pb]
  omega

/-! ### a ring, and the web with the ring shrunk -/
structure Ring (V : List Int) (E : Int → Int → Prop) (f : Int → Int) (b : Int) (R' : List Int) : Prop where
  nd : (b :: R').Nodup
  sub : ∀ x ∈ b :: R', x ∈ V
  ev : R'.length % 2 = 0
  alt : Alt E f 0 (b :: (R' ++ [b]))
  ge : 2 ≤ R'.length
structure Shr (V : List Int) (E : Int → Int → Prop) (R : List Int) (n : Int) (V' : List Int) (E' : Int → Int → Prop) : Prop where
  nn : n ∉ V
  nd : V'.Nodup
  mem : ∀ x, x ∈ V' ↔ x = n ∨ (x ∈ V ∧ x ∉ R)
  e1 : ∀ u v, u ≠ n → v ≠ n → (E' u v ↔ E u v ∧ u ∉ R ∧ v ∉ R)
  e2 : ∀ v, E' n v ↔ v ∉ R ∧ ∃ x ∈ R, E x v
  e3 : ∀ v, E' v n ↔ E' n v
def AllE (E : Int → Int → Prop) : List Int → Prop
  | x :: y :: r => E x y ∧ AllE E (y :: r)
  | _ => True
theorem AllE.app : ∀ {xs : List Int} {y : Int} {ys : List Int}, AllE E (xs ++ y :: ys) ↔ AllE E (xs ++ [y]) ∧ AllE E (y :: ys)
  | [], y, ys => ⟨fun h => ⟨trivial, h⟩, fun h => h.2⟩
  | [x], y, ys => ⟨fun h => ⟨⟨h.1, trivial⟩, h.2⟩, fun h => ⟨h.1.1, h.2⟩⟩
  | x :: z :: r, y, ys => by
    have ih := AllE.app (xs := z :: r) (y := y) (ys := ys)
    show E x z ∧ AllE E ((z :: r) ++ y :: ys) ↔ (E x z ∧ AllE E ((z :: r) ++ [y])) ∧ _
    rw [ih]
    exact ⟨fun ⟨a, b, c⟩ => ⟨⟨a, b⟩, c⟩, fun ⟨⟨a, b⟩, c⟩ => ⟨a, b, c⟩⟩
theorem AllE.left : ∀ {xs ys : List Int}, AllE E (xs ++ ys) → AllE E xs
  | [], _, _ => trivial
  | [_], _, _ => trivial
  | x :: y :: r, ys, h => ⟨h.1, AllE.left (xs := y :: r) (ys := ys) h.2⟩
theorem AllE.right : ∀ {xs ys : List Int}, AllE E (xs ++ ys) → AllE E ys
  | [], _, h => h
  | [x], [], _ => trivial
  | [x], y :: ys, h => h.2
  | x :: y :: r, ys, h => AllE.right (xs := y :: r) (ys := ys) h.2
theorem prs_edA (hs : ∀ u v, E u v → E v u) : ∀ {L : List Int} {v : Int}, AllE E L → prs L v ≠ v → E v (prs L v)
  | [], _, _, h => absurd rfl h
  | [_], _, _, h => absurd rfl h
  | a :: b :: r, v, ha, h => by
    by_cases h1 : v = a
    · subst h1
      simpa [prs] using ha.1
    · by_cases h2 : v = b
      · subst h2
        simpa [prs, h1] using hs _ _ ha.1
      · have e : prs (a :: b :: r) v = prs r v := by simp [prs, h1, h2]
        rw [e] at h ⊢
        exact prs_edA hs (AllE.right (xs := [a, b]) ha) h
/-- the steps of a path without repetition are edges, all but for a repeated end -/
theorem alt_all (m : Mt V E f) : ∀ {L : List Int} {k : Nat}, L.Nodup → (∀ x ∈ L, x ∈ V) → Alt E f k L → AllE E L
  | [], _, _, _, _ => trivial
  | [_], _, _, _, _ => trivial
  | x :: y :: r, k, nd, sub, a => by
    refine ⟨?_, alt_all m (List.nodup_cons.mp nd).2 (fun z hz => sub z (List.mem_cons_of_mem _ hz)) a.2⟩
    have a1 := a.1
    unfold Stp at a1
    split at a1
    · exact a1
    · rw [← a1]
      refine m.ed x (sub x (by simp)) fun e => ?_
      rw [a1] at e
      exact (List.nodup_cons.mp nd).1 (by simp [e])
/-- a ring less a node is paired along the ring -/
theorem Ring.less (G : Gk V E) (m : Mt V E f) {b : Int} {R' : List Int} (h : Ring V E f b R') {x : Int} (hx : x ∈ b :: R') :
    ∃ ρ : Int → Int, (∀ v, ρ (ρ v) = v) ∧ (∀ v ∈ b :: R', ρ v ∈ b :: R') ∧ ρ x = x ∧ ∀ v ∈ b :: R', v ≠ x → ρ v ≠ v ∧ E v (ρ v) := by
  have al : AllE E (b :: R') := alt_all m (k := 0) h.nd h.sub (Alt.left (ys := [b]) h.alt)
  have hlast : ∀ p q, R' = p ++ [q] → E q b := fun p q e => by
    have a := h.alt
    rw [e, List.append_assoc] at a
    have a2 := (alt_app (xs := b :: p) (y := q) (ys := [b])).mp a
    have a3 := a2.2.1
    unfold Stp at a3
    have ev := h.ev
    rw [e] at ev
    simp at ev
    rw [if_pos (by simp; omega)] at a3
    exact a3
  obtain ⟨xs, ys, e⟩ := List.append_of_mem hx
  have nd := h.nd
  rw [e, List.nodup_append] at nd
  have nd2 := List.nodup_cons.mp nd.2.1
  have nxs : x ∉ xs := fun q => nd.2.2 x q x (by simp) rfl
  have ndL : (ys ++ xs).Nodup := List.nodup_append.mpr ⟨nd2.2, nd.1, fun a ha c hc e => nd.2.2 c hc a (by simp [ha]) e.symm⟩
  have xL : x ∉ ys ++ xs := by simp [nd2.1, nxs]
  have len := congrArg List.length e
  have ev := h.ev
  simp at len
  have evL : (ys ++ xs).length % 2 = 0 := by simp; omega
  have mem : ∀ v, v ∈ b :: R' ↔ v = x ∨ v ∈ ys ++ xs := fun v => by
    rw [e]; simp only [List.mem_append, List.mem_cons]
    constructor
    · rintro (q | q | q)
      · exact .inr (.inr q)
      · exact .inl q
      · exact .inr (.inl q)
    · rintro (q | q | q)
      · exact .inr (.inl q)
      · exact .inr (.inr q)
      · exact .inl q
  have aL : AllE E (ys ++ xs) := by
    rw [e] at al
    have a1 := AllE.app.mp al
    have ay : AllE E ys := AllE.right (xs := [x]) a1.2
    cases xs with
    | nil => rw [List.append_nil]; exact ay
    | cons c xs' =>
      have hc : b = c := (List.cons.inj e).1
      subst hc
      rw [AllE.app]
      refine ⟨?_, AllE.left a1.1⟩
      rcases List.eq_nil_or_concat ys with q | ⟨p, q, q2⟩
      · rw [q]; trivial
      · rw [List.concat_eq_append] at q2
        rw [q2, List.append_assoc]
        refine AllE.app.mpr ⟨by rw [← q2]; exact ay, ?_, trivial⟩
        refine hlast (xs' ++ x :: p) q ?_
        rw [(List.cons.inj e).2, q2]; simp
  refine ⟨prs (ys ++ xs), fun v => prs_inv v ndL, fun v hv => ?_, prs_out xL, fun v hv hne => ?_⟩
  · rw [mem]
    rcases (mem v).mp hv with q | q
    · rw [q, prs_out xL]; exact .inl rfl
    · exact .inr (prs_in q)
  · have hv' : v ∈ ys ++ xs := ((mem v).mp hv).resolve_left hne
    have := prs_ne ndL evL hv'
    exact ⟨this, prs_edA G.sym aL this⟩
variable {R R' V' : List Int} {n b : Int} {E' : Int → Int → Prop}
theorem Shr.perm (S : Shr V E R n V' E') (nV : V.Nodup) : V'.Perm (n :: V.filter (fun v => !decide (v ∈ R))) := by
  refine (List.perm_ext_iff_of_nodup S.nd ?_).mpr fun a => ?_
  · exact List.nodup_cons.mpr ⟨fun h => S.nn (mem_out.mp h).1, nd_filter _ nV⟩
  · rw [S.mem, List.mem_cons, mem_out]
theorem Shr.gk (S : Shr V E R n V' E') (G : Gk V E) : Gk V' E' := by
  have ne : ∀ u v, E u v → u ≠ n := fun u v h e => S.nn (e ▸ G.inn u v h)
  have ne2 : ∀ u v, E u v → v ≠ n := fun u v h => ne v u (G.sym u v h)
  have hn : ∀ v, E' n v → v ∈ V ∧ v ∉ R := fun v h => by
    obtain ⟨h1, x, hx, h2⟩ := (S.e2 v).mp h
    exact ⟨G.inn v x (G.sym _ _ h2), h1⟩
  refine ⟨S.nd, fun u v h => ?_, fun u h => ?_, fun u v h => ?_⟩
  · by_cases h1 : u = n
    · subst h1; exact (S.e3 v).mpr h
    · by_cases h2 : v = n
      · subst h2; exact (S.e3 u).mp h
      · have := (S.e1 u v h1 h2).mp h
        exact (S.e1 v u h2 h1).mpr ⟨G.sym _ _ this.1, this.2.2, this.2.1⟩
  · by_cases h1 : u = n
    · rw [h1] at h
      exact S.nn (hn n h).1
    · exact G.irr u ((S.e1 u u h1 h1).mp h).1
  · rw [S.mem]
    by_cases h1 : u = n
    · exact .inl h1
    · by_cases h2 : v = n
      · rw [h2] at h
        exact .inr (hn u ((S.e3 u).mp h))
      · have := (S.e1 u v h1 h2).mp h
        exact .inr ⟨G.inn u v this.1, this.2.1⟩
theorem Shr.out (S : Shr V E R n V' E') {v : Int} (h : v ∈ V) : v ≠ n := fun e => S.nn (e ▸ h)
/-- a pairing of the shrunk web, opened -/
theorem Shr.lift (S : Shr V E R n V' E') (G : Gk V E) (nR : R.Nodup) (sR : ∀ x ∈ R, x ∈ V) (hR : ∀ x ∈ R, ∃ ρ : Int → Int, (∀ v, ρ (ρ v) = v) ∧ (∀ v ∈ R, ρ v ∈ R) ∧ ρ x = x ∧ ∀ v ∈ R, v ≠ x → ρ v ≠ v ∧ E v (ρ v))
    {g' : Int → Int} (m : Mt V' E' g') :
    (g' n = n → ∀ x ∈ R, ∃ g, Mt V E g ∧ df V g = df V' g' ∧ g x = x ∧ ∀ v ∈ V, v ∉ R → g' v = v → g v = v) ∧
    (g' n ≠ n → ∃ g, Mt V E g ∧ df V g = df V' g' ∧ ∀ v ∈ V, v ∉ R → g' v = v → g v = v) := by
  have iv : ∀ {v}, v ∈ V → v ∉ R → v ∈ V' := fun h1 h2 => (S.mem _).mpr (.inr ⟨h1, h2⟩)
  have inn : n ∈ V' := (S.mem n).mpr (.inl rfl)
  have cnt : ∀ p : Int → Bool, V'.countP p = (V.filter (fun v => !decide (v ∈ R))).countP p + (if p n = true then 1 else 0) := fun p => by
    rw [(S.perm G.nd).countP_eq, List.countP_cons]
  have fV : ∀ {v}, v ∈ V' → v ≠ n → v ∈ V ∧ v ∉ R := fun h1 h2 => ((S.mem _).mp h1).resolve_left h2
  constructor
  · intro hn x hx
    obtain ⟨ρ, r1, r2, r3, r4⟩ := hR x hx
    have gv : ∀ v ∈ V, v ∉ R → g' v ∈ V ∧ g' v ∉ R := fun v h1 h2 => fV (m.inn v (iv h1 h2)) fun e => by
      have := m.inv v (iv h1 h2)
      rw [e, hn] at this
      exact S.out h1 this.symm
    refine ⟨fun v => if v ∈ R then ρ v else g' v, ⟨fun v hv => ?_, fun v hv => ?_, fun v hv => ?_⟩, ?_, by simp [hx, r3], fun v h1 h2 h3 => by simp [h2, h3]⟩
    · by_cases q : v ∈ R
      · simp [q, r2 v q, r1]
      · simp [q, (gv v hv q).2, m.inv v (iv hv q)]
    · by_cases q : v ∈ R
      · simp [q, sR _ (r2 v q)]
      · simp [q, (gv v hv q).1]
    · by_cases q : v ∈ R
      · simp only [q, if_true]
        intro h
        by_cases z : v = x
        · rw [z, r3] at h; exact absurd rfl h
        · exact (r4 v q z).2
      · simp only [q, if_false]
        intro h
        have := m.ed v (iv hv q) h
        exact ((S.e1 _ _ (S.out hv) (S.out (gv v hv q).1)).mp this).1
    · unfold df
      rw [df_split G.nd nR sR, cnt, if_pos (un_t.mpr hn)]
      have e1 : (V.filter (fun v => !decide (v ∈ R))).countP (un fun v => if v ∈ R then ρ v else g' v) = (V.filter (fun v => !decide (v ∈ R))).countP (un g') := List.countP_congr fun v hv => by simp [un, (mem_out.mp hv).2]
      have e2 : R.countP (un fun v => if v ∈ R then ρ v else g' v) = 1 := countP_one nR hx fun v hv => by
        rw [un_t, if_pos hv]
        constructor
        · intro h
          apply Classical.byContradiction
          intro z
          exact (r4 v hv z).1 h
        · intro h; rw [h, r3]
      rw [e1, e2]
  · intro hn
    have hw := fV (m.inn n inn) hn
    have ew := (S.e2 _).mp (m.ed n inn hn)
    obtain ⟨_, x, hx, hxw⟩ := ew
    obtain ⟨ρ, r1, r2, r3, r4⟩ := hR x hx
    have wn : g' (g' n) = n := m.inv n inn
    generalize hwd : g' n = w at *
    have xw : x ≠ w := fun e => hw.2 (e ▸ hx)
    have gv : ∀ v ∈ V, v ∉ R → v ≠ w → g' v ∈ V ∧ g' v ∉ R ∧ g' v ≠ w := fun v h1 h2 h3 => by
      have q := m.inv v (iv h1 h2)
      have z := fV (m.inn v (iv h1 h2)) fun e => by
        rw [e, hwd] at q
        exact h3 q.symm
      refine ⟨z.1, z.2, fun e => ?_⟩
      rw [e, wn] at q
      exact S.out h1 q.symm
    have rx : ∀ v ∈ R, v ≠ x → ρ v ≠ x := fun v h1 h2 e => h2 (by have := r1 v; rw [e, r3] at this; exact this.symm)
    have e1 : ∀ v ∈ R, v ≠ x → (if v ∈ R then (if v = x then w else ρ v) else if v = w then x else g' v) = ρ v := fun v h1 h2 => by simp [h1, h2]
    refine ⟨fun v => if v ∈ R then (if v = x then w else ρ v) else if v = w then x else g' v, ⟨fun v hv => ?_, fun v hv => ?_, fun v hv => ?_⟩, ?_, fun v h1 h2 h3 => ?_⟩
    · by_cases q : v ∈ R
      · by_cases z : v = x
        · simp [hx, z, hw.2]
        · simp [q, z, r2 v q, rx v q z, r1]
      · by_cases z : v = w
        · simp [z, hw.2, hx]
        · have := gv v hv q z
          simp [q, z, this.2.1, this.2.2, m.inv v (iv hv q)]
    · by_cases q : v ∈ R
      · by_cases z : v = x
        · simp [hx, z, hw.1]
        · simp [q, z, sR _ (r2 v q)]
      · by_cases z : v = w
        · simp [z, hw.2, sR x hx]
        · simp [q, z, (gv v hv q z).1]
    · by_cases q : v ∈ R
      · by_cases z : v = x
        · simp only [hx, z, if_true]; exact fun _ => hxw
        · simp only [q, z, if_true, if_false]; exact fun _ => (r4 v q z).2
      · by_cases z : v = w
        · simp only [z, hw.2, if_true, if_false]; exact fun _ => G.sym _ _ hxw
        · simp only [q, z, if_false]
          intro h
          exact ((S.e1 _ _ (S.out hv) (S.out (gv v hv q z).1)).mp (m.ed v (iv hv q) h)).1
    · unfold df
      rw [df_split G.nd nR sR, cnt, if_neg (by rw [un_t, hwd]; exact hn)]
      have c1 : (V.filter (fun v => !decide (v ∈ R))).countP (un fun v => if v ∈ R then (if v = x then w else ρ v) else if v = w then x else g' v) = (V.filter (fun v => !decide (v ∈ R))).countP (un g') := List.countP_congr fun v hv => by
        have h := mem_out.mp hv
        by_cases z : v = w
        · rw [un_t, un_t, z, wn]
          simp only [hw.2, if_true, if_false]
          exact ⟨fun e => absurd e xw, fun e => absurd e.symm hn⟩
        · simp [un, h.2, z]
      have c2 : R.countP (un fun v => if v ∈ R then (if v = x then w else ρ v) else if v = w then x else g' v) = 0 := countP_zero fun v hv => by
        cases q : un (fun v => if v ∈ R then (if v = x then w else ρ v) else if v = w then x else g' v) v with
        | false => rfl
        | true =>
          have q' := un_t.mp q
          by_cases z : v = x
          · simp only [hx, z, if_true] at q'
            exact absurd q'.symm xw
          · rw [e1 v hv z] at q'
            exact absurd q' (r4 v hv z).1
      rw [c1, c2]
    · have z : v ≠ w := fun e => by
        rw [e, wn] at h3
        exact hn h3.symm
      simp [h2, z, h3]
/-- f, with the ring as one node -/
def con (f : Int → Int) (b n v : Int) : Int := if v = n then (if f b = b then n else f b) else if f v = b then n else f v
theorem con_mt (S : Shr V E (b :: R') n V' E') (G : Gk V E) (m : Mt V E f) (nR : (b :: R').Nodup) (sR : ∀ x ∈ b :: R', x ∈ V) (cl : ∀ x ∈ R', f x ∈ R' ∧ f x ≠ x) :
    Mt V' E' (con f b n) ∧ df V' (con f b n) = df V f := by
  have hb : b ∈ V := sR b (by simp)
  have iv : ∀ {v}, v ∈ V → v ∉ b :: R' → v ∈ V' := fun h1 h2 => (S.mem _).mpr (.inr ⟨h1, h2⟩)
  have inn : n ∈ V' := (S.mem n).mpr (.inl rfl)
  have nb := List.nodup_cons.mp nR
  -- f keeps what is outside, but for b's partner
  have fo : ∀ v ∈ V, v ∉ b :: R' → f v ≠ b → f v ∉ b :: R' := fun v h1 h2 h3 h4 => by
    rcases List.mem_cons.mp h4 with q | q
    · exact h3 q
    · have := (cl _ q).1
      rw [m.inv v h1] at this
      exact h2 (by simp [this])
  have fb : f b ≠ b → f b ∉ b :: R' := fun h q => by
    rcases List.mem_cons.mp q with q | q
    · exact h q
    · have := (cl _ q).1
      rw [m.inv b hb] at this
      exact nb.1 this
  have hout : ∀ v ∈ V, v ∉ b :: R' → con f b n v = if f v = b then n else f v := fun v h1 _ => if_neg (S.out h1)
  have hn : con f b n n = if f b = b then n else f b := if_pos rfl
  constructor
  · refine ⟨fun v hv => ?_, fun v hv => ?_, fun v hv => ?_⟩
    · rcases (S.mem v).mp hv with q | ⟨q1, q2⟩
      · subst q
        rw [hn]
        by_cases z : f b = b
        · rw [if_pos z, hn, if_pos z]
        · rw [if_neg z, hout _ (m.inn b hb) (fb z), if_pos (m.inv b hb)]
      · rw [hout v q1 q2]
        by_cases z : f v = b
        · rw [if_pos z, hn]
          have e : f b = v := by rw [← z]; exact m.inv v q1
          rw [if_neg (by rw [e]; intro h; exact q2 (by simp [h])), e]
        · rw [if_neg z, hout _ (m.inn v q1) (fo v q1 q2 z), m.inv v q1, if_neg fun e => q2 (by simp [e])]
    · rcases (S.mem v).mp hv with q | ⟨q1, q2⟩
      · subst q
        rw [hn]
        by_cases z : f b = b
        · rw [if_pos z]; exact inn
        · rw [if_neg z]; exact iv (m.inn b hb) (fb z)
      · rw [hout v q1 q2]
        by_cases z : f v = b
        · rw [if_pos z]; exact inn
        · rw [if_neg z]; exact iv (m.inn v q1) (fo v q1 q2 z)
    · rcases (S.mem v).mp hv with q | ⟨q1, q2⟩
      · subst q
        rw [hn]
        by_cases z : f b = b
        · rw [if_pos z]; exact fun h => absurd rfl h
        · rw [if_neg z]
          exact fun _ => (S.e2 _).mpr ⟨fb z, b, by simp, m.ed b hb z⟩
      · rw [hout v q1 q2]
        by_cases z : f v = b
        · rw [if_pos z]
          intro _
          refine (S.e3 v).mpr ((S.e2 v).mpr ⟨q2, b, by simp, ?_⟩)
          have e : f b = v := by rw [← z]; exact m.inv v q1
          have := m.ed b hb (by rw [e]; intro h; exact q2 (by simp [h]))
          rwa [e] at this
        · rw [if_neg z]
          intro h
          exact (S.e1 _ _ (S.out q1) (S.out (m.inn v q1))).mpr ⟨m.ed v q1 h, q2, fo v q1 q2 z⟩
  · unfold df
    rw [df_split G.nd nR sR (un f), (S.perm G.nd).countP_eq, List.countP_cons]
    have c1 : (V.filter (fun v => !decide (v ∈ b :: R'))).countP (un (con f b n)) = (V.filter (fun v => !decide (v ∈ b :: R'))).countP (un f) := List.countP_congr fun v hv => by
      have h := mem_out.mp hv
      rw [un_t, un_t, hout v h.1 h.2]
      by_cases z : f v = b
      · rw [if_pos z, z]
        exact ⟨fun e => absurd e.symm (S.out h.1), fun e => absurd (by simp [e]) h.2⟩
      · rw [if_neg z]
    have c2 : R'.countP (un f) = 0 := countP_zero fun v hv => by
      cases q : un f v with
      | false => rfl
      | true => exact absurd (un_t.mp q) (cl v hv).2
    rw [c1, List.countP_cons, c2, Nat.zero_add]
    congr 1
    by_cases z : f b = b
    · rw [if_pos (un_t.mpr (by rw [hn, if_pos z])), if_pos (un_t.mpr z)]
    · rw [if_neg (by rw [un_t, hn, if_neg z]; intro e; exact S.nn (e ▸ m.inn b hb)), if_neg (by rw [un_t]; exact z)]
end
end Bl

set_option autoImplicit false
set_option linter.all false
namespace Bl
theorem gl_app {A B : List Int} (h : B ≠ []) : (A ++ B).getLast? = B.getLast? := by
  rw [List.getLast?_append]
  cases e : B.getLast? with
  | none => exact absurd (List.getLast?_eq_none_iff.mp e) h
  | some y => rfl
theorem nd_rev {L : List Int} (h : L.Nodup) : L.reverse.Nodup := (List.reverse_perm L).nodup_iff.mpr h
section
variable {V : List Int} {E : Int → Int → Prop} {f : Int → Int} {R R' V' : List Int} {n b : Int} {E' : Int → Int → Prop}
theorem Ring.cl (m : Mt V E f) (h : Ring V E f b R') : ∀ x ∈ R', f x ∈ R' ∧ f x ≠ x := by
  have a : Alt E f 1 R' := Alt.left (ys := [b]) (Alt.cons1 h.alt)
  have nd := (List.nodup_cons.mp h.nd).2
  have inv : ∀ x ∈ R', f (f x) = x := fun x hx => m.inv x (h.sub x (by simp [hx]))
  exact fun x hx => ⟨alt_f (by omega) h.ev inv a hx, alt_ne (by omega) h.ev nd inv a hx⟩
theorem Cert.lift (S : Shr V E (b :: R') n V' E') (G : Gk V E) (m : Mt V E f) (rg : Ring V E f b R') {g0 : Int → Int} (m0 : Mt V E g0) (d0 : df V g0 = df V f) (b0 : g0 b = b) (k0 : ∀ v ∈ R', g0 v = f v)
    {A' : Int → Bool} {c' : Int → Int} {Ls : List Int} (C : Cert V' E' (con f b n) A' c' Ls) :
    Cert V E f (fun v => if v ∈ b :: R' then false else A' v) (fun v => if v ∈ b :: R' then c' n else c' v) Ls := by
  have G' := S.gk G
  have cl := rg.cl m
  obtain ⟨m1, d1⟩ := con_mt S G m rg.nd rg.sub cl
  obtain ⟨m2, d2⟩ := con_mt S G m0 rg.nd rg.sub fun x hx => by rw [k0 x hx]; exact cl x hx
  have inn : n ∈ V' := (S.mem n).mpr (.inl rfl)
  have iv : ∀ {v}, v ∈ V → v ∉ b :: R' → v ∈ V' := fun h1 h2 => (S.mem _).mpr (.inr ⟨h1, h2⟩)
  obtain ⟨an, cn⟩ := C.ms G'.nd m2 (by rw [d2, d1, d0]) inn (by simp [con, b0])
  have vin : ∀ u v, E u v → u ∈ V ∧ v ∈ V := fun u v h => ⟨G.inn u v h, G.inn v u (G.sym _ _ h)⟩
  have lift := fun g' (mg : Mt V' E' g') => S.lift G rg.nd rg.sub (fun x hx => rg.less G m hx) mg
  have cnt : ∀ p : Int → Bool, V'.countP p = (V.filter (fun v => !decide (v ∈ b :: R'))).countP p + (if p n = true then 1 else 0) := fun p => by
    rw [(S.perm G.nd).countP_eq, List.countP_cons]
  refine ⟨C.nd, fun u v h h1 h2 => ?_, fun l hl => ?_, ?_, fun v hv h1 h2 => ?_, fun a ha h => ?_⟩
  · have hu := S.out (vin u v h).1
    have hv := S.out (vin u v h).2
    by_cases q1 : u ∈ b :: R' <;> by_cases q2 : v ∈ b :: R' <;> simp only [q1, q2, if_true, if_false] at h1 h2 ⊢
    · exact C.cl _ _ ((S.e2 v).mpr ⟨q2, u, q1, h⟩) an h2
    · exact C.cl _ _ ((S.e3 u).mpr ((S.e2 u).mpr ⟨q1, v, q2, G.sym _ _ h⟩)) h1 an
    · exact C.cl _ _ ((S.e1 u v hu hv).mpr ⟨h, q1, q2⟩) h1 h2
  · have o := C.odd l hl
    rw [cnt] at o
    rw [df_split G.nd rg.nd rg.sub]
    have e1 : (V.filter (fun v => !decide (v ∈ b :: R'))).countP (Cls (fun v => if v ∈ b :: R' then false else A' v) (fun v => if v ∈ b :: R' then c' n else c' v) l) = (V.filter (fun v => !decide (v ∈ b :: R'))).countP (Cls A' c' l) := List.countP_congr fun v hv => by
      have h := (mem_out.mp hv).2
      rw [cls_t, cls_t, if_neg h, if_neg h]
    rw [e1]
    by_cases z : c' n = l
    · rw [if_pos (cls_t.mpr ⟨an, z⟩)] at o
      have e2 : (b :: R').countP (Cls (fun v => if v ∈ b :: R' then false else A' v) (fun v => if v ∈ b :: R' then c' n else c' v) l) = (b :: R').length := List.countP_eq_length.mpr fun v hv => by
        rw [cls_t, if_pos hv, if_pos hv]; exact ⟨rfl, z⟩
      rw [e2, List.length_cons]
      have := rg.ev
      omega
    · rw [if_neg (by rw [cls_t]; exact fun h => z h.2)] at o
      have e2 : (b :: R').countP (Cls (fun v => if v ∈ b :: R' then false else A' v) (fun v => if v ∈ b :: R' then c' n else c' v) l) = 0 := countP_zero fun v hv => by
        cases q : Cls (fun v => if v ∈ b :: R' then false else A' v) (fun v => if v ∈ b :: R' then c' n else c' v) l v with
        | false => rfl
        | true =>
          have := (cls_t.mp q).2
          rw [if_pos hv] at this
          exact absurd this z
      rw [e2]
      exact o
  · rw [C.tgt, d1, df_split G.nd rg.nd rg.sub, cnt, if_neg (by rw [an]; simp)]
    have e1 : (V.filter (fun v => !decide (v ∈ b :: R'))).countP (fun v => if v ∈ b :: R' then false else A' v) = (V.filter (fun v => !decide (v ∈ b :: R'))).countP A' := List.countP_congr fun v hv => by rw [if_neg (mem_out.mp hv).2]
    have e2 : (b :: R').countP (fun v => if v ∈ b :: R' then false else A' v) = 0 := countP_zero fun v hv => by rw [if_pos hv]
    rw [e1, e2]
  · by_cases q : v ∈ b :: R'
    · obtain ⟨g', mg, dg, hg⟩ := C.mis n inn an cn
      obtain ⟨g, y1, y2, y3, _⟩ := (lift g' mg).1 hg v q
      exact ⟨g, y1, by rw [y2, dg, d1], y3⟩
    · simp only [q, if_false] at h1 h2
      obtain ⟨g', mg, dg, hg⟩ := C.mis v (iv hv q) h1 h2
      by_cases z : g' n = n
      · obtain ⟨g, y1, y2, _, y3⟩ := (lift g' mg).1 z b (by simp)
        exact ⟨g, y1, by rw [y2, dg, d1], y3 v hv q hg⟩
      · obtain ⟨g, y1, y2, y3⟩ := (lift g' mg).2 z
        exact ⟨g, y1, by rw [y2, dg, d1], y3 v hv q hg⟩
  · by_cases q : a ∈ b :: R'
    · simp only [q, if_true] at h
      cases h
    · simp only [q, if_false] at h
      obtain ⟨d, hd, h1, h2, h3⟩ := C.tch a (iv ha q) h
      by_cases z : d = n
      · subst z
        obtain ⟨_, x, hx, h4⟩ := (S.e2 a).mp ((S.e3 a).mp h1)
        exact ⟨x, rg.sub x hx, G.sym _ _ h4, by simp only [hx, if_true], by simp only [hx, if_true]; exact h3⟩
      · have hd' := ((S.mem d).mp hd).resolve_left z
        refine ⟨d, hd'.1, ((S.e1 a d (S.out ha) z).mp h1).1, ?_, ?_⟩
        · simp only [hd'.2, if_false]; exact h2
        · simp only [hd'.2, if_false]; exact h3

/-! ### paths by which a pairing gets one pair more -/
structure Aug (V : List Int) (E : Int → Int → Prop) (f : Int → Int) (P : List Int) : Prop where
  nd : P.Nodup
  sub : ∀ x ∈ P, x ∈ V
  ev : P.length % 2 = 0
  ne : P ≠ []
  alt : Alt E f 0 P
  hd : ∀ x, P.head? = some x → f x = x
  lst : ∀ x, P.getLast? = some x → f x = x
theorem Aug.flip (G : Gk V E) (m : Mt V E f) {P : List Int} (h : Aug V E f P) : Mt V E (fun v => if v ∈ P then prs P v else f v) ∧ df V (fun v => if v ∈ P then prs P v else f v) + 2 = df V f := by
  have hex : ∃ p M z, P = p :: (M ++ [z]) := by
    have e := h.ev
    have ne := h.ne
    cases hP : P with
    | nil => exact absurd hP ne
    | cons p r =>
      rcases List.eq_nil_or_concat r with q | ⟨M, z, q⟩
      · rw [hP, q] at e; simp at e
      · rw [List.concat_eq_append] at q
        exact ⟨p, M, z, by rw [q]⟩
  obtain ⟨p, M, z, hP⟩ := hex
  have hp := h.hd p (by rw [hP]; rfl)
  have hz := h.lst z (by rw [hP, ← List.cons_append, List.getLast?_concat])
  have nd := h.nd
  have sub := h.sub
  have ev := h.ev
  have al := h.alt
  rw [hP] at nd sub ev al
  have nd1 := List.nodup_cons.mp nd
  have nd2 := List.nodup_append.mp nd1.2
  have aM : Alt E f 1 M := Alt.left (Alt.cons1 al)
  have evM : M.length % 2 = 0 := by simp at ev; omega
  have inv : ∀ x ∈ M, f (f x) = x := fun x hx => m.inv x (sub x (by simp [hx]))
  obtain ⟨q1, q2⟩ := patch G.nd m h.nd h.sub (fun x hx => by
    rw [hP] at hx ⊢
    rcases List.mem_cons.mp hx with e | e
    · rw [e, hp]; simp
    · rcases List.mem_append.mp e with e | e
      · have := alt_f (by omega) evM inv aM e
        simp [this]
      · rw [List.mem_singleton.mp e, hz]; simp) (h := prs P) (fun x hx => prs_inv x h.nd) (fun x hx => prs_in hx) (fun x hx e => prs_ed G.sym (k := 0) (by omega) h.alt e)
  refine ⟨q1, ?_⟩
  have c2 : P.countP (un (prs P)) = 0 := countP_zero fun v hv => by
    cases q : un (prs P) v with
    | false => rfl
    | true => exact absurd (un_t.mp q) (prs_ne h.nd h.ev hv)
  have c1 : P.countP (un f) = 2 := by
    rw [hP, List.countP_cons, List.countP_append, if_pos (un_t.mpr hp)]
    have : M.countP (un f) = 0 := countP_zero fun v hv => by
      cases q : un f v with
      | false => rfl
      | true => exact absurd (un_t.mp q) (alt_ne (by omega) evM nd2.1 inv aM hv)
    rw [this, List.countP_cons, if_pos (un_t.mpr hz)]
    rfl
  omega
/-- the ways in the shrunk web that keep clear of the ring -/
theorem con_alt (S : Shr V E (b :: R') n V' E') {L : List Int} {k : Nat} (hL : ∀ x ∈ L, x ≠ n) (a : Alt E' (con f b n) k L) : Alt E f k L := by
  refine Alt.mono (fun x hx y hy h => ((S.e1 x y (hL x hx) (hL y hy)).mp h).1) (fun x hx y hy h => ?_) a
  unfold con at h
  rw [if_neg (hL x hx)] at h
  split at h
  · exact absurd h.symm (hL y hy)
  · exact h
theorem con_un (S : Shr V E (b :: R') n V' E') {x : Int} (hx : x ≠ n) (h : con f b n x = x) : f x = x := by
  unfold con at h
  rw [if_neg hx] at h
  split at h
  · exact absurd h.symm hx
  · exact h
theorem con_n (S : Shr V E (b :: R') n V' E') (m : Mt V E f) (hb : b ∈ V) (h : con f b n n = n) : f b = b := by
  unfold con at h
  rw [if_pos rfl] at h
  split at h
  · assumption
  · exact absurd (h ▸ m.inn b hb) S.nn
theorem Aug.shr_out (S : Shr V E (b :: R') n V' E') {P : List Int} (h : Aug V' E' (con f b n) P) (hn : n ∉ P) : Aug V E f P := by
  have hx : ∀ x ∈ P, x ≠ n := fun x hx e => hn (e ▸ hx)
  refine ⟨h.nd, fun x q => (((S.mem x).mp (h.sub x q)).resolve_left (hx x q)).1, h.ev, h.ne, con_alt S hx h.alt, fun x q => ?_, fun x q => ?_⟩
  · exact con_un S (hx x (List.mem_of_head? q)) (h.hd x q)
  · exact con_un S (hx x (List.mem_of_getLast? q)) (h.lst x q)
theorem aug_nd {bf bh Q R : List Int} (h : (bf ++ n :: bh).Nodup) (hQ : Q.Nodup) (sQ : ∀ x ∈ Q, x ∈ R) (h1 : ∀ x ∈ bf ++ bh, x ∉ R) : (bf ++ (Q ++ bh)).Nodup := by
  rw [List.nodup_append] at h ⊢
  obtain ⟨a1, a2, a3⟩ := h
  have a2' := List.nodup_cons.mp a2
  refine ⟨a1, List.nodup_append.mpr ⟨hQ, a2'.2, fun a ha c hc e => h1 c (by simp [hc]) (e ▸ sQ a ha)⟩, fun a ha c hc e => ?_⟩
  rcases List.mem_append.mp hc with q | q
  · exact h1 a (by simp [ha]) (e ▸ sQ c q)
  · exact a3 a ha c (by simp [q]) e
/-- .. entered by an edge, left by the pairing -/
theorem Aug.openA (S : Shr V E (b :: R') n V' E') (G : Gk V E) (m : Mt V E f) (rg : Ring V E f b R') {bf bh Q Q0 Q1 : List Int} {p x : Int} (h : Aug V' E' (con f b n) ((bf ++ [p]) ++ n :: bh)) (odd : bf.length % 2 = 0)
    (q1 : Q = Q0 ++ [b]) (q2 : Q = x :: Q1) (nQ : Q.Nodup) (sQ : ∀ y ∈ Q, y ∈ b :: R') (aQ : Alt E f 1 Q) (lQ : Q.length % 2 = 1) (ex : E p x) : Aug V E f ((bf ++ [p]) ++ (Q ++ bh)) := by
  have nd := h.nd
  have nm : ∀ y ∈ bf ++ [p] ++ bh, y ≠ n := fun y hy e => by
    subst e
    rw [List.nodup_append] at nd
    rcases List.mem_append.mp hy with q | q
    · exact nd.2.2 _ q _ (by simp) rfl
    · exact (List.nodup_cons.mp nd.2.1).1 q
  have io : ∀ y ∈ bf ++ [p] ++ bh, y ∈ V ∧ y ∉ b :: R' := fun y hy => ((S.mem y).mp (h.sub y (by
    rcases List.mem_append.mp hy with q | q
    · exact List.mem_append_left _ q
    · exact List.mem_append_right _ (by simp [q])))).resolve_left (nm y hy)
  have hb : b ∈ V := rg.sub b (by simp)
  have ha := h.alt
  rw [List.append_assoc] at ha
  obtain ⟨a1, a2, a3⟩ := alt_app.mp ha
  have ev := h.ev
  refine ⟨aug_nd nd nQ sQ fun y hy => (io y hy).2, fun y hy => ?_, ?_, by simp, ?_, fun y hy => ?_, fun y hy => ?_⟩
  · rcases List.mem_append.mp hy with q | q
    · exact (io y (List.mem_append_left _ q)).1
    · rcases List.mem_append.mp q with q | q
      · exact rg.sub y (sQ y q)
      · exact (io y (List.mem_append_right _ q)).1
  · simp at ev ⊢; omega
  · rw [List.append_assoc]
    refine alt_app.mpr ⟨con_alt S (fun y hy => nm y (List.mem_append_left _ hy)) a1, ?_⟩
    rw [q2]
    refine ⟨by unfold Stp; rw [if_pos (by omega)]; exact ex, ?_⟩
    show Alt E f _ ((x :: Q1) ++ bh)
    rw [← q2, q1, List.append_assoc]
    rw [q1] at aQ lQ
    refine alt_app.mpr ⟨Alt.par (by omega) aQ, ?_⟩
    cases bh with
    | nil => trivial
    | cons y t =>
      have a4 := a3.1
      unfold Stp at a4
      rw [if_neg (by omega)] at a4
      refine ⟨?_, Alt.par (k := 0 + bf.length + 1 + 1) (by simp at lQ; omega) (con_alt S (fun z hz => nm z (List.mem_append_right _ hz)) a3.2)⟩
      unfold Stp
      rw [if_neg (by simp at lQ; omega)]
      unfold con at a4
      rw [if_pos rfl] at a4
      split at a4
      · exact absurd a4.symm (nm y (by simp))
      · exact a4
  · refine con_un S (nm y ?_) (h.hd y ?_)
    · cases bf with
      | nil => simp at hy; subst hy; simp
      | cons z r => simp at hy; subst hy; simp
    · cases bf with
      | nil => simpa using hy
      | cons z r => simpa using hy
  · rcases List.eq_nil_or_concat bh with q | ⟨bh', z, q⟩
    · subst q
      rw [q1, List.append_nil, ← List.append_assoc, List.getLast?_concat] at hy
      cases hy
      exact con_n S m hb (h.lst n (by simp))
    · rw [List.concat_eq_append] at q
      subst q
      rw [← List.append_assoc, ← List.append_assoc, List.getLast?_concat] at hy
      cases hy
      exact con_un S (nm y (by simp)) (h.lst y (by
        rw [← List.cons_append, ← List.append_assoc, List.getLast?_concat]))
/-- .. entered by the pairing, or begun at, and left by an edge -/
theorem Aug.openB (S : Shr V E (b :: R') n V' E') (G : Gk V E) (m : Mt V E f) (rg : Ring V E f b R') {bf bh Q Q0 Q1 : List Int} {p x : Int} (h : Aug V' E' (con f b n) (bf ++ n :: p :: bh)) (odd : bf.length % 2 = 0)
    (q1 : Q = Q0 ++ [b]) (q2 : Q = x :: Q1) (nQ : Q.Nodup) (sQ : ∀ y ∈ Q, y ∈ b :: R') (aQ : Alt E f 1 Q) (lQ : Q.length % 2 = 1) (ex : E x p) : Aug V E f (bf ++ (Q.reverse ++ p :: bh)) := by
  have nd := h.nd
  have nm : ∀ y ∈ bf ++ p :: bh, y ≠ n := fun y hy e => by
    subst e
    rw [List.nodup_append] at nd
    rcases List.mem_append.mp hy with q | q
    · exact nd.2.2 _ q _ (by simp) rfl
    · exact (List.nodup_cons.mp nd.2.1).1 q
  have io : ∀ y ∈ bf ++ p :: bh, y ∈ V ∧ y ∉ b :: R' := fun y hy => ((S.mem y).mp (h.sub y (by
    rcases List.mem_append.mp hy with q | q
    · exact List.mem_append_left _ q
    · exact List.mem_append_right _ (by simpa using .inr (List.mem_cons.mp q))))).resolve_left (nm y hy)
  have hb : b ∈ V := rg.sub b (by simp)
  have ha := h.alt
  obtain ⟨a1, a2, a3⟩ := alt_app.mp ha
  have ev := h.ev
  have invQ : ∀ y ∈ Q, f (f y) = y := fun y hy => m.inv y (rg.sub y (sQ y hy))
  have aR : Alt E f 0 Q.reverse := Alt.par (by omega) (Alt.rev G.sym invQ aQ)
  have r1 : Q.reverse = b :: Q0.reverse := by rw [q1]; simp
  have r2 : Q.reverse = Q1.reverse ++ [x] := by rw [q2]; simp
  have l1 : Q1.length % 2 = 0 := by rw [q2] at lQ; simp at lQ; omega
  refine ⟨aug_nd nd (nd_rev nQ) (fun y hy => sQ y (List.mem_reverse.mp hy)) fun y hy => (io y hy).2, fun y hy => ?_, ?_, by simp, ?_, fun y hy => ?_, fun y hy => ?_⟩
  · rcases List.mem_append.mp hy with q | q
    · exact (io y (List.mem_append_left _ q)).1
    · rcases List.mem_append.mp q with q | q
      · exact rg.sub y (sQ y (List.mem_reverse.mp q))
      · exact (io y (List.mem_append_right _ q)).1
  · simp at ev ⊢; omega
  · have hbf : Alt E f 0 (bf ++ [b]) := by
      rcases List.eq_nil_or_concat bf with q | ⟨bf', z, q⟩
      · rw [q]; trivial
      · rw [List.concat_eq_append] at q
        subst q
        rw [List.append_assoc] at a1 ⊢
        obtain ⟨c1, c2⟩ := alt_app.mp a1
        refine alt_app.mpr ⟨con_alt S (fun y hy => nm y (List.mem_append_left _ hy)) c1, ?_, trivial⟩
        have c3 := c2.1
        simp at odd
        unfold Stp at c3 ⊢
        rw [if_neg (by omega)] at c3 ⊢
        unfold con at c3
        have zn : z ≠ n := nm z (by simp)
        rw [if_neg zn] at c3
        split at c3
        · assumption
        · exact absurd (c3 ▸ m.inn z (io z (by simp)).1) S.nn
    rw [r1]
    refine alt_app.mpr ⟨hbf, ?_⟩
    show Alt E f _ ((b :: Q0.reverse) ++ p :: bh)
    rw [← r1, r2, List.append_assoc]
    rw [r2] at aR
    refine alt_app.mpr ⟨Alt.par (by omega) aR, ?_, Alt.par (k := 0 + bf.length + 1) (by simp; omega) (con_alt S (fun z hz => nm z (List.mem_append_right _ hz)) a3)⟩
    unfold Stp
    rw [if_pos (by simp; omega)]
    exact ex
  · cases bf with
    | nil =>
      rw [r1] at hy
      simp at hy
      subst hy
      exact con_n S m hb (h.hd n (by simp))
    | cons z r =>
      simp at hy
      subst hy
      exact con_un S (nm _ (by simp)) (h.hd _ (by simp))
  · have e : (p :: bh).getLast? = some y := by
      rw [← List.append_assoc] at hy
      rwa [gl_app (by simp)] at hy
    refine con_un S (nm y (List.mem_append_right _ (List.mem_of_getLast? e))) (h.lst y ?_)
    rw [gl_app (by simp), List.getLast?_cons_cons]
    exact e
end
end Bl

set_option autoImplicit false
set_option linter.all false
namespace Bl
section
variable {V : List Int} {E : Int → Int → Prop} {f : Int → Int}
theorem alt_join {k : Nat} {xs ys : List Int} {u v : Int} (h1 : Alt E f k (xs ++ [u])) (h2 : Stp E f (k + xs.length) u v) (h3 : Alt E f (k + xs.length + 1) (v :: ys)) : Alt E f k (xs ++ u :: v :: ys) :=
  alt_app.mpr ⟨h1, h2, h3⟩
/-- the ring of two ways of one tree -/
theorem ring_ok (G : Gk V E) (m : Mt V E f) {P1 Q1 S P Q D : List Int} {b u v z : Int} (hP : u :: P = P1 ++ b :: S) (hQ : v :: Q = Q1 ++ b :: S)
    (nP : (P1 ++ b :: S).Nodup) (nQ : (Q1 ++ b :: S).Nodup) (sP : ∀ x ∈ P1 ++ b :: S, x ∈ V) (sQ : ∀ x ∈ Q1 ++ b :: S, x ∈ V) (aP : Alt E f 1 (P1 ++ b :: S)) (aQ : Alt E f 1 (Q1 ++ b :: S))
    (dj : ∀ x ∈ P1, x ∉ Q1 ++ b :: S) (hD : P1 ++ b :: S = D ++ [z]) (ev : D.length % 2 = 0) (hz : f z = z) (lQ : (Q1 ++ b :: S).length % 2 = 1) (e : E u v) :
    Ring V E f b (P1.reverse ++ Q1) ∧ ∃ g, Mt V E g ∧ df V g = df V f ∧ g b = b ∧ ∀ w ∈ P1.reverse ++ Q1, g w = f w := by
  have lD := congrArg List.length hD
  simp at lD lQ
  have nP' := List.nodup_append.mp nP
  have nQ' := List.nodup_append.mp nQ
  obtain ⟨aP1, aP2⟩ := alt_app.mp aP
  obtain ⟨aQ1, aQ2⟩ := alt_app.mp aQ
  have par : P1.length % 2 = 0 := by
    apply Classical.byContradiction
    intro hn
    rcases List.eq_nil_or_concat P1 with q | ⟨P1', p', q⟩
    · rw [q] at hn; simp at hn
    · rcases List.eq_nil_or_concat Q1 with r | ⟨Q1', q', r⟩
      · rw [r] at lQ
        simp at lQ
        omega
      · rw [List.concat_eq_append] at q r
        subst q
        subst r
        rw [List.append_assoc] at aP1 aQ1
        have s1 := (alt_app.mp aP1).2.1
        have s2 := (alt_app.mp aQ1).2.1
        simp at hn lQ lD
        unfold Stp at s1 s2
        rw [if_neg (by omega)] at s1 s2
        have e1 : f b = p' := by rw [← s1]; exact m.inv p' (sP p' (by simp))
        have e2 : f b = q' := by rw [← s2]; exact m.inv q' (sQ q' (by simp))
        exact dj p' (by simp) (by rw [← e1, e2]; simp)
  have parQ : Q1.length % 2 = 0 := by omega
  have bP : b ∉ P1 := fun h => nP'.2.2 b h b (by simp) rfl
  have bQ : b ∉ Q1 := fun h => nQ'.2.2 b h b (by simp) rfl
  have invP : ∀ x ∈ P1 ++ [b], f (f x) = x := fun x hx => m.inv x (sP x (by simp at hx ⊢; rcases hx with h | h <;> simp [h]))
  have aR : Alt E f 0 (b :: P1.reverse) := by
    have := Alt.rev G.sym invP aP1
    rw [List.reverse_append] at this
    exact Alt.par (by simp; omega) this
  refine ⟨⟨?_, ?_, ?_, ?_, ?_⟩, ?_⟩
  · rw [List.nodup_cons]
    refine ⟨by simp [bP, bQ], List.nodup_append.mpr ⟨nd_rev nP'.1, nQ'.1, fun a ha c hc q => dj a (List.mem_reverse.mp ha) (by rw [q]; simp [hc])⟩⟩
  · intro x hx
    rcases List.mem_cons.mp hx with q | q
    · exact sP x (by simp [q])
    · rcases List.mem_append.mp q with q | q
      · exact sP x (by simp at q; simp [q])
      · exact sQ x (by simp [q])
  · simp; omega
  · -- the junction
    have hu : ∃ t, b :: P1.reverse = t ++ [u] ∧ t.length = P1.length := by
      cases P1 with
      | nil =>
        have := (List.cons.inj hP).1
        exact ⟨[], by rw [this]; rfl, rfl⟩
      | cons a r =>
        have := (List.cons.inj hP).1
        refine ⟨b :: r.reverse, by rw [this]; simp, by simp⟩
    have hv : ∃ t, Q1 ++ [b] = v :: t := by
      cases Q1 with
      | nil =>
        have := (List.cons.inj hQ).1
        exact ⟨[], by rw [this]; rfl⟩
      | cons a r =>
        have := (List.cons.inj hQ).1
        exact ⟨r ++ [b], by rw [this]; rfl⟩
    obtain ⟨t1, h1, l1⟩ := hu
    obtain ⟨t2, h2⟩ := hv
    have goal : b :: ((P1.reverse ++ Q1) ++ [b]) = t1 ++ u :: v :: t2 := by
      rw [List.append_assoc, h2, ← List.cons_append, h1]; simp
    rw [goal]
    rw [h1] at aR
    rw [h2] at aQ1
    refine alt_join aR ?_ (Alt.par (by omega) aQ1)
    unfold Stp
    rw [if_pos (by omega)]
    exact e
  · rw [List.length_append, List.length_reverse]
    apply Classical.byContradiction
    intro hn
    have l1 : P1.length = 0 := by omega
    have l2 : Q1.length = 0 := by omega
    rw [List.length_eq_zero_iff.mp l1] at hP
    rw [List.length_eq_zero_iff.mp l2] at hQ
    have e1 := (List.cons.inj hP).1
    have e2 := (List.cons.inj hQ).1
    rw [e1, e2] at e
    exact G.irr b e
  · have hs : ∃ D', b :: S = D' ++ [z] ∧ D'.length % 2 = 0 := by
      rcases List.eq_nil_or_concat S with q | ⟨T, w, q⟩
      · subst q
        have := congrArg List.getLast? hD
        rw [List.getLast?_concat, List.getLast?_concat] at this
        exact ⟨[], by rw [Option.some.inj this]; rfl, rfl⟩
      · rw [List.concat_eq_append] at q
        subst q
        have := congrArg List.getLast? hD
        rw [List.getLast?_concat, ← List.cons_append, ← List.append_assoc, List.getLast?_concat] at this
        refine ⟨b :: T, by rw [Option.some.inj this]; simp, ?_⟩
        simp at lD ⊢
        omega
    obtain ⟨D', h1, h2⟩ := hs
    obtain ⟨g, g1, g2, g3, g4⟩ := stem G m h1.symm nP'.2.1 (fun x hx => sP x (List.mem_append_right _ hx)) h2 (Alt.par (by omega) aP2) hz
    refine ⟨g, g1, g2, g3, fun w hw => g4 w fun hb => ?_⟩
    rcases List.mem_append.mp hw with q | q
    · exact nP'.2.2 w (List.mem_reverse.mp q) w hb rfl
    · exact nQ'.2.2 w q w hb rfl
/-- the path of two ways of two trees -/
theorem join_ok (G : Gk V E) (m : Mt V E f) {P Q D D' : List Int} {u v z z' : Int} (hD : u :: P = D ++ [z]) (hD' : v :: Q = D' ++ [z']) (nP : (u :: P).Nodup) (nQ : (v :: Q).Nodup) (sP : ∀ x ∈ u :: P, x ∈ V) (sQ : ∀ x ∈ v :: Q, x ∈ V)
    (aP : Alt E f 1 (u :: P)) (aQ : Alt E f 1 (v :: Q)) (dj : ∀ x ∈ u :: P, x ∉ v :: Q) (ev : D.length % 2 = 0) (ev' : D'.length % 2 = 0) (hz : f z = z) (hz' : f z' = z') (e : E u v) : Aug V E f ((u :: P).reverse ++ v :: Q) := by
  have l1 := congrArg List.length hD
  have l2 := congrArg List.length hD'
  simp at l1 l2
  refine ⟨List.nodup_append.mpr ⟨nd_rev nP, nQ, fun a ha c hc q => dj a (List.mem_reverse.mp ha) (q ▸ hc)⟩, fun x hx => ?_, ?_, by simp, ?_, fun x hx => ?_, fun x hx => ?_⟩
  · rcases List.mem_append.mp hx with q | q
    · exact sP x (List.mem_reverse.mp q)
    · exact sQ x q
  · simp; omega
  · have := Alt.rev G.sym (fun x hx => m.inv x (sP x hx)) aP
    rw [List.reverse_cons] at this ⊢
    rw [List.append_assoc]
    refine alt_join (Alt.par (by simp; omega) this) ?_ (Alt.par (by simp; omega) aQ)
    unfold Stp
    rw [if_pos (by simp; omega)]
    exact e
  · rw [hD] at hx
    simp at hx
    rw [← hx, hz]
  · rw [gl_app (by simp), hD', List.getLast?_concat] at hx
    cases hx
    exact hz'
/-- a forest of which no outer nodes are joined shows that f is greatest -/
theorem base_cert (G : Gk V E) (m : Mt V E f) {W : List Int} {n : Int} (hn : n ∉ V) (nW : W.Nodup) (sW : ∀ v ∈ W, v ∈ V) (all : ∀ v ∈ V, f v = v → v ∈ W) (far : ∀ v ∈ W, f v ≠ v → f v ∉ W)
    (way : ∀ v ∈ W, ∃ P D z, v :: P = D ++ [z] ∧ (v :: P).Nodup ∧ (∀ x ∈ v :: P, x ∈ V) ∧ D.length % 2 = 0 ∧ Alt E f 1 (v :: P) ∧ f z = z) (fin : ∀ v ∈ W, ∀ o, E v o → o ∉ W ∧ f o ∈ W) :
    Cert V E f (fun v => decide (f v ∈ W ∧ v ∉ W)) (fun v => if v ∈ W then v else n) W := by
  have hA : ∀ v, decide (f v ∈ W ∧ v ∉ W) = false ↔ ¬ (f v ∈ W ∧ v ∉ W) := fun v => by simp
  refine ⟨nW, fun u v h h1 h2 => ?_, fun l hl => ?_, ?_, fun v hv h1 h2 => ?_, fun a ha h => ?_⟩
  · rw [hA] at h1 h2
    have nu : u ∉ W := fun q => h2 ⟨(fin u q v h).2, (fin u q v h).1⟩
    have nv : v ∉ W := fun q => h1 ⟨(fin v q u (G.sym _ _ h)).2, (fin v q u (G.sym _ _ h)).1⟩
    rw [if_neg nu, if_neg nv]
  · rw [countP_one G.nd (sW l hl)]
    intro v hv
    rw [cls_t]
    constructor
    · rintro ⟨_, h⟩
      split at h
      · exact h
      · exact absurd (h ▸ sW l hl) hn
    · intro h
      subst h
      rw [if_pos hl]
      exact ⟨by simp [hl], rfl⟩
  · unfold df
    rw [df_split G.nd nW sW, df_split G.nd nW sW]
    have c1 : (V.filter (fun v => !decide (v ∈ W))).countP (un f) = 0 := countP_zero fun v hv => by
      have := mem_out.mp hv
      cases q : un f v with
      | false => rfl
      | true => exact absurd (all v this.1 (un_t.mp q)) this.2
    have c2 : W.countP (fun v => decide (f v ∈ W ∧ v ∉ W)) = 0 := countP_zero fun v hv => by simp [hv]
    have c3 : (V.filter (fun v => !decide (v ∈ W))).countP (fun v => decide (f v ∈ W ∧ v ∉ W)) = W.countP (fun v => !un f v) := by
      rw [List.countP_eq_length_filter, List.countP_eq_length_filter, ← List.length_map (as := W.filter _) f]
      refine List.Perm.length_eq ((List.perm_ext_iff_of_nodup (nd_filter _ (nd_filter _ G.nd)) ?_).mpr fun a => ?_)
      · have : ∀ L : List Int, L.Nodup → (∀ x ∈ L, x ∈ V) → (L.map f).Nodup := by
          intro L
          induction L with
          | nil => intro _ _; exact List.nodup_nil
          | cons x r ih =>
            intro h1 h2
            rw [List.map_cons, List.nodup_cons]
            refine ⟨fun hm => ?_, ih (List.nodup_cons.mp h1).2 fun y hy => h2 y (by simp [hy])⟩
            obtain ⟨y, hy, e⟩ := List.mem_map.mp hm
            have e1 := m.inv y (h2 y (by simp [hy]))
            rw [e, m.inv x (h2 x (by simp))] at e1
            exact (List.nodup_cons.mp h1).1 (e1 ▸ hy)
        exact this _ (nd_filter _ nW) fun x hx => sW x (List.mem_filter.mp hx).1
      · rw [List.mem_filter, mem_out, List.mem_map]
        constructor
        · rintro ⟨⟨h1, h2⟩, h3⟩
          have h3' := of_decide_eq_true h3
          refine ⟨f a, List.mem_filter.mpr ⟨h3'.1, ?_⟩, m.inv a h1⟩
          cases q : un f (f a) with
          | false => rfl
          | true =>
            have := un_t.mp q
            rw [m.inv a h1] at this
            exact absurd (this ▸ h3'.1) h2
        · rintro ⟨v, hv, e⟩
          have hv' := List.mem_filter.mp hv
          have ne : f v ≠ v := fun q => by simp [un, q] at hv'
          subst e
          refine ⟨⟨m.inn v (sW v hv'.1), far v hv'.1 ne⟩, decide_eq_true ⟨by rw [m.inv v (sW v hv'.1)]; exact hv'.1, far v hv'.1 ne⟩⟩
    have c4 : W.length = W.countP (un f) + W.countP (fun v => !un f v) := by
      rw [List.length_eq_countP_add_countP (un f)]
      congr 1
      exact List.countP_congr fun v _ => by simp
    omega
  · by_cases q : v ∈ W
    · obtain ⟨P, D, z, h1, h2, h3, h4, h5, h6⟩ := way v q
      obtain ⟨g, g1, g2, g3, _⟩ := stem G m h1.symm h2 h3 h4 h5 h6
      exact ⟨g, g1, g2, g3⟩
    · rw [if_neg q] at h2
      exact absurd (sW n h2) hn
  · have h' := of_decide_eq_true h
    have ne : f a ≠ a := fun q => h'.2 (q ▸ h'.1)
    exact ⟨f a, m.inn a ha, m.ed a ha ne, by simp [h'.1], by rw [if_pos h'.1]; exact h'.1⟩
end
end Bl

set_option autoImplicit false
set_option linter.all false
namespace Bl
/-! ### the number of pairs of a greatest pairing, node by node -/
section
variable {E : Int → Int → Prop}
/-- m pairs are as many as any pairing of the nodes L has, and one has them -/
def Best (E : Int → Int → Prop) (L : List Int) (m : Nat) : Prop := (∃ f, Mt L E f ∧ L.length = df L f + 2 * m) ∧ ∀ f, Mt L E f → L.length ≤ df L f + 2 * m
theorem Best.one {L : List Int} {m k : Nat} (h1 : Best E L m) (h2 : Best E L k) : m = k := by
  obtain ⟨f, f1, f2⟩ := h1.1
  obtain ⟨g, g1, g2⟩ := h2.1
  have a := h1.2 g g1
  have b := h2.2 f f1
  omega
theorem best_small {L : List Int} (irr : ∀ u, ¬ E u u) (h : L.length ≤ 1) : Best E L 0 := by
  have : ∀ f, Mt L E f → L.length = df L f := fun f m => by
    cases L with
    | nil => rfl
    | cons x r =>
      cases r with
      | cons y t => simp at h
      | nil =>
        have := m.inn x (by simp)
        have e : f x = x := by simpa using this
        simp [df, List.countP_cons, un, e]
  have m0 : Mt L E (fun v => v) := ⟨fun _ _ => rfl, fun _ h => h, fun _ _ h => absurd rfl h⟩
  exact ⟨⟨fun v => v, m0, by have := this _ m0; omega⟩, fun f m => by rw [this f m]; omega⟩
/-- x left alone -/
theorem mt_skip {x : Int} {r : List Int} (nx : x ∉ r) {f : Int → Int} (m : Mt r E f) : Mt (x :: r) E (fun v => if v = x then x else f v) ∧ df (x :: r) (fun v => if v = x then x else f v) = df r f + 1 := by
  have nev : ∀ v ∈ r, v ≠ x := fun v hv e => nx (e ▸ hv)
  refine ⟨⟨fun v hv => ?_, fun v hv => ?_, fun v hv => ?_⟩, ?_⟩
  · rcases List.mem_cons.mp hv with e | e
    · simp [e]
    · simp [nev v e, nev _ (m.inn v e), m.inv v e]
  · rcases List.mem_cons.mp hv with e | e
    · simp [e]
    · simp [nev v e, m.inn v e]
  · rcases List.mem_cons.mp hv with e | e
    · simp [e]
    · simp only [nev v e, if_false]; exact m.ed v e
  · unfold df
    rw [List.countP_cons, if_pos (by simp [un])]
    congr 1
    exact List.countP_congr fun v hv => by simp [un, nev v hv]
/-- x with y -/
theorem mt_pair {x y : Int} {r : List Int} (sym : ∀ u v, E u v → E v u) (nd : (x :: r).Nodup) (hy : y ∈ r) (e : E x y) {f : Int → Int} (m : Mt (r.filter fun v => !decide (v = y)) E f) :
    Mt (x :: r) E (fun v => if v = x then y else if v = y then x else f v) ∧ df (x :: r) (fun v => if v = x then y else if v = y then x else f v) = df (r.filter fun v => !decide (v = y)) f ∧ (x :: r).length = (r.filter fun v => !decide (v = y)).length + 2 := by
  have hd := List.nodup_cons.mp nd
  have yx : y ≠ x := fun q => hd.1 (q ▸ hy)
  have mem : ∀ v, v ∈ r.filter (fun v => !decide (v = y)) ↔ v ∈ r ∧ v ≠ y := fun v => by simp
  have nev : ∀ v ∈ r, v ≠ x := fun v hv q => hd.1 (q ▸ hv)
  have inn : ∀ v ∈ r, v ≠ y → f v ∈ r ∧ f v ≠ y ∧ f v ≠ x := fun v h1 h2 => by
    have := (mem _).mp (m.inn v ((mem v).mpr ⟨h1, h2⟩))
    exact ⟨this.1, this.2, nev _ this.1⟩
  have pr : r.Perm (y :: r.filter fun v => !decide (v = y)) := by
    refine (List.perm_ext_iff_of_nodup hd.2 ?_).mpr fun a => ?_
    · exact List.nodup_cons.mpr ⟨fun h => ((mem _).mp h).2 rfl, nd_filter _ hd.2⟩
    · rw [List.mem_cons, mem]
      constructor
      · intro h
        by_cases q : a = y
        · exact .inl q
        · exact .inr ⟨h, q⟩
      · rintro (h | h)
        · rw [h]; exact hy
        · exact h.1
  refine ⟨⟨fun v hv => ?_, fun v hv => ?_, fun v hv => ?_⟩, ?_, ?_⟩
  · rcases List.mem_cons.mp hv with q | q
    · simp [q, yx]
    · by_cases z : v = y
      · simp [z, yx]
      · simp [nev v q, z, (inn v q z).2.1, (inn v q z).2.2, m.inv v ((mem v).mpr ⟨q, z⟩)]
  · rcases List.mem_cons.mp hv with q | q
    · simp [q, hy]
    · by_cases z : v = y
      · simp [z, yx]
      · simp [nev v q, z, (inn v q z).1]
  · rcases List.mem_cons.mp hv with q | q
    · simp only [q, if_true]; exact fun _ => e
    · by_cases z : v = y
      · simp only [z, yx, if_true, if_false]; exact fun _ => sym _ _ e
      · simp only [nev v q, z, if_false]; exact m.ed v ((mem v).mpr ⟨q, z⟩)
  · unfold df
    rw [List.countP_cons, if_neg (by simp [un, yx]), Nat.add_zero, pr.countP_eq, List.countP_cons, if_neg (by simp [un, yx, Ne.symm yx]), Nat.add_zero]
    refine List.countP_congr fun v hv => ?_
    have := (mem v).mp hv
    simp [un, nev v this.1, this.2]
  · have := pr.length_eq
    simp at this ⊢
    omega
theorem mt_less1 {x : Int} {r : List Int} (nx : x ∉ r) {f : Int → Int} (m : Mt (x :: r) E f) (h : f x = x) : Mt r E f ∧ df (x :: r) f = df r f + 1 := by
  have inn : ∀ v ∈ r, f v ∈ r := fun v hv => by
    rcases List.mem_cons.mp (m.inn v (by simp [hv])) with q | q
    · have := m.inv v (by simp [hv])
      rw [q, h] at this
      exact absurd (this ▸ hv) nx
    · exact q
  refine ⟨⟨fun v hv => m.inv v (by simp [hv]), inn, fun v hv => m.ed v (by simp [hv])⟩, ?_⟩
  unfold df
  rw [List.countP_cons, if_pos (un_t.mpr h)]
theorem mt_less2 {x : Int} {r : List Int} (nd : (x :: r).Nodup) {f : Int → Int} (m : Mt (x :: r) E f) (h : f x ≠ x) : f x ∈ r ∧ E x (f x) ∧ Mt (r.filter fun v => !decide (v = f x)) E f ∧ df (x :: r) f = df (r.filter fun v => !decide (v = f x)) f ∧ (x :: r).length = (r.filter fun v => !decide (v = f x)).length + 2 := by
  have hd := List.nodup_cons.mp nd
  have hy : f x ∈ r := by
    rcases List.mem_cons.mp (m.inn x (by simp)) with q | q
    · exact absurd q h
    · exact q
  have fyx : f (f x) = x := m.inv x (by simp)
  have mem : ∀ v, v ∈ r.filter (fun v => !decide (v = f x)) ↔ v ∈ r ∧ v ≠ f x := fun v => by simp
  have pr : r.Perm (f x :: r.filter fun v => !decide (v = f x)) := by
    refine (List.perm_ext_iff_of_nodup hd.2 ?_).mpr fun a => ?_
    · exact List.nodup_cons.mpr ⟨fun h => ((mem _).mp h).2 rfl, nd_filter _ hd.2⟩
    · rw [List.mem_cons, mem]
      constructor
      · intro h
        by_cases q : a = f x
        · exact .inl q
        · exact .inr ⟨h, q⟩
      · rintro (h | h)
        · rw [h]; exact hy
        · exact h.1
  refine ⟨hy, m.ed x (by simp) h, ⟨fun v hv => m.inv v (by simp [((mem v).mp hv).1]), fun v hv => ?_, fun v hv => m.ed v (by simp [((mem v).mp hv).1])⟩, ?_, ?_⟩
  · have hv' := (mem v).mp hv
    have vr : v ∈ x :: r := by simp [hv'.1]
    rw [mem]
    constructor
    · rcases List.mem_cons.mp (m.inn v vr) with q | q
      · have := m.inv v vr
        rw [q] at this
        exact absurd this.symm hv'.2
      · exact q
    · intro q
      have := m.inv v vr
      rw [q, fyx] at this
      exact hd.1 (this ▸ hv'.1)
  · unfold df
    rw [List.countP_cons, if_neg (by rw [un_t]; exact h), Nat.add_zero, pr.countP_eq, List.countP_cons, if_neg (by rw [un_t, fyx]; exact fun q => h q.symm), Nat.add_zero]
  · have := pr.length_eq
    simp at this ⊢
    omega
/-- the step: x alone, or with some y next to it -/
theorem best_step {x : Int} {r : List Int} (sym : ∀ u v, E u v → E v u) (nd : (x :: r).Nodup) {m0 m : Nat} (h0 : Best E r m0) (hm : m0 ≤ m) (hge : ∀ y ∈ r, E x y → ∃ k, Best E (r.filter fun v => !decide (v = y)) k ∧ k + 1 ≤ m)
    (hat : m = m0 ∨ ∃ y ∈ r, E x y ∧ ∃ k, Best E (r.filter fun v => !decide (v = y)) k ∧ m = k + 1) : Best E (x :: r) m := by
  have hd := List.nodup_cons.mp nd
  constructor
  · rcases hat with q | ⟨y, hy, e, k, hk, q⟩
    · obtain ⟨f, f1, f2⟩ := h0.1
      obtain ⟨a, b⟩ := mt_skip hd.1 f1
      exact ⟨_, a, by rw [b]; simp; omega⟩
    · obtain ⟨f, f1, f2⟩ := hk.1
      obtain ⟨a, b, c⟩ := mt_pair sym nd hy e f1
      exact ⟨_, a, by rw [b, c]; omega⟩
  · intro f mf
    by_cases q : f x = x
    · obtain ⟨a, b⟩ := mt_less1 hd.1 mf q
      have := h0.2 f a
      rw [b]
      simp
      omega
    · obtain ⟨a, b, c, d, e⟩ := mt_less2 nd mf q
      obtain ⟨k, hk, hk2⟩ := hge (f x) a b
      have := hk.2 f c
      rw [d, e]
      omega
end
end Bl

set_option autoImplicit false
set_option linter.all false
namespace Bl
section
variable {V : List Int} {E E' : Int → Int → Prop} {f : Int → Int}
/-! ### webs with other edges, other numbers -/
theorem mt_par (nd : V.Nodup) (m : Mt V E f) : ∃ k, V.length = df V f + 2 * k := by
  have ev := even_inv f _ (V.filter fun v => !un f v) rfl (nd_filter _ nd) fun v hv => by
    have hv' := List.mem_filter.mp hv
    have hne : f v ≠ v := fun e => by simp [un, e] at hv'
    refine ⟨List.mem_filter.mpr ⟨m.inn v hv'.1, ?_⟩, m.inv v hv'.1, hne⟩
    simp only [un, m.inv v hv'.1]
    simp [Ne.symm hne]
  have hs : V.length = df V f + (V.filter fun v => !un f v).length := by
    rw [← List.countP_eq_length_filter, List.length_eq_countP_add_countP (un f)]
    congr 1
    exact List.countP_congr fun v _ => by simp
  exact ⟨(V.filter fun v => !un f v).length / 2, by omega⟩
theorem mt_sub (m : Mt V E f) (h : ∀ u ∈ V, ∀ v ∈ V, E u v → E' u v) : Mt V E' f := ⟨m.inv, m.inn, fun v hv q => h v hv _ (m.inn v hv) (m.ed v hv q)⟩
/-- one pair less -/
theorem mt_part (nd : V.Nodup) (m : Mt V E f) {a : Int} (ha : a ∈ V) (h : f a ≠ a) : Mt V E (fun v => if v ∈ [a, f a] then v else f v) ∧ df V (fun v => if v ∈ [a, f a] then v else f v) = df V f + 2 := by
  have inv := m.inv a ha
  obtain ⟨p, q⟩ := patch nd m (L := [a, f a]) (h := fun v => v) (by simp [Ne.symm h]) (fun x hx => by
      rcases List.mem_cons.mp hx with e | e
      · rw [e]; exact ha
      · rw [List.mem_singleton.mp e]; exact m.inn a ha) (fun x hx => by
      rcases List.mem_cons.mp hx with e | e
      · rw [e]; simp
      · rw [List.mem_singleton.mp e, inv]; simp) (fun _ _ => rfl) (fun _ h => h) (fun _ _ h => absurd rfl h)
  refine ⟨p, ?_⟩
  have c1 : [a, f a].countP (un f) = 0 := countP_zero fun v hv => by
    cases z : un f v with
    | false => rfl
    | true =>
      have z := un_t.mp z
      rcases List.mem_cons.mp hv with e | e
      · rw [e] at z; exact absurd z h
      · rw [List.mem_singleton.mp e, inv] at z; exact absurd z.symm h
  have c2 : [a, f a].countP (un fun v => v) = 2 := by simp [un]
  omega
/-- more edges: at least as many pairs -/
theorem best_more (h : ∀ u ∈ V, ∀ v ∈ V, E u v → E' u v) {m m' : Nat} (b : Best E V m) (b' : Best E' V m') : m ≤ m' := by
  obtain ⟨f, f1, f2⟩ := b.1
  have := b'.2 f (mt_sub f1 h)
  omega
/-- one edge more: one pair more at most -/
theorem best_edge (nd : V.Nodup) {a b : Int} (h : ∀ u ∈ V, ∀ v ∈ V, E' u v → E u v ∨ (u = a ∧ v = b) ∨ (u = b ∧ v = a)) {m m' : Nat} (b1 : Best E V m) (b2 : Best E' V m') : m' ≤ m + 1 := by
  obtain ⟨f, f1, f2⟩ := b2.1
  have key : ∀ g, Mt V E' g → (g a ≠ b ∨ a = b ∨ a ∉ V) → Mt V E g := fun g mg hg => ⟨mg.inv, mg.inn, fun v hv q => by
    rcases h v hv _ (mg.inn v hv) (mg.ed v hv q) with e | e | e
    · exact e
    · rcases hg with z | z | z
      · exact absurd (by rw [← e.1]; exact e.2) z
      · exact absurd (by rw [e.2, e.1, z]) q
      · exact absurd (e.1 ▸ hv) z
    · have := mg.inv v hv
      rw [e.2, e.1] at this
      rcases hg with z | z | z
      · exact absurd this z
      · exact absurd (by rw [e.2, e.1, z]) q
      · exact absurd (e.2 ▸ mg.inn v hv) z⟩
  by_cases q : f a ≠ b ∨ a = b ∨ a ∉ V
  · have := b1.2 f (key f f1 q)
    omega
  · have q' := not_or.mp q
    have q2 := not_or.mp q'.2
    have fa : f a = b := Classical.byContradiction q'.1
    have aV : a ∈ V := Classical.byContradiction q2.2
    obtain ⟨p1, p2⟩ := mt_part nd f1 aV (by rw [fa]; exact Ne.symm q2.1)
    have := b1.2 _ (key _ p1 (.inl (by simp; exact q2.1)))
    omega
/-- without the edges of a node -/
theorem best_node (nd : V.Nodup) {a : Int} (ha : a ∈ V) (h : ∀ u ∈ V, ∀ v ∈ V, E' u v ↔ E u v ∧ u ≠ a ∧ v ≠ a) {m m' : Nat} (b1 : Best E V m) (b2 : Best E' V m') : (m' = m ∨ m' + 1 = m) ∧ (m' = m ↔ ∃ f, Mt V E f ∧ V.length = df V f + 2 * m ∧ f a = a) := by
  have le := best_more (fun u hu v hv e => ((h u hu v hv).mp e).1) b2 b1
  have fix : ∀ f, Mt V E' f → f a = a := fun f mf => Classical.byContradiction fun q => ((h _ ha _ (mf.inn a ha)).mp (mf.ed a ha q)).2.1 rfl
  have back : ∀ f, Mt V E f → f a = a → Mt V E' f := fun f mf q => ⟨mf.inv, mf.inn, fun v hv z => (h _ hv _ (mf.inn v hv)).mpr ⟨mf.ed v hv z, fun e => z (by rw [e, q]), fun e => by
    have := mf.inv v hv
    rw [e, q] at this
    exact z (by rw [e, this])⟩⟩
  constructor
  · obtain ⟨f, f1, f2⟩ := b1.1
    by_cases q : f a = a
    · have := b2.2 f (back f f1 q)
      omega
    · obtain ⟨p1, p2⟩ := mt_part nd f1 ha q
      have := b2.2 _ (back _ p1 (by simp))
      omega
  · constructor
    · intro e
      obtain ⟨f, f1, f2⟩ := b2.1
      exact ⟨f, mt_sub f1 fun u hu v hv e => ((h u hu v hv).mp e).1, by rw [← e]; exact f2, fix f f1⟩
    · rintro ⟨f, f1, f2, f3⟩
      have := b2.2 f (back f f1 f3)
      omega
/-- other numbers for the nodes -/
structure Iso (V : List Int) (π ρ : Int → Int) : Prop where
  a : ∀ v ∈ V, π v ∈ V ∧ ρ (π v) = v
  b : ∀ v ∈ V, ρ v ∈ V ∧ π (ρ v) = v
theorem iso_perm (nd : V.Nodup) {π ρ : Int → Int} (i : Iso V π ρ) : (V.map π).Perm V := by
  have n2 : ∀ L : List Int, (∀ x ∈ L, x ∈ V) → L.Nodup → (L.map π).Nodup := by
    intro L
    induction L with
    | nil => intro _ _; exact List.nodup_nil
    | cons x r ih =>
      intro h1 h2
      rw [List.map_cons, List.nodup_cons]
      refine ⟨fun hm => ?_, ih (fun y hy => h1 y (by simp [hy])) (List.nodup_cons.mp h2).2⟩
      obtain ⟨y, hy, e⟩ := List.mem_map.mp hm
      have e1 := (i.a y (h1 y (by simp [hy]))).2
      rw [e, (i.a x (h1 x (by simp))).2] at e1
      exact (List.nodup_cons.mp h2).1 (e1 ▸ hy)
  refine (List.perm_ext_iff_of_nodup (n2 V (fun _ h => h) nd) nd).mpr fun a => ?_
  rw [List.mem_map]
  constructor
  · rintro ⟨v, hv, e⟩
    rw [← e]; exact (i.a v hv).1
  · intro h
    exact ⟨ρ a, (i.b a h).1, (i.b a h).2⟩
theorem iso_mt (nd : V.Nodup) {π ρ : Int → Int} (i : Iso V π ρ) (hE : ∀ u ∈ V, ∀ v ∈ V, E u v → E' (π u) (π v)) (m : Mt V E f) : Mt V E' (fun v => π (f (ρ v))) ∧ df V (fun v => π (f (ρ v))) = df V f := by
  refine ⟨⟨fun v hv => ?_, fun v hv => ?_, fun v hv q => ?_⟩, ?_⟩
  · have h1 := i.b v hv
    have h2 := m.inn _ h1.1
    show π (f (ρ (π (f (ρ v))))) = v
    rw [(i.a _ h2).2, m.inv _ h1.1, h1.2]
  · exact (i.a _ (m.inn _ (i.b v hv).1)).1
  · have h1 := i.b v hv
    have := hE _ h1.1 _ (m.inn _ h1.1) (m.ed _ h1.1 fun e => q (by rw [e, h1.2]))
    rwa [h1.2] at this
  · unfold df
    rw [← (iso_perm nd i).countP_eq, List.countP_map]
    refine List.countP_congr fun v hv => ?_
    have h1 := i.a v hv
    show un _ (π v) = true ↔ _
    rw [un_t, un_t, h1.2]
    constructor
    · intro e
      have := congrArg ρ e
      rwa [(i.a _ (m.inn v hv)).2, h1.2] at this
    · intro e; rw [e]
theorem best_iso (nd : V.Nodup) {π ρ : Int → Int} (i : Iso V π ρ) (hE : ∀ u ∈ V, ∀ v ∈ V, E u v → E' (π u) (π v)) (hE' : ∀ u ∈ V, ∀ v ∈ V, E' u v → E (ρ u) (ρ v)) {m m' : Nat} (b1 : Best E V m) (b2 : Best E' V m') : m' = m := by
  have i' : Iso V ρ π := ⟨fun v hv => i.b v hv, fun v hv => i.a v hv⟩
  obtain ⟨f, f1, f2⟩ := b1.1
  obtain ⟨p1, p2⟩ := iso_mt nd i hE f1
  obtain ⟨g, g1, g2⟩ := b2.1
  obtain ⟨q1, q2⟩ := iso_mt nd i' hE' g1
  have := b2.2 _ p1
  have := b1.2 _ q1
  omega
end
end Bl

set_option Elab.async false
set_option autoImplicit false
set_option linter.all false
set_option maxRecDepth 100000
set_option maxHeartbeats 0
namespace HeadT
open PySem PySem.Spec PyProof.Rows L2
def top (i : Nat) : Stmt := PySem.Challenge.pw_pairswap_k14_errors_of_webs.main.body.getD i (.Pass ⟨0, 0, 0, 0⟩)
def D_is_number : He.DefD := ⟨("is_number", none), "is_number", "is_number", defArgs (top 5), defBody (top 5), defScope (top 5), [], []⟩
def D_check_web : He.DefD := ⟨("check_web", none), "check_web", "check_web", defArgs (top 6), defBody (top 6), defScope (top 6), [], []⟩
def D_neighbours : He.DefD := ⟨("neighbours", none), "neighbours", "neighbours", defArgs (top 7), defBody (top 7), defScope (top 7), [], []⟩
def D_way : He.DefD := ⟨("way", none), "way", "way", defArgs (top 8), defBody (top 8), defScope (top 8), [], []⟩
def D_ring_of : He.DefD := ⟨("ring_of", none), "ring_of", "ring_of", defArgs (top 9), defBody (top 9), defScope (top 9), [], []⟩
def D_shrunk : He.DefD := ⟨("shrunk", none), "shrunk", "shrunk", defArgs (top 10), defBody (top 10), defScope (top 10), [], []⟩
def D_round_way : He.DefD := ⟨("round_way", none), "round_way", "round_way", defArgs (top 11), defBody (top 11), defScope (top 11), [], []⟩
def D_joined : He.DefD := ⟨("joined", none), "joined", "joined", defArgs (top 12), defBody (top 12), defScope (top 12), [], []⟩
def D_opened : He.DefD := ⟨("opened", none), "opened", "opened", defArgs (top 13), defBody (top 13), defScope (top 13), [], []⟩
def D_through_ring : He.DefD := ⟨("through_ring", none), "through_ring", "through_ring", defArgs (top 14), defBody (top 14), defScope (top 14), [], []⟩
def D_better : He.DefD := ⟨("better", none), "better", "better", defArgs (top 15), defBody (top 15), defScope (top 15), [], []⟩
def D_greatest_of : He.DefD := ⟨("greatest_of", none), "greatest_of", "greatest_of", defArgs (top 16), defBody (top 16), defScope (top 16), [], []⟩
def D_greatest : He.DefD := ⟨("greatest", none), "greatest", "greatest", defArgs (top 17), defBody (top 17), defScope (top 17), [], []⟩
def D_missed_by_some : He.DefD := ⟨("missed_by_some", none), "missed_by_some", "missed_by_some", defArgs (top 18), defBody (top 18), defScope (top 18), [], []⟩
def D__law_cell : He.DefD := ⟨("_law_cell", none), "_law_cell", "_law_cell", defArgs (top 20), defBody (top 20), defScope (top 20), [], []⟩
def D__law_edges : He.DefD := ⟨("_law_edges", none), "_law_edges", "_law_edges", defArgs (top 21), defBody (top 21), defScope (top 21), [], []⟩
def D__law_turned : He.DefD := ⟨("_law_turned", none), "_law_turned", "_law_turned", defArgs (top 22), defBody (top 22), defScope (top 22), [], []⟩
def D__law_raises : He.DefD := ⟨("_law_raises", none), "_law_raises", "_law_raises", defArgs (top 23), defBody (top 23), defScope (top 23), [], []⟩
def D_law : He.DefD := ⟨("law", none), "law", "law", defArgs (top 24), defBody (top 24), defScope (top 24), [], []⟩
def fn0 : List He.DefD := [D_is_number, D_check_web, D_neighbours, D_way, D_ring_of, D_shrunk, D_round_way, D_joined, D_opened, D_through_ring, D_better, D_greatest_of, D_greatest, D_missed_by_some, D__law_cell, D__law_edges, D__law_turned, D__law_raises, D_law]
def fn : List He.DefD := fn0
def fa0 : List He.Fa := [.glo "SwapError", .exc "SwapError", .glo "InvalidWeb", .exc "InvalidWeb", .int "MOST_NODES" 20, .glo "is_number", .glo "check_web", .glo "neighbours", .glo "way", .glo "ring_of", .glo "shrunk", .glo "round_way", .glo "joined", .glo "opened", .glo "through_ring", .glo "better", .glo "greatest_of", .glo "greatest", .glo "missed_by_some", .glo "_law_cell", .glo "_law_edges", .glo "_law_turned", .glo "_law_raises", .glo "law", .free "bool", .free "len", .free "range", .free "list", .free "int", .free "sorted"]
def fa1 : List He.Fa := [.free "enumerate", .free "isinstance", .free "min", .free "max", .free "abs", .free "reversed", .free "str", .free "tuple", .free "repr", .free "ValueError"]
def fa : List He.Fa := fa0 ++ fa1
def lo0 : List Str := ["__name__", "SwapError", "InvalidWeb", "MOST_NODES", "is_number", "check_web", "neighbours", "way", "ring_of", "shrunk", "round_way", "joined", "opened", "through_ring", "better", "greatest_of", "greatest", "missed_by_some", "_law_cell", "_law_edges", "_law_turned", "_law_raises"]
def lo : List Str := lo0
abbrev exn : List (Nat × Str) := [(0, "SwapError"), (1, "InvalidWeb")]
abbrev R : PySem.W.OpenRow := PySem.W.OpenLaw.row PySem.Challenge.rw_pairswap_k14_errors_of_webs
abbrev hk : PySem.W.Hook := He.hookQ 4 fa fn (He.exsB exn)
def ob (s : PySem.W.SharedT) : He.AlQ := He.obsQG 4 fa fn (He.exsB exn) (HandSHeadRun.getT s)
theorem ob_eq (s : PySem.W.SharedT) : ob s = hk.obs s.abs := He.obsQG_eq (HandSHeadRun.getT_eq s)
theorem run (w : World) : HandSHeadRun.RunEq R (PySem.W.view R.prog [24]) hk ob 4000 lo w := by
  intro os
  kernel_rfl
end HeadT

set_option Elab.async false
set_option autoImplicit false
set_option linter.all false
set_option maxRecDepth 100000
set_option maxHeartbeats 4000000
namespace Sim
open PySem PySem.Spec PyProof.Rows L2
abbrev top (i : Nat) : Stmt := HeadT.top i
def k_MOST_NODES : Int := 20
abbrev exn : List (Nat × Str) := HeadT.exn
abbrev exl : List Nat := exn.map (·.1)
structure Tx (Γ : Gm) : Prop where
  d_is_number : Def Γ "is_number" (top 5) ["value", "most"]
  d_check_web : Def Γ "check_web" (top 6) ["count", "edges"]
  d_neighbours : Def Γ "neighbours" (top 7) ["count", "edges", "without"]
  d_way : Def Γ "way" (top 8) ["up", "node"]
  d_ring_of : Def Γ "ring_of" (top 9) ["first", "second"]
  d_shrunk : Def Γ "shrunk" (top 10) ["near", "ring", "name"]
  d_joined : Def Γ "joined" (top 12) ["near", "ring", "outside"]
  d_round_way : Def Γ "round_way" (top 11) ["ring", "node"]
  d_opened : Def Γ "opened" (top 13) ["near", "partner", "ring", "path", "name"]
  d_through_ring : Def Γ "through_ring" (top 14) ["near", "partner", "ring", "name"]
  d_better : Def Γ "better" (top 15) ["near", "partner", "name"]
  d_greatest_of : Def Γ "greatest_of" (top 16) ["count", "edges"]
  d_greatest : Def Γ "greatest" (top 17) ["count", "edges"]
  d_missed_by_some : Def Γ "missed_by_some" (top 18) ["count", "edges"]
  d__law_cell : Def Γ "_law_cell" (top 20) ["_law_script", "_law_k"]
  d__law_edges : Def Γ "_law_edges" (top 21) ["_law_script", "_law_at", "_law_count", "_law_dense"]
  d__law_turned : Def Γ "_law_turned" (top 22) ["_law_rows", "_law_cell_here"]
  d__law_raises : Def Γ "_law_raises" (top 23) ["_law_which", "_law_count", "_law_edges_here"]
  g_MOST_NODES : ∃ t, Γ.mg "MOST_NODES" = some (.int 20 t)
  x_SwapError : ExT Γ "SwapError" 0
  x_InvalidWeb : ExT Γ "InvalidWeb" 1
  b_bool : Γ.mg "bool" = none
  b_len : Γ.mg "len" = none
  b_range : Γ.mg "range" = none
  b_list : Γ.mg "list" = none
  b_int : Γ.mg "int" = none
  b_sorted : Γ.mg "sorted" = none
  b_enumerate : Γ.mg "enumerate" = none
  b_isinstance : Γ.mg "isinstance" = none
  b_min : Γ.mg "min" = none
  b_max : Γ.mg "max" = none
  b_abs : Γ.mg "abs" = none
  b_reversed : Γ.mg "reversed" = none
  b_str : Γ.mg "str" = none
  b_tuple : Γ.mg "tuple" = none
  b_repr : Γ.mg "repr" = none
  b_ValueError : Γ.mg "ValueError" = none
  xs : ExS Γ exl
abbrev s_is_number : Stmt := top 5
theorem sc_is_number : FnScope ["value", "most"] ["value", "most"] (defScope s_is_number) := ⟨rfl, rfl, rfl, by decide +kernel, rfl, by decide +kernel, by decide +kernel⟩
def mb_is_number (a : Dy × Int × Unit) : Option (Fl Empty Empty Bool Unit) :=
  ((andM (some (Dy.isI a.1)) (andM (some (!(Dy.isB a.1))) ((cst Int a.1).bind fun w1 => if decide ((0 : Int) ≤ w1) = true then some (decide (w1 ≤ a.2.1)) else some false)))).bind fun b => some (Fl.ret b ())
def m_is_number (a : Dy × Int × Unit) : Option Bool := (mb_is_number a).bind (retP Empty.elim)
theorem c_is_number {Γ : Gm} (T : Tx Γ) : Cal Γ "is_number" 1 false m_is_number := by
  refine cal_of (k := 0) (τ := Dy × Int × Unit) T.d_is_number sc_is_number (S := Empty) (sto := (fun s => s.elim)) (m := mb_is_number) Empty.elim (fun s => s.elim) rfl (fun X B a d => ?_) m_is_number fun _ => rfl
  exact (xb_one (xb_ret (c := ()) (xe_eq (xe_and (xe_isiD (T := "int") d.toCok (xe_var d.toCok 0 rfl rfl (.inl rfl)) rfl T.b_isinstance rfl T.b_int (by decide +kernel) isI_int) (xe_and (xe_not (xe_isiD (T := "bool") d.toCok (xe_var d.toCok 0 rfl rfl (.inl rfl)) rfl T.b_isinstance rfl T.b_bool (by decide +kernel) isB_bool)) (xe_and1 (xe_chain op_le op_le xe_int (xe_cst (γ := Int) (xe_var d.toCok 0 rfl rfl (.inl rfl))) (xe_var d.toCok 1 rfl rfl (.inl rfl)))))) rfl) rfl [(0, false), (1, false)] rfl rfl))
abbrev s_check_web : Stmt := top 6
theorem sc_check_web : FnScope ["count", "edges", "seen", "edge"] ["count", "edges"] (defScope s_check_web) := ⟨rfl, rfl, rfl, by decide +kernel, rfl, by decide +kernel, by decide +kernel⟩
def mb_check_web (a : Dy × (List (Dy × Dy)) × Unit) : Option (Fl Unit Empty Unit Unit) :=
  flb ((((b2 (some a.1) (b2 (some k_MOST_NODES) (some ()) fun x t => some (x, t)) fun x t => some (x, t)).bind m_is_number).bind fun w1 => some (!w1)).bind fun t => if t = true then
  ((some (Tt.mk "count" (by decide +kernel))).bind fun _ => some (Fl.err ⟨1, 0⟩ ()))
 else
  (some (Fl.nx ()))) fun _ =>
  (some ()).bind fun _ =>
  flb ((some a.2.1).bind fun xs => forF (fun (s4 : (List ((Int × Int) × Bool))) (x5 : (Dy × Dy)) =>
  flb (((orM (some (!true)) (some (!decide ((2 : Int) = (2 : Int)))))).bind fun t => if t = true then
  ((some (Tt.mk "edge" (by decide +kernel))).bind fun _ => some (Fl.err ⟨1, 0⟩ ()))
 else
  (some (Fl.nx ()))) fun _ =>
  flb (((orM (((b2 (some (x5).1) (b2 ((cst Int a.1).bind fun w7 => some (w7 - (1 : Int))) (some ()) fun x t => some (x, t)) fun x t => some (x, t)).bind m_is_number).bind fun w8 => some (!w8)) (((b2 (some (x5).2) (b2 ((cst Int a.1).bind fun w9 => some (w9 - (1 : Int))) (some ()) fun x t => some (x, t)) fun x t => some (x, t)).bind m_is_number).bind fun w10 => some (!w10)))).bind fun t => if t = true then
  ((some (Tt.mk "node" (by decide +kernel))).bind fun _ => some (Fl.err ⟨1, 0⟩ ()))
 else
  (some (Fl.nx ()))) fun _ =>
  flb (((orM ((cst Int (x5).1).bind fun w12 => (cst Int (x5).2).bind fun w13 => some (decide (w13 ≤ w12))) ((cst (Int × Int) x5).bind fun w14 => some ((look s4 w14).isSome)))).bind fun t => if t = true then
  ((some (Tt.mk "edge" (by decide +kernel))).bind fun _ => some (Fl.err ⟨1, 0⟩ ()))
 else
  (some (Fl.nx ()))) fun _ =>
  ((cst (Int × Int) x5).bind fun w17 => dput s4 w17 true).bind fun (z16 : (List ((Int × Int) × Bool))) =>
  (some (Fl.nx z16))) [] xs) fun (s4 : (List ((Int × Int) × Bool))) =>
  (some (Fl.nx ()))
def m_check_web (a : Dy × (List (Dy × Dy)) × Unit) : Option (Except Er Unit) := (mb_check_web a).bind (retE (fun _ => ()))
theorem c_check_web {Γ : Gm} (T : Tx Γ) : CalE Γ "check_web" 2 false m_check_web := by
  refine calE_of (k := 1) (τ := Dy × (List (Dy × Dy)) × Unit) T.d_check_web sc_check_web (S := Unit) (sto := (fun _ => deads 4)) (m := mb_check_web) (fun _ => ()) (fun _ _ => rfl) rfl (fun X B a W d => ?_) m_check_web fun _ => rfl
  exact (xb_seq (S1 := Unit) (sto1 := (fun (_ : Unit) => [vl (a.1 : Dy), vl (a.2.1 : (List (Dy × Dy))), .dead, .dead])) (xb_if (S := Unit) (sto := (fun (_ : Unit) => [vl (a.1 : Dy), vl (a.2.1 : (List (Dy × Dy))), .dead, .dead])) (xt_eq (xt_not (xt_val (xe_call d.toCok (c_is_number T) (by decide) rfl (xa_cons (xe_var d.toCok 0 rfl rfl (.inl rfl)) (xa_cons (xe_glob (z := k_MOST_NODES) d.toCok rfl (T.g_MOST_NODES).choose_spec ⟨_, rfl⟩) xa_nil))))) rfl) (xb_one (xb_raise d T.x_InvalidWeb (by decide) rfl (xe_eq xe_str rfl) [0, 1] rfl)) (xb_end [] () rfl)) (fun _ => (xb_pseq (sto1 := fun _ => [vl (a.1 : Dy), vl (a.2.1 : (List (Dy × Dy))), ow (OT.mk ([] : List ((Int × Int) × Bool))), .dead]) (xp_setDT d (α := Bool) (κ := (Int × Int)) 2 rfl (.inl rfl)) (fun _ => (xb_seq (S1 := (List ((Int × Int) × Bool))) (sto1 := (fun (s4 : (List ((Int × Int) × Bool))) => [vl (a.1 : Dy), vl (a.2.1 : (List (Dy × Dy))), ow (OT.mk (s4 : List ((Int × Int) × Bool))), .dead])) (xb_for (S := (List ((Int × Int) × Bool))) (sto := (fun (s4 : (List ((Int × Int) × Bool))) => [vl (a.1 : Dy), vl (a.2.1 : (List (Dy × Dy))), ow (OT.mk (s4 : List ((Int × Int) × Bool))), .dead])) d [] (xi_eq (xi_list (xe_var d.toCok 1 rfl rfl (.inl rfl))) rfl) (fun B d => xg_name d 3 rfl (.inl rfl)) (fun B d s4 x5 => (xb_seq (S1 := Unit) (sto1 := (fun (_ : Unit) => [vl (a.1 : Dy), vl (a.2.1 : (List (Dy × Dy))), ow (OT.mk (s4 : List ((Int × Int) × Bool))), vl (x5 : (Dy × Dy))])) (xb_if (S := Unit) (sto := (fun (_ : Unit) => [vl (a.1 : Dy), vl (a.2.1 : (List (Dy × Dy))), ow (OT.mk (s4 : List ((Int × Int) × Bool))), vl (x5 : (Dy × Dy))])) (xt_eq (xt_w (xw_or (xt_not (xt_val (xe_isi (T := "tuple") (r := true) d.toCok (xe_var d.toCok 3 rfl rfl (.inl rfl)) rfl T.b_isinstance rfl T.b_tuple (by decide +kernel) (by decide +kernel)))) (xw_or1 (xt_ofC (xc_op2 op_ne o_neI (xe_lenP d.toCok (xe_var d.toCok 3 rfl rfl (.inl rfl)) rfl T.b_len) xe_int))))) rfl) (xb_one (xb_raise d T.x_InvalidWeb (by decide) rfl (xe_eq xe_str rfl) [0, 1, 2, 3] rfl)) (xb_end [] () rfl)) (fun _ => (xb_seq (S1 := Unit) (sto1 := (fun (_ : Unit) => [vl (a.1 : Dy), vl (a.2.1 : (List (Dy × Dy))), ow (OT.mk (s4 : List ((Int × Int) × Bool))), vl (x5 : (Dy × Dy))])) (xb_if (S := Unit) (sto := (fun (_ : Unit) => [vl (a.1 : Dy), vl (a.2.1 : (List (Dy × Dy))), ow (OT.mk (s4 : List ((Int × Int) × Bool))), vl (x5 : (Dy × Dy))])) (xt_eq (xt_w (xw_or (xt_not (xt_val (xe_call d.toCok (c_is_number T) (by decide) rfl (xa_cons (xe_fst (xe_var d.toCok 3 rfl rfl (.inl rfl))) (xa_cons (xe_op2 op_sub o_sub (xe_cst (γ := Int) (xe_var d.toCok 0 rfl rfl (.inl rfl))) xe_int) xa_nil))))) (xw_or1 (xt_not (xt_val (xe_call d.toCok (c_is_number T) (by decide) rfl (xa_cons (xe_snd (xe_var d.toCok 3 rfl rfl (.inl rfl))) (xa_cons (xe_op2 op_sub o_sub (xe_cst (γ := Int) (xe_var d.toCok 0 rfl rfl (.inl rfl))) xe_int) xa_nil)))))))) rfl) (xb_one (xb_raise d T.x_InvalidWeb (by decide) rfl (xe_eq xe_str rfl) [0, 1, 2, 3] rfl)) (xb_end [] () rfl)) (fun _ => (xb_seq (S1 := Unit) (sto1 := (fun (_ : Unit) => [vl (a.1 : Dy), vl (a.2.1 : (List (Dy × Dy))), ow (OT.mk (s4 : List ((Int × Int) × Bool))), vl (x5 : (Dy × Dy))])) (xb_if (S := Unit) (sto := (fun (_ : Unit) => [vl (a.1 : Dy), vl (a.2.1 : (List (Dy × Dy))), ow (OT.mk (s4 : List ((Int × Int) × Bool))), vl (x5 : (Dy × Dy))])) (xt_eq (xt_w (xw_or (xt_ofC (xc_op2 op_ge o_ge (xe_cst (γ := Int) (xe_fst (xe_var d.toCok 3 rfl rfl (.inl rfl)))) (xe_cst (γ := Int) (xe_snd (xe_var d.toCok 3 rfl rfl (.inl rfl)))))) (xw_or1 (xt_ofC (xc_tin d.toCok (xe_cst (γ := (Int × Int)) (xe_var d.toCok 3 rfl rfl (.inl rfl))) (xt_own d.toCok 2 rfl rfl (.inl rfl))))))) rfl) (xb_one (xb_raise d T.x_InvalidWeb (by decide) rfl (xe_eq xe_str rfl) [0, 1, 2, 3] rfl)) (xb_end [] () rfl)) (fun _ => (xb_pseq (sto1 := fun (z16 : (List ((Int × Int) × Bool))) => [vl (a.1 : Dy), vl (a.2.1 : (List (Dy × Dy))), ow (OT.mk (z16 : List ((Int × Int) × Bool))), vl (x5 : (Dy × Dy))]) (xp1_eq (xp_tput d 2 rfl rfl (.inl rfl) (xe_cst (γ := (Int × Int)) (xe_var d.toCok 3 rfl rfl (.inl rfl))) xe_bl) rfl) (fun z16 => (xb_end [(3, false)] z16 rfl))))))))))) (fun s4 => (xb_end [(0, false), (1, false), (2, false)] () rfl)))))))
abbrev s_neighbours : Stmt := top 7
theorem sc_neighbours : FnScope ["count", "edges", "without", "near", "one", "other", "node"] ["count", "edges", "without"] (defScope s_neighbours) := ⟨rfl, rfl, rfl, by decide +kernel, rfl, by decide +kernel, by decide +kernel⟩
def mb_neighbours (a : Int × (List (Int × Int)) × (Option Int) × Unit) : Option (Fl Empty Empty (DK Int (List Int)) Unit) :=
  ((prange 0 a.1).bind fun w3 => nearB (fun (x2 : Int) => (some (!decide ((some x2) = a.2.2.1)))) w3).bind fun (z1 : (List (Int × List Int))) =>
  ((some a.2.1).bind fun xs => forP (fun (s4 : (List (Int × List Int))) (x5 : (Int × Int)) =>
  (((andM (some (!decide ((some x5.1) = a.2.2.1))) (some (!decide ((some x5.2) = a.2.2.1))))).bind fun t => if t = true then
  (nearApp s4 x5.1 x5.2).bind fun (z7 : (List (Int × List Int))) =>
  (nearApp z7 x5.2 x5.1).bind fun (z8 : (List (Int × List Int))) =>
  (some z8)
 else
  (some s4)).bind fun (s6 : (List (Int × List Int))) =>
  (some s6)) z1 xs).bind fun (s4 : (List (Int × List Int))) =>
  (some (DK.mk s4)).bind fun b => some (Fl.ret b ())
def m_neighbours (a : Int × (List (Int × Int)) × (Option Int) × Unit) : Option (DK Int (List Int)) := (mb_neighbours a).bind (retP Empty.elim)
theorem c_neighbours {Γ : Gm} (T : Tx Γ) : Cal Γ "neighbours" 1 false m_neighbours := by
  refine cal_of (k := 0) (τ := Int × (List (Int × Int)) × (Option Int) × Unit) T.d_neighbours sc_neighbours (S := Empty) (sto := (fun s => s.elim)) (m := mb_neighbours) Empty.elim (fun s => s.elim) rfl (fun X B a d => ?_) m_neighbours fun _ => rfl
  exact (xb_pseq (sto1 := fun (z1 : (List (Int × List Int))) => [vl (a.1 : Int), vl (a.2.1 : (List (Int × Int))), vl (a.2.2.1 : (Option Int)), ow (ON.mk z1), .dead, .dead, .dead]) (xp1_eq (xp_setNear (t := fun (x2 : Int) => (some (!decide ((some x2) = a.2.2.1)))) d (j := 3) (i := 6) rfl rfl rfl (xi_eq (xi_range1 d.toCok (xe_var d.toCok 0 rfl rfl (.inl rfl)) rfl T.b_range) rfl) rfl rfl rfl rfl rfl (fun X c x2 => xts_one (xt_eq (xt_ofC (xc_op2 op_ne o_neO (xe_opt (xe_var c 6 rfl rfl (.inl rfl)) nn_at) (xe_var c 2 rfl rfl (.inr (.inl rfl))))) rfl))) rfl) (fun z1 => (xb_pseq (S1 := (List (Int × List Int))) (sto1 := (fun (s4 : (List (Int × List Int))) => [.dead, vl (a.2.1 : (List (Int × Int))), vl (a.2.2.1 : (Option Int)), ow (ON.mk s4), .dead, .dead, .dead])) (xp1_pre [(0, false)] (xp_for (S := (List (Int × List Int))) (sto := (fun (s4 : (List (Int × List Int))) => [.dead, vl (a.2.1 : (List (Int × Int))), vl (a.2.2.1 : (Option Int)), ow (ON.mk s4), .dead, .dead, .dead])) d z1 (xi_eq (xi_list (xe_var d.toCok 1 rfl rfl (.inl rfl))) rfl) (fun B d => xg_pair d 4 5 rfl (.inl rfl) rfl (.inl rfl)) (fun B d s4 x5 => (xp_seq (S1 := (List (Int × List Int))) (sto1 := (fun (s6 : (List (Int × List Int))) => [.dead, vl (a.2.1 : (List (Int × Int))), vl (a.2.2.1 : (Option Int)), ow (ON.mk s6), vl (x5.1 : Int), vl (x5.2 : Int), .dead])) (xp_if (S := (List (Int × List Int))) (sto := (fun (s6 : (List (Int × List Int))) => [.dead, vl (a.2.1 : (List (Int × Int))), vl (a.2.2.1 : (Option Int)), ow (ON.mk s6), vl (x5.1 : Int), vl (x5.2 : Int), .dead])) (xt_eq (xt_w (xw_and (xt_ofC (xc_op2 op_ne o_neO (xe_opt (xe_var d.toCok 4 rfl rfl (.inl rfl)) nn_at) (xe_var d.toCok 2 rfl rfl (.inr (.inl rfl))))) (xw_and1 (xt_ofC (xc_op2 op_ne o_neO (xe_opt (xe_var d.toCok 5 rfl rfl (.inl rfl)) nn_at) (xe_var d.toCok 2 rfl rfl (.inr (.inl rfl)))))))) rfl) (xp_seq (sto1 := fun (z7 : (List (Int × List Int))) => [.dead, vl (a.2.1 : (List (Int × Int))), vl (a.2.2.1 : (Option Int)), ow (ON.mk z7), vl (x5.1 : Int), vl (x5.2 : Int), .dead]) (xp1_eq (xp_nearApp d 3 rfl rfl (.inl rfl) (xe_var d.toCok 4 rfl rfl (.inl rfl)) (xe_var d.toCok 5 rfl rfl (.inl rfl))) rfl) (fun z7 => (xp_seq (sto1 := fun (z8 : (List (Int × List Int))) => [.dead, vl (a.2.1 : (List (Int × Int))), vl (a.2.2.1 : (Option Int)), ow (ON.mk z8), vl (x5.1 : Int), vl (x5.2 : Int), .dead]) (xp1_eq (xp_nearApp d 3 rfl rfl (.inl rfl) (xe_var d.toCok 5 rfl rfl (.inl rfl)) (xe_var d.toCok 4 rfl rfl (.inl rfl))) rfl) (fun z8 => (xp_end [] z8 rfl))))) (xp_end [] s4 rfl)) (fun s6 => (xp_end [(4, false), (5, false)] s6 rfl))))) rfl) (fun s4 => (xb_one (xb1_pre [(3, true)] (xb_ret (c := ()) (xe_eq (xe_var d.toCok 3 rfl rfl (.inl rfl)) rfl) rfl [(1, false), (2, false), (3, false)] rfl rfl) rfl))))))
abbrev s_way : Stmt := top 8
theorem sc_way : FnScope ["up", "node", "found"] ["up", "node"] (defScope s_way) := ⟨rfl, rfl, rfl, by decide +kernel, rfl, by decide +kernel, by decide +kernel⟩
def mb_way (a : (DK Int (Option Int)) × Int × Unit) : Option (Fl Empty Empty (List Int) Unit) :=
  (some [a.2.1]).bind fun (z1 : (List Int)) =>
  (whileP (fun (s2 : (List Int)) => (((atI s2 (-(1 : Int))).bind fun w3 => look (a.1).l w3).bind fun w4 => some (Option.isSome w4))) (fun (s2 : (List Int)) =>
  ((((atI s2 (-(1 : Int))).bind fun w5 => look (a.1).l w5).bind fun w6 => w6).bind fun w8 => push s2 w8).bind fun (z7 : (List Int)) =>
  (some z7)) 1000 z1).bind fun (s2 : (List Int)) =>
  (some s2).bind fun b => some (Fl.ret b ())
def m_way (a : (DK Int (Option Int)) × Int × Unit) : Option (List Int) := (mb_way a).bind (retP Empty.elim)
theorem c_way {Γ : Gm} (T : Tx Γ) : Cal Γ "way" 1 false m_way := by
  refine cal_of (k := 0) (τ := (DK Int (Option Int)) × Int × Unit) T.d_way sc_way (S := Empty) (sto := (fun s => s.elim)) (m := mb_way) Empty.elim (fun s => s.elim) rfl (fun X B a d => ?_) m_way fun _ => rfl
  exact (xb_pseq (sto1 := fun (z1 : (List Int)) => [vl (a.1 : (DK Int (Option Int))), vl (a.2.1 : Int), ow (OL.mk (z1 : (List Int)))]) (xp_setN d 2 (xn_eq (xn_list (xl_cons (xe_var d.toCok 1 rfl rfl (.inl rfl)) xl_nil)) rfl) rfl (.inl rfl)) (fun z1 => (xb_pseq (S1 := (List Int)) (sto1 := (fun (s2 : (List Int)) => [vl (a.1 : (DK Int (Option Int))), .dead, ow (OL.mk (s2 : (List Int)))])) (xp1_pre [(1, false)] (xp_while (S := (List Int)) (sto := (fun (s2 : (List Int)) => [vl (a.1 : (DK Int (Option Int))), .dead, ow (OL.mk (s2 : (List Int)))])) d z1 1000 (fun s2 => (xt_eq (xt_ofC (xc_notN (xe_dget d.toCok (xk_of (xe_var d.toCok 0 rfl rfl (.inl rfl))) (xe_ix (xr_own d.toCok 2 rfl rfl (.inl rfl)) (xe_neg xe_int))))) rfl)) (fun s2 => (xp_seq (sto1 := fun (z7 : (List Int)) => [vl (a.1 : (DK Int (Option Int))), .dead, ow (OL.mk (z7 : (List Int)))]) (xp1_eq (xp_append d 2 rfl rfl (.inl rfl) (xe_unopt (xe_dget d.toCok (xk_of (xe_var d.toCok 0 rfl rfl (.inl rfl))) (xe_ix (xr_own d.toCok 2 rfl rfl (.inl rfl)) (xe_neg xe_int))))) rfl) (fun z7 => (xp_end [] z7 rfl))))) rfl) (fun s2 => (xb_one (xb1_pre [(2, true)] (xb_ret (c := ()) (xe_eq (xe_var d.toCok 2 rfl rfl (.inl rfl)) rfl) rfl [(0, false), (2, false)] rfl rfl) rfl))))))
abbrev s_ring_of : Stmt := top 9
theorem sc_ring_of : FnScope ["first", "second", "place", "node"] ["first", "second"] (defScope s_ring_of) := ⟨rfl, rfl, rfl, by decide +kernel, rfl, by decide +kernel, by decide +kernel⟩
def mb_ring_of (a : (List Int) × (List Int) × Unit) : Option (Fl Empty Empty (List Int) Unit) :=
  flb ((some (enumL a.1)).bind fun xs => forF (fun (_ : Unit) (x2 : (Int × Int)) =>
  flb ((some (isIn x2.2 a.2.1)).bind fun t => if t = true then
  ((pcat [x2.2] (List.reverse (cut a.1 none (some x2.1)))).bind fun w6 => (((pindex a.2.1 x2.2).bind fun w4 => some (some w4)).bind fun w5 => some (cut a.2.1 none w5)).bind fun w7 => pcat w6 w7).bind fun b => some (Fl.ret b ())
 else
  (some (Fl.nx ()))) fun _ =>
  (some (Fl.nx ()))) () xs) fun (_ : Unit) =>
  (some a.1).bind fun b => some (Fl.ret b ())
def m_ring_of (a : (List Int) × (List Int) × Unit) : Option (List Int) := (mb_ring_of a).bind (retP Empty.elim)
theorem c_ring_of {Γ : Gm} (T : Tx Γ) : Cal Γ "ring_of" 1 false m_ring_of := by
  refine cal_of (k := 0) (τ := (List Int) × (List Int) × Unit) T.d_ring_of sc_ring_of (S := Empty) (sto := (fun s => s.elim)) (m := mb_ring_of) Empty.elim (fun s => s.elim) rfl (fun X B a d => ?_) m_ring_of fun _ => rfl
  exact (xb_seq (S1 := Unit) (sto1 := (fun (_ : Unit) => [vl (a.1 : (List Int)), vl (a.2.1 : (List Int)), .dead, .dead])) (xb_for (S := Unit) (sto := (fun (_ : Unit) => [vl (a.1 : (List Int)), vl (a.2.1 : (List Int)), .dead, .dead])) d () (xi_eq (xi_enum d.toCok (xe_var d.toCok 0 rfl rfl (.inl rfl)) rfl T.b_enumerate) rfl) (fun B d => xg_pair d 2 3 rfl (.inl rfl) rfl (.inl rfl)) (fun B d _ x2 => (xb_seq (S1 := Unit) (sto1 := (fun (_ : Unit) => [vl (a.1 : (List Int)), vl (a.2.1 : (List Int)), vl (x2.1 : Int), vl (x2.2 : Int)])) (xb_if (S := Unit) (sto := (fun (_ : Unit) => [vl (a.1 : (List Int)), vl (a.2.1 : (List Int)), vl (x2.1 : Int), vl (x2.2 : Int)])) (xt_eq (xt_ofC (xc_in (xe_var d.toCok 3 rfl rfl (.inl rfl)) (xr_of (xe_var d.toCok 1 rfl rfl (.inl rfl))))) rfl) (xb_one (xb_ret (c := ()) (xe_eq (xe_ofN (xn_cat (xr_ofN (xn_cat (xr_ofN (xn_list (xl_cons (xe_var d.toCok 3 rfl rfl (.inl rfl)) xl_nil))) (xr_ofN (xn_listRev d.toCok (xr_ofN (xn_slice (xr_of (xe_var d.toCok 0 rfl rfl (.inl rfl))) xo_none (xo_some (xe_var d.toCok 2 rfl rfl (.inl rfl))))) rfl T.b_list rfl T.b_reversed)))) (xr_ofN (xn_slice (xr_of (xe_var d.toCok 1 rfl rfl (.inl rfl))) xo_none (xo_some (xe_index (xr_of (xe_var d.toCok 1 rfl rfl (.inl rfl))) (xe_var d.toCok 3 rfl rfl (.inl rfl)))))))) rfl) rfl [(0, false), (1, false), (2, false), (3, false)] rfl rfl)) (xb_end [] () rfl)) (fun _ => (xb_end [(2, false), (3, false)] () rfl))))) (fun _ => (xb_one (xb_ret (c := ()) (xe_eq (xe_var d.toCok 0 rfl rfl (.inl rfl)) rfl) rfl [(0, false), (1, false)] rfl rfl))))
abbrev s_shrunk : Stmt := top 10
theorem sc_shrunk : FnScope ["near", "ring", "name", "found", "node", "row", "other"] ["near", "ring", "name"] (defScope s_shrunk) := ⟨rfl, rfl, rfl, by decide +kernel, rfl, by decide +kernel, by decide +kernel⟩
def mb_shrunk (a : (DK Int (List Int)) × (List Int) × Int × Unit) : Option (Fl Empty Empty (DK Int (List Int)) Unit) :=
  (some ()).bind fun _ =>
  ((some ((a.1).l.map (·.1))).bind fun xs => forP (fun (s2 : (List (Int × (List Int)))) (x3 : Int) =>
  ((some (!isIn x3 a.2.1)).bind fun t => if t = true then
  ((look (a.1).l x3).bind fun w7 => lcB (fun (x6 : Int) => (some (!isIn x6 a.2.1))) (fun (x6 : Int) => (some x6)) w7).bind fun (z5 : (List Int)) =>
  ((((look (a.1).l x3).bind fun w8 => some ((w8).length : Int)).bind fun w9 => some (decide (((z5).length : Int) < w9))).bind fun t => if t = true then
  (push z5 a.2.2.1).bind fun (z11 : (List Int)) =>
  (some z11)
 else
  (some z5)).bind fun (s10 : (List Int)) =>
  (dput s2 x3 s10).bind fun (z12 : (List (Int × (List Int)))) =>
  (some z12)
 else
  (some s2)).bind fun (s4 : (List (Int × (List Int)))) =>
  (some s4)) [] xs).bind fun (s2 : (List (Int × (List Int)))) =>
  ((lcB (fun (x13 : Int) => ((look ((DK.mk s2)).l x13).bind fun w14 => some (isIn a.2.2.1 w14))) (fun (x13 : Int) => (some x13)) (((DK.mk s2)).l.map (·.1))).bind fun w16 => dput s2 a.2.2.1 w16).bind fun (z15 : (List (Int × (List Int)))) =>
  (some (DK.mk z15)).bind fun b => some (Fl.ret b ())
def m_shrunk (a : (DK Int (List Int)) × (List Int) × Int × Unit) : Option (DK Int (List Int)) := (mb_shrunk a).bind (retP Empty.elim)
theorem c_shrunk {Γ : Gm} (T : Tx Γ) : Cal Γ "shrunk" 1 false m_shrunk := by
  refine cal_of (k := 0) (τ := (DK Int (List Int)) × (List Int) × Int × Unit) T.d_shrunk sc_shrunk (S := Empty) (sto := (fun s => s.elim)) (m := mb_shrunk) Empty.elim (fun s => s.elim) rfl (fun X B a d => ?_) m_shrunk fun _ => rfl
  exact (xb_pseq (sto1 := fun _ => [vl (a.1 : (DK Int (List Int))), vl (a.2.1 : (List Int)), vl (a.2.2.1 : Int), ow (OK.mk ([] : List (Int × (List Int)))), .dead, .dead, .dead]) (xp_setDK d (α := (List Int)) (κ := Int) 3 rfl (.inr rfl)) (fun _ => (xb_pseq (S1 := (List (Int × (List Int)))) (sto1 := (fun (s2 : (List (Int × (List Int)))) => [vl (a.1 : (DK Int (List Int))), vl (a.2.1 : (List Int)), vl (a.2.2.1 : Int), ow (OK.mk (s2 : List (Int × (List Int)))), .dead, .dead, .dead])) (xp_for (S := (List (Int × (List Int)))) (sto := (fun (s2 : (List (Int × (List Int)))) => [vl (a.1 : (DK Int (List Int))), vl (a.2.1 : (List Int)), vl (a.2.2.1 : Int), ow (OK.mk (s2 : List (Int × (List Int)))), .dead, .dead, .dead])) d [] (xi_eq (xi_keys (xe_var d.toCok 0 rfl rfl (.inl rfl))) rfl) (fun B d => xg_name d 4 rfl (.inl rfl)) (fun B d s2 x3 => (xp_seq (S1 := (List (Int × (List Int)))) (sto1 := (fun (s4 : (List (Int × (List Int)))) => [vl (a.1 : (DK Int (List Int))), vl (a.2.1 : (List Int)), vl (a.2.2.1 : Int), ow (OK.mk (s4 : List (Int × (List Int)))), vl (x3 : Int), .dead, .dead])) (xp_if (S := (List (Int × (List Int)))) (sto := (fun (s4 : (List (Int × (List Int)))) => [vl (a.1 : (DK Int (List Int))), vl (a.2.1 : (List Int)), vl (a.2.2.1 : Int), ow (OK.mk (s4 : List (Int × (List Int)))), vl (x3 : Int), .dead, .dead])) (xt_eq (xt_ofC (xc_notIn (xe_var d.toCok 4 rfl rfl (.inl rfl)) (xr_of (xe_var d.toCok 1 rfl rfl (.inr (.inl rfl)))))) rfl) (xp_seq (sto1 := fun (z5 : (List Int)) => [vl (a.1 : (DK Int (List Int))), vl (a.2.1 : (List Int)), vl (a.2.2.1 : Int), ow (OK.mk (s2 : List (Int × (List Int)))), vl (x3 : Int), ow (OL.mk (z5 : (List Int))), .dead]) (xp1_eq (xp_setLcN d (j := 5) rfl rfl rfl (t := fun (x6 : Int) => (some (!isIn x6 a.2.1))) (f := fun (x6 : Int) => (some x6)) (i := 6) (xi_eq (xi_list (xe_dget d.toCok (xk_of (xe_var d.toCok 0 rfl rfl (.inl rfl))) (xe_var d.toCok 4 rfl rfl (.inl rfl)))) rfl) rfl rfl rfl rfl rfl (fun X c x6 => xts_one (xt_eq (xt_ofC (xc_notIn (xe_var c 6 rfl rfl (.inl rfl)) (xr_of (xe_var c 1 rfl rfl (.inr (.inl rfl)))))) rfl)) (fun X c x6 => (xe_eq (xe_var c 6 rfl rfl (.inl rfl)) rfl))) rfl) (fun z5 => (xp_seq (S1 := (List Int)) (sto1 := (fun (s10 : (List Int)) => [vl (a.1 : (DK Int (List Int))), vl (a.2.1 : (List Int)), vl (a.2.2.1 : Int), ow (OK.mk (s2 : List (Int × (List Int)))), vl (x3 : Int), ow (OL.mk (s10 : (List Int))), .dead])) (xp_if (S := (List Int)) (sto := (fun (s10 : (List Int)) => [vl (a.1 : (DK Int (List Int))), vl (a.2.1 : (List Int)), vl (a.2.2.1 : Int), ow (OK.mk (s2 : List (Int × (List Int)))), vl (x3 : Int), ow (OL.mk (s10 : (List Int))), .dead])) (xt_eq (xt_ofC (xc_op2 op_lt o_lt (xe_lenR d.toCok (xr_own d.toCok 5 rfl rfl (.inl rfl)) rfl T.b_len) (xe_lenR d.toCok (xr_of (xe_dget d.toCok (xk_of (xe_var d.toCok 0 rfl rfl (.inl rfl))) (xe_var d.toCok 4 rfl rfl (.inl rfl)))) rfl T.b_len))) rfl) (xp_seq (sto1 := fun (z11 : (List Int)) => [vl (a.1 : (DK Int (List Int))), vl (a.2.1 : (List Int)), vl (a.2.2.1 : Int), ow (OK.mk (s2 : List (Int × (List Int)))), vl (x3 : Int), ow (OL.mk (z11 : (List Int))), .dead]) (xp1_eq (xp_append d 5 rfl rfl (.inl rfl) (xe_var d.toCok 2 rfl rfl (.inr (.inl rfl)))) rfl) (fun z11 => (xp_end [] z11 rfl))) (xp_end [] z5 rfl)) (fun s10 => (xp_pre [(5, true)] (xp_seq (sto1 := fun (z12 : (List (Int × (List Int)))) => [vl (a.1 : (DK Int (List Int))), vl (a.2.1 : (List Int)), vl (a.2.2.1 : Int), ow (OK.mk (z12 : List (Int × (List Int)))), vl (x3 : Int), vl (s10 : (List Int)), .dead]) (xp1_eq (xp_dput d 3 rfl rfl (.inr (.inl rfl)) (xe_var d.toCok 4 rfl rfl (.inl rfl)) (xe_var d.toCok 5 rfl rfl (.inl rfl))) rfl) (fun z12 => (xp_end [(5, false)] z12 rfl))) rfl))))) (xp_end [] s2 rfl)) (fun s4 => (xp_end [(4, false)] s4 rfl))))) (fun s2 => (xb_pseq (sto1 := fun (z15 : (List (Int × (List Int)))) => [vl (a.1 : (DK Int (List Int))), vl (a.2.1 : (List Int)), vl (a.2.2.1 : Int), ow (OK.mk (z15 : List (Int × (List Int)))), .dead, .dead, .dead]) (xp1_eq (xp_dput d 3 rfl rfl (.inr (.inl rfl)) (xe_var d.toCok 2 rfl rfl (.inr (.inl rfl))) (xe_ofN (xn_thawD 3 rfl rfl ok_one (xn_lc (t := fun (x13 : Int) => ((look ((DK.mk s2)).l x13).bind fun w14 => some (isIn a.2.2.1 w14))) (f := fun (x13 : Int) => (some x13)) (i := 4) d.toCok (xi_eq (xi_keys (xe_var d.toCok 3 rfl rfl (.inr (.inl rfl)))) rfl) rfl rfl rfl rfl rfl d.hfx (fun X c x13 => xts_one (xt_eq (xt_ofC (xc_in (xe_var c 2 rfl rfl (.inr (.inl rfl))) (xr_of (xe_dget c (xk_of (xe_var c 3 rfl rfl (.inr (.inl rfl)))) (xe_var c 4 rfl rfl (.inl rfl)))))) rfl)) (fun X c x13 => (xe_eq (xe_var c 4 rfl rfl (.inl rfl)) rfl)))))) rfl) (fun z15 => (xb_one (xb1_pre [(3, true)] (xb_ret (c := ()) (xe_eq (xe_var d.toCok 3 rfl rfl (.inr (.inl rfl))) rfl) rfl [(0, false), (1, false), (2, false), (3, false)] rfl rfl) rfl))))))))
abbrev s_joined : Stmt := top 12
theorem sc_joined : FnScope ["near", "ring", "outside", "node"] ["near", "ring", "outside"] (defScope s_joined) := ⟨rfl, rfl, rfl, by decide +kernel, rfl, by decide +kernel, by decide +kernel⟩
def mb_joined (a : (DK Int (List Int)) × (List Int) × Int × Unit) : Option (Fl Empty Empty Int Unit) :=
  flb ((some a.2.1).bind fun xs => forF (fun (_ : Unit) (x2 : Int) =>
  flb (((look (a.1).l x2).bind fun w3 => some (isIn a.2.2.1 w3)).bind fun t => if t = true then
  (some x2).bind fun b => some (Fl.ret b ())
 else
  (some (Fl.nx ()))) fun _ =>
  (some (Fl.nx ()))) () xs) fun (_ : Unit) =>
  (atI a.2.1 (0 : Int)).bind fun b => some (Fl.ret b ())
def m_joined (a : (DK Int (List Int)) × (List Int) × Int × Unit) : Option Int := (mb_joined a).bind (retP Empty.elim)
theorem c_joined {Γ : Gm} (T : Tx Γ) : Cal Γ "joined" 1 false m_joined := by
  refine cal_of (k := 0) (τ := (DK Int (List Int)) × (List Int) × Int × Unit) T.d_joined sc_joined (S := Empty) (sto := (fun s => s.elim)) (m := mb_joined) Empty.elim (fun s => s.elim) rfl (fun X B a d => ?_) m_joined fun _ => rfl
  exact (xb_seq (S1 := Unit) (sto1 := (fun (_ : Unit) => [vl (a.1 : (DK Int (List Int))), vl (a.2.1 : (List Int)), vl (a.2.2.1 : Int), .dead])) (xb_for (S := Unit) (sto := (fun (_ : Unit) => [vl (a.1 : (DK Int (List Int))), vl (a.2.1 : (List Int)), vl (a.2.2.1 : Int), .dead])) d () (xi_eq (xi_list (xe_var d.toCok 1 rfl rfl (.inl rfl))) rfl) (fun B d => xg_name d 3 rfl (.inl rfl)) (fun B d _ x2 => (xb_seq (S1 := Unit) (sto1 := (fun (_ : Unit) => [vl (a.1 : (DK Int (List Int))), vl (a.2.1 : (List Int)), vl (a.2.2.1 : Int), vl (x2 : Int)])) (xb_if (S := Unit) (sto := (fun (_ : Unit) => [vl (a.1 : (DK Int (List Int))), vl (a.2.1 : (List Int)), vl (a.2.2.1 : Int), vl (x2 : Int)])) (xt_eq (xt_ofC (xc_in (xe_var d.toCok 2 rfl rfl (.inl rfl)) (xr_of (xe_dget d.toCok (xk_of (xe_var d.toCok 0 rfl rfl (.inl rfl))) (xe_var d.toCok 3 rfl rfl (.inl rfl)))))) rfl) (xb_one (xb_ret (c := ()) (xe_eq (xe_var d.toCok 3 rfl rfl (.inl rfl)) rfl) rfl [(0, false), (1, false), (2, false), (3, false)] rfl rfl)) (xb_end [] () rfl)) (fun _ => (xb_end [(3, false)] () rfl))))) (fun _ => (xb_one (xb_ret (c := ()) (xe_eq (xe_ix (xr_of (xe_var d.toCok 1 rfl rfl (.inl rfl))) xe_int) rfl) rfl [(0, false), (1, false), (2, false)] rfl rfl))))
abbrev s_round_way : Stmt := top 11
theorem sc_round_way : FnScope ["ring", "node", "place"] ["ring", "node"] (defScope s_round_way) := ⟨rfl, rfl, rfl, by decide +kernel, rfl, by decide +kernel, by decide +kernel⟩
def mb_round_way (a : (List Int) × Int × Unit) : Option (Fl Empty Empty (List Int) Unit) :=
  (pindex a.1 a.2.1).bind fun (z1 : Int) =>
  flb (((pmod z1 (2 : Int)).bind fun w2 => some (decide (w2 = (0 : Int)))).bind fun t => if t = true then
  (some (List.reverse (cut a.1 none (some (z1 + (1 : Int)))))).bind fun b => some (Fl.ret b ())
 else
  (some (Fl.nx ()))) fun _ =>
  ((seqO [(atI a.1 (0 : Int))]).bind fun w4 => pcat (cut a.1 (some z1) none) w4).bind fun b => some (Fl.ret b ())
def m_round_way (a : (List Int) × Int × Unit) : Option (List Int) := (mb_round_way a).bind (retP Empty.elim)
theorem c_round_way {Γ : Gm} (T : Tx Γ) : Cal Γ "round_way" 1 false m_round_way := by
  refine cal_of (k := 0) (τ := (List Int) × Int × Unit) T.d_round_way sc_round_way (S := Empty) (sto := (fun s => s.elim)) (m := mb_round_way) Empty.elim (fun s => s.elim) rfl (fun X B a d => ?_) m_round_way fun _ => rfl
  exact (xb_pseq (sto1 := fun (z1 : Int) => [vl (a.1 : (List Int)), vl (a.2.1 : Int), vl (z1 : Int)]) (xp_set d 2 (xe_eq (xe_index (xr_of (xe_var d.toCok 0 rfl rfl (.inl rfl))) (xe_var d.toCok 1 rfl rfl (.inl rfl))) rfl) rfl (.inl rfl)) (fun z1 => (xb_seq (S1 := Unit) (sto1 := (fun (_ : Unit) => [vl (a.1 : (List Int)), vl (a.2.1 : Int), vl (z1 : Int)])) (xb_if (S := Unit) (sto := (fun (_ : Unit) => [vl (a.1 : (List Int)), vl (a.2.1 : Int), vl (z1 : Int)])) (xt_eq (xt_ofC (xc_op2 op_eq o_eqI (xe_op2 op_mod o_mod (xe_var d.toCok 2 rfl rfl (.inl rfl)) xe_int) xe_int)) rfl) (xb_one (xb_ret (c := ()) (xe_eq (xe_ofN (xn_listRev d.toCok (xr_ofN (xn_slice (xr_of (xe_var d.toCok 0 rfl rfl (.inl rfl))) xo_none (xo_some (xe_op2 op_add o_add (xe_var d.toCok 2 rfl rfl (.inl rfl)) xe_int)))) rfl T.b_list rfl T.b_reversed)) rfl) rfl [(0, false), (1, false), (2, false)] rfl rfl)) (xb_end [] () rfl)) (fun _ => (xb_one (xb_ret (c := ()) (xe_eq (xe_ofN (xn_cat (xr_ofN (xn_slice (xr_of (xe_var d.toCok 0 rfl rfl (.inl rfl))) (xo_some (xe_var d.toCok 2 rfl rfl (.inl rfl))) xo_none)) (xr_ofN (xn_list (xl_cons (xe_ix (xr_of (xe_var d.toCok 0 rfl rfl (.inl rfl))) xe_int) xl_nil))))) rfl) rfl [(0, false), (1, false), (2, false)] rfl rfl))))))
abbrev s_opened : Stmt := top 13
theorem sc_opened : FnScope ["near", "partner", "ring", "path", "name", "place", "before", "behind"] ["near", "partner", "ring", "path", "name"] (defScope s_opened) := ⟨rfl, rfl, rfl, by decide +kernel, rfl, by decide +kernel, by decide +kernel⟩
def mb_opened (a : (DK Int (List Int)) × (DK Int Int) × (List Int) × (List Int) × Int × Unit) : Option (Fl Empty Empty (List Int) Unit) :=
  (pindex a.2.2.2.1 a.2.2.2.2.1).bind fun (z1 : Int) =>
  (some (cut a.2.2.2.1 none (some z1))).bind fun (z2 : (List Int)) =>
  (some (cut a.2.2.2.1 (some (z1 + (1 : Int))) none)).bind fun (z3 : (List Int)) =>
  flb (((andM (some (!List.isEmpty z2)) (((atI a.2.2.1 (0 : Int)).bind fun w4 => some (look (a.2.1).l w4)).bind fun w6 => ((atI z2 (-(1 : Int))).bind fun w5 => some (some w5)).bind fun w7 => some (!decide (w6 = w7))))).bind fun t => if t = true then
  ((((b2 (some a.2.2.1) (b2 ((b2 (some a.1) (b2 (some a.2.2.1) (b2 (atI z2 (-(1 : Int))) (some ()) fun x t => some (x, t)) fun x t => some (x, t)) fun x t => some (x, t)).bind m_joined) (some ()) fun x t => some (x, t)) fun x t => some (x, t)).bind m_round_way).bind fun w9 => pcat z2 w9).bind fun w10 => pcat w10 z3).bind fun b => some (Fl.ret b ())
 else
  (some (Fl.nx ()))) fun _ =>
  (((((b2 (some a.2.2.1) (b2 ((b2 (some a.1) (b2 (some a.2.2.1) (b2 (atI z3 (0 : Int)) (some ()) fun x t => some (x, t)) fun x t => some (x, t)) fun x t => some (x, t)).bind m_joined) (some ()) fun x t => some (x, t)) fun x t => some (x, t)).bind m_round_way).bind fun w11 => some (List.reverse w11)).bind fun w12 => pcat z2 w12).bind fun w13 => pcat w13 z3).bind fun b => some (Fl.ret b ())
def m_opened (a : (DK Int (List Int)) × (DK Int Int) × (List Int) × (List Int) × Int × Unit) : Option (List Int) := (mb_opened a).bind (retP Empty.elim)
theorem c_opened {Γ : Gm} (T : Tx Γ) : Cal Γ "opened" 2 false m_opened := by
  refine cal_of (k := 1) (τ := (DK Int (List Int)) × (DK Int Int) × (List Int) × (List Int) × Int × Unit) T.d_opened sc_opened (S := Empty) (sto := (fun s => s.elim)) (m := mb_opened) Empty.elim (fun s => s.elim) rfl (fun X B a d => ?_) m_opened fun _ => rfl
  exact (xb_pseq (sto1 := fun (z1 : Int) => [vl (a.1 : (DK Int (List Int))), vl (a.2.1 : (DK Int Int)), vl (a.2.2.1 : (List Int)), vl (a.2.2.2.1 : (List Int)), vl (a.2.2.2.2.1 : Int), vl (z1 : Int), .dead, .dead]) (xp_set d 5 (xe_eq (xe_index (xr_of (xe_var d.toCok 3 rfl rfl (.inl rfl))) (xe_var d.toCok 4 rfl rfl (.inl rfl))) rfl) rfl (.inl rfl)) (fun z1 => (xb_pseq (sto1 := fun (z2 : (List Int)) => [vl (a.1 : (DK Int (List Int))), vl (a.2.1 : (DK Int Int)), vl (a.2.2.1 : (List Int)), vl (a.2.2.2.1 : (List Int)), vl (a.2.2.2.2.1 : Int), vl (z1 : Int), vl (z2 : (List Int)), .dead]) (xp_set d 6 (xe_eq (xe_ofN (xn_slice (xr_of (xe_var d.toCok 3 rfl rfl (.inl rfl))) xo_none (xo_some (xe_var d.toCok 5 rfl rfl (.inl rfl))))) rfl) rfl (.inl rfl)) (fun z2 => (xb_pseq (sto1 := fun (z3 : (List Int)) => [vl (a.1 : (DK Int (List Int))), vl (a.2.1 : (DK Int Int)), vl (a.2.2.1 : (List Int)), vl (a.2.2.2.1 : (List Int)), vl (a.2.2.2.2.1 : Int), vl (z1 : Int), vl (z2 : (List Int)), vl (z3 : (List Int))]) (xp_set d 7 (xe_eq (xe_ofN (xn_slice (xr_of (xe_var d.toCok 3 rfl rfl (.inl rfl))) (xo_some (xe_op2 op_add o_add (xe_var d.toCok 5 rfl rfl (.inl rfl)) xe_int)) xo_none)) rfl) rfl (.inl rfl)) (fun z3 => (xb_seq (S1 := Unit) (sto1 := (fun (_ : Unit) => [vl (a.1 : (DK Int (List Int))), vl (a.2.1 : (DK Int Int)), vl (a.2.2.1 : (List Int)), vl (a.2.2.2.1 : (List Int)), vl (a.2.2.2.2.1 : Int), vl (z1 : Int), vl (z2 : (List Int)), vl (z3 : (List Int))])) (xb_if (S := Unit) (sto := (fun (_ : Unit) => [vl (a.1 : (DK Int (List Int))), vl (a.2.1 : (DK Int Int)), vl (a.2.2.1 : (List Int)), vl (a.2.2.2.1 : (List Int)), vl (a.2.2.2.2.1 : Int), vl (z1 : Int), vl (z2 : (List Int)), vl (z3 : (List Int))])) (xt_eq (xt_w (xw_and (xt_truthR d.toCok (xr_of (xe_var d.toCok 6 rfl rfl (.inl rfl)))) (xw_and1 (xt_ofC (xc_op2 op_ne o_neO (xe_get1 d.toCok (xk_of (xe_var d.toCok 1 rfl rfl (.inl rfl))) (xe_ix (xr_of (xe_var d.toCok 2 rfl rfl (.inl rfl))) xe_int) nn_at ⟨rfl, rfl, rfl, rfl⟩) (xe_opt (xe_ix (xr_of (xe_var d.toCok 6 rfl rfl (.inl rfl))) (xe_neg xe_int)) nn_at)))))) rfl) (xb_one (xb_ret (c := ()) (xe_eq (xe_ofN (xn_cat (xr_ofN (xn_cat (xr_of (xe_var d.toCok 6 rfl rfl (.inl rfl))) (xr_of (xe_call d.toCok (c_round_way T) (by decide) rfl (xa_cons (xe_var d.toCok 2 rfl rfl (.inl rfl)) (xa_cons (xe_call d.toCok (c_joined T) (by decide) rfl (xa_cons (xe_var d.toCok 0 rfl rfl (.inl rfl)) (xa_cons (xe_var d.toCok 2 rfl rfl (.inl rfl)) (xa_cons (xe_ix (xr_of (xe_var d.toCok 6 rfl rfl (.inl rfl))) (xe_neg xe_int)) xa_nil)))) xa_nil)))))) (xr_of (xe_var d.toCok 7 rfl rfl (.inl rfl))))) rfl) rfl [(0, false), (1, false), (2, false), (3, false), (4, false), (5, false), (6, false), (7, false)] rfl rfl)) (xb_end [] () rfl)) (fun _ => (xb_one (xb_ret (c := ()) (xe_eq (xe_ofN (xn_cat (xr_ofN (xn_cat (xr_of (xe_var d.toCok 6 rfl rfl (.inl rfl))) (xr_ofN (xn_listRev d.toCok (xr_of (xe_call d.toCok (c_round_way T) (by decide) rfl (xa_cons (xe_var d.toCok 2 rfl rfl (.inl rfl)) (xa_cons (xe_call d.toCok (c_joined T) (by decide) rfl (xa_cons (xe_var d.toCok 0 rfl rfl (.inl rfl)) (xa_cons (xe_var d.toCok 2 rfl rfl (.inl rfl)) (xa_cons (xe_ix (xr_of (xe_var d.toCok 7 rfl rfl (.inl rfl))) xe_int) xa_nil)))) xa_nil)))) rfl T.b_list rfl T.b_reversed)))) (xr_of (xe_var d.toCok 7 rfl rfl (.inl rfl))))) rfl) rfl [(0, false), (1, false), (2, false), (3, false), (4, false), (5, false), (6, false), (7, false)] rfl rfl))))))))))
abbrev s_better : Stmt := top 15
theorem sc_better : FnScope ["near", "partner", "name", "waiting", "up", "root", "is_outer", "place", "node", "other", "mate", "child", "parent", "outer"] ["near", "partner", "name"] (defScope s_better) := ⟨rfl, rfl, rfl, by decide +kernel, rfl, by decide +kernel, by decide +kernel⟩
def mb_better (thr : (DK Int (List Int)) × (DK Int Int) × (List Int) × Int × Unit → Option (Option (List Int))) (a : (DK Int (List Int)) × (DK Int Int) × Int × Unit) : Option (Fl Empty Empty (Option (List Int)) Unit) :=
  (lcB (fun (x2 : Int) => (some (!(look (a.2.1).l x2).isSome))) (fun (x2 : Int) => (some x2)) ((a.1).l.map (·.1))).bind fun (z1 : (List Int)) =>
  (dcB (fun (x4 : Int) => (some true)) (fun (x4 : Int) => (some x4)) (fun (x4 : Int) => (some (none : (Option Int)))) z1).bind fun (z3 : (List (Int × (Option Int)))) =>
  (dcB (fun (x6 : Int) => (some true)) (fun (x6 : Int) => (some x6)) (fun (x6 : Int) => (some x6)) z1).bind fun (z5 : (List (Int × Int))) =>
  (dcB (fun (x8 : Int) => (some true)) (fun (x8 : Int) => (some x8)) (fun (x8 : Int) => (some true)) z1).bind fun (z7 : (List (Int × Bool))) =>
  (some (0 : Int)).bind fun (z9 : Int) =>
  flb (whileF (fun (s10 : (List Int) × (List (Int × (Option Int))) × (List (Int × Int)) × (List (Int × Bool)) × Int) => (some (decide (s10.2.2.2.2 < ((s10.1).length : Int))))) (fun (s10 : (List Int) × (List (Int × (Option Int))) × (List (Int × Int)) × (List (Int × Bool)) × Int) =>
  (atI s10.1 s10.2.2.2.2).bind fun (z11 : Int) =>
  flb ((look (a.1).l z11).bind fun xs => forF (fun (s12 : (List Int) × (List (Int × (Option Int))) × (List (Int × Int)) × (List (Int × Bool))) (x13 : Int) =>
  flb ((some (!(look s12.2.2.1 x13).isSome)).bind fun t => if t = true then
  (look (a.2.1).l x13).bind fun (z15 : Int) =>
  ((some ((TL.mk [(T3.mk x13 z11 false), (T3.mk z15 x13 true)])).l).bind fun xs => forP (fun (s16 : (List (Int × (Option Int))) × (List (Int × Int)) × (List (Int × Bool))) (x17 : (T3 Int Int Bool)) =>
  (dput s16.1 x17.a (some x17.b)).bind fun (z18 : (List (Int × (Option Int)))) =>
  ((look s16.2.1 z11).bind fun w20 => dput s16.2.1 x17.a w20).bind fun (z19 : (List (Int × Int))) =>
  (dput s16.2.2 x17.a x17.c).bind fun (z21 : (List (Int × Bool))) =>
  (some (z18, z19, z21))) (s12.2.1, s12.2.2.1, s12.2.2.2) xs).bind fun (s16 : (List (Int × (Option Int))) × (List (Int × Int)) × (List (Int × Bool))) =>
  (push s12.1 z15).bind fun (z22 : (List Int)) =>
  (some (Fl.nx (z22, s16.1, s16.2.1, s16.2.2)))
 else
  flb (((andM (look s12.2.2.2 x13) ((look s12.2.2.1 x13).bind fun w23 => (look s12.2.2.1 z11).bind fun w24 => some (!decide (w23 = w24))))).bind fun t => if t = true then
  (((((b2 (some (DK.mk s12.2.1)) (b2 (some z11) (some ()) fun x t => some (x, t)) fun x t => some (x, t)).bind m_way).bind fun w26 => some (List.reverse w26)).bind fun w27 => ((b2 (some (DK.mk s12.2.1)) (b2 (some x13) (some ()) fun x t => some (x, t)) fun x t => some (x, t)).bind m_way).bind fun w28 => pcat w27 w28).bind fun w29 => some (some w29)).bind fun b => some (Fl.ret b ())
 else
  flb ((look s12.2.2.2 x13).bind fun t => if t = true then
  ((b2 (some a.1) (b2 (some a.2.1) (b2 ((b2 ((b2 (some (DK.mk s12.2.1)) (b2 (some z11) (some ()) fun x t => some (x, t)) fun x t => some (x, t)).bind m_way) (b2 ((b2 (some (DK.mk s12.2.1)) (b2 (some x13) (some ()) fun x t => some (x, t)) fun x t => some (x, t)).bind m_way) (some ()) fun x t => some (x, t)) fun x t => some (x, t)).bind m_ring_of) (b2 (some a.2.2.1) (some ()) fun x t => some (x, t)) fun x t => some (x, t)) fun x t => some (x, t)) fun x t => some (x, t)).bind thr).bind fun b => some (Fl.ret b ())
 else
  (some (Fl.nx ()))) fun _ =>
  (some (Fl.nx ()))) fun _ =>
  (some (Fl.nx (s12.1, s12.2.1, s12.2.2.1, s12.2.2.2)))) fun (s14 : (List Int) × (List (Int × (Option Int))) × (List (Int × Int)) × (List (Int × Bool))) =>
  (some (Fl.nx (s14.1, s14.2.1, s14.2.2.1, s14.2.2.2)))) (s10.1, s10.2.1, s10.2.2.1, s10.2.2.2.1) xs) fun (s12 : (List Int) × (List (Int × (Option Int))) × (List (Int × Int)) × (List (Int × Bool))) =>
  (some (s10.2.2.2.2 + (1 : Int))).bind fun (z31 : Int) =>
  (some (Fl.nx (s12.1, s12.2.1, s12.2.2.1, s12.2.2.2, z31)))) 1000 (z1, z3, z5, z7, z9)) fun (s10 : (List Int) × (List (Int × (Option Int))) × (List (Int × Int)) × (List (Int × Bool)) × Int) =>
  (some (none : (Option (List Int)))).bind fun b => some (Fl.ret b ())
def m_better (thr : (DK Int (List Int)) × (DK Int Int) × (List Int) × Int × Unit → Option (Option (List Int))) (a : (DK Int (List Int)) × (DK Int Int) × Int × Unit) : Option (Option (List Int)) := (mb_better thr a).bind (retP Empty.elim)
theorem c_better {Γ : Gm} (T : Tx Γ) {j k : Nat} {thr : (DK Int (List Int)) × (DK Int Int) × (List Int) × Int × Unit → Option (Option (List Int))} (hR : Cal Γ "through_ring" j false thr) (hk : j ≤ k) (hk0 : 1 ≤ k) : Cal Γ "better" (k + 1) false (m_better thr) := by
  refine cal_of (k := k) (τ := (DK Int (List Int)) × (DK Int Int) × Int × Unit) T.d_better sc_better (S := Empty) (sto := (fun s => s.elim)) (m := mb_better thr) Empty.elim (fun s => s.elim) rfl (fun X B a d => ?_) (m_better thr) fun _ => rfl
  exact (xb_pseq (sto1 := fun (z1 : (List Int)) => [vl (a.1 : (DK Int (List Int))), vl (a.2.1 : (DK Int Int)), vl (a.2.2.1 : Int), ow (OL.mk (z1 : (List Int))), .dead, .dead, .dead, .dead, .dead, .dead, .dead, .dead, .dead, .dead]) (xp1_eq (xp_setLcN d (j := 3) rfl rfl rfl (t := fun (x2 : Int) => (some (!(look (a.2.1).l x2).isSome))) (f := fun (x2 : Int) => (some x2)) (i := 8) (xi_eq (xi_keys (xe_var d.toCok 0 rfl rfl (.inl rfl))) rfl) rfl rfl rfl rfl rfl (fun X c x2 => xts_one (xt_eq (xt_ofC (xc_dnotIn c (xe_var c 8 rfl rfl (.inl rfl)) (xk_of (xe_var c 1 rfl rfl (.inr (.inl rfl)))))) rfl)) (fun X c x2 => (xe_eq (xe_var c 8 rfl rfl (.inl rfl)) rfl))) rfl) (fun z1 => (xb_pseq (sto1 := fun (z3 : (List (Int × (Option Int)))) => [vl (a.1 : (DK Int (List Int))), vl (a.2.1 : (DK Int Int)), vl (a.2.2.1 : Int), ow (OL.mk (z1 : (List Int))), ow (OK.mk (z3 : List (Int × (Option Int)))), .dead, .dead, .dead, .dead, .dead, .dead, .dead, .dead, .dead]) (xp1_eq (xp_setDcT (t := fun (x4 : Int) => (some true)) (fk := fun (x4 : Int) => (some x4)) (fv := fun (x4 : Int) => (some (none : (Option Int)))) d (ρ1 := [vl (a.1 : (DK Int (List Int))), vl (a.2.1 : (DK Int Int)), vl (a.2.2.1 : Int), vl (z1 : (List Int)), .dead, .dead, .dead, .dead, .dead, .dead, .dead, .dead, .dead, .dead]) (j := 4) (i := 8) rfl rfl rfl (cKN_thawL 3 rfl rfl ol_one) (xi_eq (xi_list (xe_var d.toCok 3 rfl rfl (.inl rfl))) rfl) rfl rfl rfl rfl rfl (fun X c a => xts_nil (fun _ => _) a) (fun X c x4 => (xe_eq (xe_var c 8 rfl rfl (.inl rfl)) rfl)) (fun X c x4 => (xe_eq xe_none rfl))) rfl) (fun z3 => (xb_pseq (sto1 := fun (z5 : (List (Int × Int))) => [vl (a.1 : (DK Int (List Int))), vl (a.2.1 : (DK Int Int)), vl (a.2.2.1 : Int), ow (OL.mk (z1 : (List Int))), ow (OK.mk (z3 : List (Int × (Option Int)))), ow (OK.mk (z5 : List (Int × Int))), .dead, .dead, .dead, .dead, .dead, .dead, .dead, .dead]) (xp1_eq (xp_setDcT (t := fun (x6 : Int) => (some true)) (fk := fun (x6 : Int) => (some x6)) (fv := fun (x6 : Int) => (some x6)) d (ρ1 := [vl (a.1 : (DK Int (List Int))), vl (a.2.1 : (DK Int Int)), vl (a.2.2.1 : Int), vl (z1 : (List Int)), ow (OK.mk (z3 : List (Int × (Option Int)))), .dead, .dead, .dead, .dead, .dead, .dead, .dead, .dead, .dead]) (j := 5) (i := 8) rfl rfl rfl (cKN_thawL 3 rfl rfl ol_one) (xi_eq (xi_list (xe_var d.toCok 3 rfl rfl (.inl rfl))) rfl) rfl rfl rfl rfl rfl (fun X c a => xts_nil (fun _ => _) a) (fun X c x6 => (xe_eq (xe_var c 8 rfl rfl (.inl rfl)) rfl)) (fun X c x6 => (xe_eq (xe_var c 8 rfl rfl (.inl rfl)) rfl))) rfl) (fun z5 => (xb_pseq (sto1 := fun (z7 : (List (Int × Bool))) => [vl (a.1 : (DK Int (List Int))), vl (a.2.1 : (DK Int Int)), vl (a.2.2.1 : Int), ow (OL.mk (z1 : (List Int))), ow (OK.mk (z3 : List (Int × (Option Int)))), ow (OK.mk (z5 : List (Int × Int))), ow (OK.mk (z7 : List (Int × Bool))), .dead, .dead, .dead, .dead, .dead, .dead, .dead]) (xp1_eq (xp_setDcT (t := fun (x8 : Int) => (some true)) (fk := fun (x8 : Int) => (some x8)) (fv := fun (x8 : Int) => (some true)) d (ρ1 := [vl (a.1 : (DK Int (List Int))), vl (a.2.1 : (DK Int Int)), vl (a.2.2.1 : Int), vl (z1 : (List Int)), ow (OK.mk (z3 : List (Int × (Option Int)))), ow (OK.mk (z5 : List (Int × Int))), .dead, .dead, .dead, .dead, .dead, .dead, .dead, .dead]) (j := 6) (i := 8) rfl rfl rfl (cKN_thawL 3 rfl rfl ol_one) (xi_eq (xi_list (xe_var d.toCok 3 rfl rfl (.inl rfl))) rfl) rfl rfl rfl rfl rfl (fun X c a => xts_nil (fun _ => _) a) (fun X c x8 => (xe_eq (xe_var c 8 rfl rfl (.inl rfl)) rfl)) (fun X c x8 => (xe_eq xe_bl rfl))) rfl) (fun z7 => (xb_pseq (sto1 := fun (z9 : Int) => [vl (a.1 : (DK Int (List Int))), vl (a.2.1 : (DK Int Int)), vl (a.2.2.1 : Int), ow (OL.mk (z1 : (List Int))), ow (OK.mk (z3 : List (Int × (Option Int)))), ow (OK.mk (z5 : List (Int × Int))), ow (OK.mk (z7 : List (Int × Bool))), vl (z9 : Int), .dead, .dead, .dead, .dead, .dead, .dead]) (xp_set d 7 (xe_eq xe_int rfl) rfl (.inl rfl)) (fun z9 => (xb_seq (S1 := (List Int) × (List (Int × (Option Int))) × (List (Int × Int)) × (List (Int × Bool)) × Int) (sto1 := (fun (s10 : (List Int) × (List (Int × (Option Int))) × (List (Int × Int)) × (List (Int × Bool)) × Int) => [vl (a.1 : (DK Int (List Int))), vl (a.2.1 : (DK Int Int)), vl (a.2.2.1 : Int), ow (OL.mk (s10.1 : (List Int))), ow (OK.mk (s10.2.1 : List (Int × (Option Int)))), ow (OK.mk (s10.2.2.1 : List (Int × Int))), ow (OK.mk (s10.2.2.2.1 : List (Int × Bool))), vl (s10.2.2.2.2 : Int), .dead, .dead, .dead, .dead, .dead, .dead])) (xb_while (S := (List Int) × (List (Int × (Option Int))) × (List (Int × Int)) × (List (Int × Bool)) × Int) (sto := (fun (s10 : (List Int) × (List (Int × (Option Int))) × (List (Int × Int)) × (List (Int × Bool)) × Int) => [vl (a.1 : (DK Int (List Int))), vl (a.2.1 : (DK Int Int)), vl (a.2.2.1 : Int), ow (OL.mk (s10.1 : (List Int))), ow (OK.mk (s10.2.1 : List (Int × (Option Int)))), ow (OK.mk (s10.2.2.1 : List (Int × Int))), ow (OK.mk (s10.2.2.2.1 : List (Int × Bool))), vl (s10.2.2.2.2 : Int), .dead, .dead, .dead, .dead, .dead, .dead])) d (z1, z3, z5, z7, z9) 1000 (fun s10 => (xt_eq (xt_ofC (xc_op2 op_lt o_lt (xe_var d.toCok 7 rfl rfl (.inl rfl)) (xe_lenR d.toCok (xr_own d.toCok 3 rfl rfl (.inl rfl)) rfl T.b_len))) rfl)) (fun s10 => (xb_pseq (sto1 := fun (z11 : Int) => [vl (a.1 : (DK Int (List Int))), vl (a.2.1 : (DK Int Int)), vl (a.2.2.1 : Int), ow (OL.mk (s10.1 : (List Int))), ow (OK.mk (s10.2.1 : List (Int × (Option Int)))), ow (OK.mk (s10.2.2.1 : List (Int × Int))), ow (OK.mk (s10.2.2.2.1 : List (Int × Bool))), vl (s10.2.2.2.2 : Int), vl (z11 : Int), .dead, .dead, .dead, .dead, .dead]) (xp_set d 8 (xe_eq (xe_ix (xr_own d.toCok 3 rfl rfl (.inl rfl)) (xe_var d.toCok 7 rfl rfl (.inl rfl))) rfl) rfl (.inl rfl)) (fun z11 => (xb_seq (S1 := (List Int) × (List (Int × (Option Int))) × (List (Int × Int)) × (List (Int × Bool))) (sto1 := (fun (s12 : (List Int) × (List (Int × (Option Int))) × (List (Int × Int)) × (List (Int × Bool))) => [vl (a.1 : (DK Int (List Int))), vl (a.2.1 : (DK Int Int)), vl (a.2.2.1 : Int), ow (OL.mk (s12.1 : (List Int))), ow (OK.mk (s12.2.1 : List (Int × (Option Int)))), ow (OK.mk (s12.2.2.1 : List (Int × Int))), ow (OK.mk (s12.2.2.2 : List (Int × Bool))), vl (s10.2.2.2.2 : Int), vl (z11 : Int), .dead, .dead, .dead, .dead, .dead])) (xb_for (S := (List Int) × (List (Int × (Option Int))) × (List (Int × Int)) × (List (Int × Bool))) (sto := (fun (s12 : (List Int) × (List (Int × (Option Int))) × (List (Int × Int)) × (List (Int × Bool))) => [vl (a.1 : (DK Int (List Int))), vl (a.2.1 : (DK Int Int)), vl (a.2.2.1 : Int), ow (OL.mk (s12.1 : (List Int))), ow (OK.mk (s12.2.1 : List (Int × (Option Int)))), ow (OK.mk (s12.2.2.1 : List (Int × Int))), ow (OK.mk (s12.2.2.2 : List (Int × Bool))), vl (s10.2.2.2.2 : Int), vl (z11 : Int), .dead, .dead, .dead, .dead, .dead])) d (s10.1, s10.2.1, s10.2.2.1, s10.2.2.2.1) (xi_eq (xi_list (xe_dget d.toCok (xk_of (xe_var d.toCok 0 rfl rfl (.inl rfl))) (xe_var d.toCok 8 rfl rfl (.inl rfl)))) rfl) (fun B d => xg_name d 9 rfl (.inl rfl)) (fun B d s12 x13 => (xb_seq (S1 := (List Int) × (List (Int × (Option Int))) × (List (Int × Int)) × (List (Int × Bool))) (sto1 := (fun (s14 : (List Int) × (List (Int × (Option Int))) × (List (Int × Int)) × (List (Int × Bool))) => [vl (a.1 : (DK Int (List Int))), vl (a.2.1 : (DK Int Int)), vl (a.2.2.1 : Int), ow (OL.mk (s14.1 : (List Int))), ow (OK.mk (s14.2.1 : List (Int × (Option Int)))), ow (OK.mk (s14.2.2.1 : List (Int × Int))), ow (OK.mk (s14.2.2.2 : List (Int × Bool))), vl (s10.2.2.2.2 : Int), vl (z11 : Int), vl (x13 : Int), .dead, .dead, .dead, .dead])) (xb_if (S := (List Int) × (List (Int × (Option Int))) × (List (Int × Int)) × (List (Int × Bool))) (sto := (fun (s14 : (List Int) × (List (Int × (Option Int))) × (List (Int × Int)) × (List (Int × Bool))) => [vl (a.1 : (DK Int (List Int))), vl (a.2.1 : (DK Int Int)), vl (a.2.2.1 : Int), ow (OL.mk (s14.1 : (List Int))), ow (OK.mk (s14.2.1 : List (Int × (Option Int)))), ow (OK.mk (s14.2.2.1 : List (Int × Int))), ow (OK.mk (s14.2.2.2 : List (Int × Bool))), vl (s10.2.2.2.2 : Int), vl (z11 : Int), vl (x13 : Int), .dead, .dead, .dead, .dead])) (xt_eq (xt_ofC (xc_dnotIn d.toCok (xe_var d.toCok 9 rfl rfl (.inl rfl)) (xk_own d.toCok 5 rfl rfl (.inl rfl)))) rfl) (xb_pseq (sto1 := fun (z15 : Int) => [vl (a.1 : (DK Int (List Int))), vl (a.2.1 : (DK Int Int)), vl (a.2.2.1 : Int), ow (OL.mk (s12.1 : (List Int))), ow (OK.mk (s12.2.1 : List (Int × (Option Int)))), ow (OK.mk (s12.2.2.1 : List (Int × Int))), ow (OK.mk (s12.2.2.2 : List (Int × Bool))), vl (s10.2.2.2.2 : Int), vl (z11 : Int), vl (x13 : Int), vl (z15 : Int), .dead, .dead, .dead]) (xp_set d 10 (xe_eq (xe_dget d.toCok (xk_of (xe_var d.toCok 1 rfl rfl (.inr (.inl rfl)))) (xe_var d.toCok 9 rfl rfl (.inl rfl))) rfl) rfl (.inl rfl)) (fun z15 => (xb_pseq (S1 := (List (Int × (Option Int))) × (List (Int × Int)) × (List (Int × Bool))) (sto1 := (fun (s16 : (List (Int × (Option Int))) × (List (Int × Int)) × (List (Int × Bool))) => [vl (a.1 : (DK Int (List Int))), vl (a.2.1 : (DK Int Int)), vl (a.2.2.1 : Int), ow (OL.mk (s12.1 : (List Int))), ow (OK.mk (s16.1 : List (Int × (Option Int)))), ow (OK.mk (s16.2.1 : List (Int × Int))), ow (OK.mk (s16.2.2 : List (Int × Bool))), vl (s10.2.2.2.2 : Int), vl (z11 : Int), vl (x13 : Int), vl (z15 : Int), .dead, .dead, .dead])) (xp_for (S := (List (Int × (Option Int))) × (List (Int × Int)) × (List (Int × Bool))) (sto := (fun (s16 : (List (Int × (Option Int))) × (List (Int × Int)) × (List (Int × Bool))) => [vl (a.1 : (DK Int (List Int))), vl (a.2.1 : (DK Int Int)), vl (a.2.2.1 : Int), ow (OL.mk (s12.1 : (List Int))), ow (OK.mk (s16.1 : List (Int × (Option Int)))), ow (OK.mk (s16.2.1 : List (Int × Int))), ow (OK.mk (s16.2.2 : List (Int × Bool))), vl (s10.2.2.2.2 : Int), vl (z11 : Int), vl (x13 : Int), vl (z15 : Int), .dead, .dead, .dead])) d (s12.2.1, s12.2.2.1, s12.2.2.2) (xi_eq (xi_tup (xe_eq (xe_tupL (xl_cons (xe_tup3 (xe_var d.toCok 9 rfl rfl (.inl rfl)) (xe_var d.toCok 8 rfl rfl (.inl rfl)) xe_bl) (xl_cons (xe_tup3 (xe_var d.toCok 10 rfl rfl (.inl rfl)) (xe_var d.toCok 9 rfl rfl (.inl rfl)) xe_bl) (xl_nil)))) rfl)) rfl) (fun B d => xg_trip d 11 12 13 rfl rfl rfl (.inl rfl) (.inl rfl) (.inl rfl)) (fun B d s16 x17 => (xp_seq (sto1 := fun (z18 : (List (Int × (Option Int)))) => [vl (a.1 : (DK Int (List Int))), vl (a.2.1 : (DK Int Int)), vl (a.2.2.1 : Int), ow (OL.mk (s12.1 : (List Int))), ow (OK.mk (z18 : List (Int × (Option Int)))), ow (OK.mk (s16.2.1 : List (Int × Int))), ow (OK.mk (s16.2.2 : List (Int × Bool))), vl (s10.2.2.2.2 : Int), vl (z11 : Int), vl (x13 : Int), vl (z15 : Int), vl (x17.a : Int), vl (x17.b : Int), vl (x17.c : Bool)]) (xp1_eq (xp_dput d 4 rfl rfl (.inl rfl) (xe_var d.toCok 11 rfl rfl (.inl rfl)) (xe_opt (xe_var d.toCok 12 rfl rfl (.inl rfl)) nn_at)) rfl) (fun z18 => (xp_seq (sto1 := fun (z19 : (List (Int × Int))) => [vl (a.1 : (DK Int (List Int))), vl (a.2.1 : (DK Int Int)), vl (a.2.2.1 : Int), ow (OL.mk (s12.1 : (List Int))), ow (OK.mk (z18 : List (Int × (Option Int)))), ow (OK.mk (z19 : List (Int × Int))), ow (OK.mk (s16.2.2 : List (Int × Bool))), vl (s10.2.2.2.2 : Int), vl (z11 : Int), vl (x13 : Int), vl (z15 : Int), vl (x17.a : Int), vl (x17.b : Int), vl (x17.c : Bool)]) (xp1_eq (xp_dput d 5 rfl rfl (.inl rfl) (xe_var d.toCok 11 rfl rfl (.inl rfl)) (xe_dget d.toCok (xk_own d.toCok 5 rfl rfl (.inl rfl)) (xe_var d.toCok 8 rfl rfl (.inl rfl)))) rfl) (fun z19 => (xp_seq (sto1 := fun (z21 : (List (Int × Bool))) => [vl (a.1 : (DK Int (List Int))), vl (a.2.1 : (DK Int Int)), vl (a.2.2.1 : Int), ow (OL.mk (s12.1 : (List Int))), ow (OK.mk (z18 : List (Int × (Option Int)))), ow (OK.mk (z19 : List (Int × Int))), ow (OK.mk (z21 : List (Int × Bool))), vl (s10.2.2.2.2 : Int), vl (z11 : Int), vl (x13 : Int), vl (z15 : Int), vl (x17.a : Int), vl (x17.b : Int), vl (x17.c : Bool)]) (xp1_eq (xp_dput d 6 rfl rfl (.inl rfl) (xe_var d.toCok 11 rfl rfl (.inl rfl)) (xe_var d.toCok 13 rfl rfl (.inl rfl))) rfl) (fun z21 => (xp_end [(11, false), (12, false), (13, false)] (z18, z19, z21) rfl))))))))) (fun s16 => (xb_pseq (sto1 := fun (z22 : (List Int)) => [vl (a.1 : (DK Int (List Int))), vl (a.2.1 : (DK Int Int)), vl (a.2.2.1 : Int), ow (OL.mk (z22 : (List Int))), ow (OK.mk (s16.1 : List (Int × (Option Int)))), ow (OK.mk (s16.2.1 : List (Int × Int))), ow (OK.mk (s16.2.2 : List (Int × Bool))), vl (s10.2.2.2.2 : Int), vl (z11 : Int), vl (x13 : Int), vl (z15 : Int), .dead, .dead, .dead]) (xp1_eq (xp_append d 3 rfl rfl (.inl rfl) (xe_var d.toCok 10 rfl rfl (.inl rfl))) rfl) (fun z22 => (xb_end [(10, false)] (z22, s16.1, s16.2.1, s16.2.2) rfl))))))) (xb_seq (S1 := Unit) (sto1 := (fun (_ : Unit) => [vl (a.1 : (DK Int (List Int))), vl (a.2.1 : (DK Int Int)), vl (a.2.2.1 : Int), ow (OL.mk (s12.1 : (List Int))), ow (OK.mk (s12.2.1 : List (Int × (Option Int)))), ow (OK.mk (s12.2.2.1 : List (Int × Int))), ow (OK.mk (s12.2.2.2 : List (Int × Bool))), vl (s10.2.2.2.2 : Int), vl (z11 : Int), vl (x13 : Int), .dead, .dead, .dead, .dead])) (xb_if (S := Unit) (sto := (fun (_ : Unit) => [vl (a.1 : (DK Int (List Int))), vl (a.2.1 : (DK Int Int)), vl (a.2.2.1 : Int), ow (OL.mk (s12.1 : (List Int))), ow (OK.mk (s12.2.1 : List (Int × (Option Int)))), ow (OK.mk (s12.2.2.1 : List (Int × Int))), ow (OK.mk (s12.2.2.2 : List (Int × Bool))), vl (s10.2.2.2.2 : Int), vl (z11 : Int), vl (x13 : Int), .dead, .dead, .dead, .dead])) (xt_eq (xt_w (xw_and (xt_val (xe_dget d.toCok (xk_own d.toCok 6 rfl rfl (.inl rfl)) (xe_var d.toCok 9 rfl rfl (.inl rfl)))) (xw_and1 (xt_ofC (xc_op2 op_ne o_neI (xe_dget d.toCok (xk_own d.toCok 5 rfl rfl (.inl rfl)) (xe_var d.toCok 9 rfl rfl (.inl rfl))) (xe_dget d.toCok (xk_own d.toCok 5 rfl rfl (.inl rfl)) (xe_var d.toCok 8 rfl rfl (.inl rfl)))))))) rfl) (xb_one (xb_ret (c := ()) (xe_eq (xe_opt (xe_ofN (xn_cat (xr_ofN (xn_listRev d.toCok (xr_of (xe_thawD 4 rfl rfl ok_one (xe_call d.toCok (c_way T) (by omega) rfl (xa_cons (xe_var d.toCok 4 rfl rfl (.inl rfl)) (xa_cons (xe_var d.toCok 8 rfl rfl (.inl rfl)) xa_nil))))) rfl T.b_list rfl T.b_reversed)) (xr_of (xe_thawD 4 rfl rfl ok_one (xe_call d.toCok (c_way T) (by omega) rfl (xa_cons (xe_var d.toCok 4 rfl rfl (.inl rfl)) (xa_cons (xe_var d.toCok 9 rfl rfl (.inl rfl)) xa_nil))))))) nn_list) rfl) rfl [(0, false), (1, false), (2, false), (3, false), (4, false), (5, false), (6, false), (7, false), (8, false), (9, false)] rfl rfl)) (xb_seq (S1 := Unit) (sto1 := (fun (_ : Unit) => [vl (a.1 : (DK Int (List Int))), vl (a.2.1 : (DK Int Int)), vl (a.2.2.1 : Int), ow (OL.mk (s12.1 : (List Int))), ow (OK.mk (s12.2.1 : List (Int × (Option Int)))), ow (OK.mk (s12.2.2.1 : List (Int × Int))), ow (OK.mk (s12.2.2.2 : List (Int × Bool))), vl (s10.2.2.2.2 : Int), vl (z11 : Int), vl (x13 : Int), .dead, .dead, .dead, .dead])) (xb_if (S := Unit) (sto := (fun (_ : Unit) => [vl (a.1 : (DK Int (List Int))), vl (a.2.1 : (DK Int Int)), vl (a.2.2.1 : Int), ow (OL.mk (s12.1 : (List Int))), ow (OK.mk (s12.2.1 : List (Int × (Option Int)))), ow (OK.mk (s12.2.2.1 : List (Int × Int))), ow (OK.mk (s12.2.2.2 : List (Int × Bool))), vl (s10.2.2.2.2 : Int), vl (z11 : Int), vl (x13 : Int), .dead, .dead, .dead, .dead])) (xt_eq (xt_val (xe_dget d.toCok (xk_own d.toCok 6 rfl rfl (.inl rfl)) (xe_var d.toCok 9 rfl rfl (.inl rfl)))) rfl) (xb_one (xb_ret (c := ()) (xe_eq (xe_call d.toCok hR hk rfl (xa_cons (xe_var d.toCok 0 rfl rfl (.inl rfl)) (xa_cons (xe_var d.toCok 1 rfl rfl (.inr (.inl rfl))) (xa_cons (xe_call d.toCok (c_ring_of T) (by omega) rfl (xa_cons (xe_thawD 4 rfl rfl ok_one (xe_call d.toCok (c_way T) (by omega) rfl (xa_cons (xe_var d.toCok 4 rfl rfl (.inl rfl)) (xa_cons (xe_var d.toCok 8 rfl rfl (.inl rfl)) xa_nil)))) (xa_cons (xe_thawD 4 rfl rfl ok_one (xe_call d.toCok (c_way T) (by omega) rfl (xa_cons (xe_var d.toCok 4 rfl rfl (.inl rfl)) (xa_cons (xe_var d.toCok 9 rfl rfl (.inl rfl)) xa_nil)))) xa_nil))) (xa_cons (xe_var d.toCok 2 rfl rfl (.inl rfl)) xa_nil))))) rfl) rfl [(0, false), (1, false), (2, false), (3, false), (4, false), (5, false), (6, false), (7, false), (8, false), (9, false)] rfl rfl)) (xb_end [] () rfl)) (fun _ => (xb_end [] () rfl)))) (fun _ => (xb_end [] (s12.1, s12.2.1, s12.2.2.1, s12.2.2.2) rfl)))) (fun s14 => (xb_end [(9, false)] (s14.1, s14.2.1, s14.2.2.1, s14.2.2.2) rfl))))) (fun s12 => (xb_pseq (sto1 := fun (z31 : Int) => [vl (a.1 : (DK Int (List Int))), vl (a.2.1 : (DK Int Int)), vl (a.2.2.1 : Int), ow (OL.mk (s12.1 : (List Int))), ow (OK.mk (s12.2.1 : List (Int × (Option Int)))), ow (OK.mk (s12.2.2.1 : List (Int × Int))), ow (OK.mk (s12.2.2.2 : List (Int × Bool))), vl (z31 : Int), vl (z11 : Int), .dead, .dead, .dead, .dead, .dead]) (xp_set d 7 (xe_eq (xe_op2 op_add o_add (xe_var d.toCok 7 rfl rfl (.inl rfl)) xe_int) rfl) rfl (.inl rfl)) (fun z31 => (xb_end [(8, false)] (s12.1, s12.2.1, s12.2.2.1, s12.2.2.2, z31) rfl))))))))) (fun s10 => (xb_one (xb_ret (c := ()) (xe_eq xe_none rfl) rfl [(0, false), (1, false), (2, false), (3, false), (4, false), (5, false), (6, false), (7, false)] rfl rfl))))))))))))))
abbrev s_through_ring : Stmt := top 14
theorem sc_through_ring : FnScope ["near", "partner", "ring", "name", "inner", "path", "node"] ["near", "partner", "ring", "name"] (defScope s_through_ring) := ⟨rfl, rfl, rfl, by decide +kernel, rfl, by decide +kernel, by decide +kernel⟩
def mb_through_ring (bet : (DK Int (List Int)) × (DK Int Int) × Int × Unit → Option (Option (List Int))) (a : (DK Int (List Int)) × (DK Int Int) × (List Int) × Int × Unit) : Option (Fl Empty Empty (Option (List Int)) Unit) :=
  (dcB (fun (x2 : Int) => (some (!isIn x2 a.2.2.1))) (fun (x2 : Int) => (some x2)) (fun (x2 : Int) => (look (a.2.1).l x2)) ((a.2.1).l.map (·.1))).bind fun (z1 : (List (Int × Int))) =>
  (((atI a.2.2.1 (0 : Int)).bind fun w3 => some ((look (a.2.1).l w3).isSome)).bind fun t => if t = true then
  (((atI a.2.2.1 (0 : Int)).bind fun w5 => look (a.2.1).l w5).bind fun w7 => dput z1 w7 a.2.2.2.1).bind fun (z6 : (List (Int × Int))) =>
  (((atI a.2.2.1 (0 : Int)).bind fun w8 => look (a.2.1).l w8).bind fun w10 => dput z6 a.2.2.2.1 w10).bind fun (z9 : (List (Int × Int))) =>
  (some z9)
 else
  (some z1)).bind fun (s4 : (List (Int × Int))) =>
  ((b2 ((b2 (some a.1) (b2 (some a.2.2.1) (b2 (some a.2.2.2.1) (some ()) fun x t => some (x, t)) fun x t => some (x, t)) fun x t => some (x, t)).bind m_shrunk) (b2 (some (DK.mk s4)) (b2 (some (a.2.2.2.1 + (1 : Int))) (some ()) fun x t => some (x, t)) fun x t => some (x, t)) fun x t => some (x, t)).bind bet).bind fun (z11 : (Option (List Int))) =>
  flb (((orM (some (Option.isNone z11)) ((z11).bind fun w12 => some (!isIn a.2.2.2.1 w12)))).bind fun t => if t = true then
  (some z11).bind fun b => some (Fl.ret b ())
 else
  (some (Fl.nx ()))) fun _ =>
  (((b2 (some a.1) (b2 (some a.2.1) (b2 (some a.2.2.1) (b2 (z11) (b2 (some a.2.2.2.1) (some ()) fun x t => some (x, t)) fun x t => some (x, t)) fun x t => some (x, t)) fun x t => some (x, t)) fun x t => some (x, t)).bind m_opened).bind fun w14 => some (some w14)).bind fun b => some (Fl.ret b ())
def m_through_ring (bet : (DK Int (List Int)) × (DK Int Int) × Int × Unit → Option (Option (List Int))) (a : (DK Int (List Int)) × (DK Int Int) × (List Int) × Int × Unit) : Option (Option (List Int)) := (mb_through_ring bet a).bind (retP Empty.elim)
theorem c_through_ring {Γ : Gm} (T : Tx Γ) {j k : Nat} {bet : (DK Int (List Int)) × (DK Int Int) × Int × Unit → Option (Option (List Int))} (hR : Cal Γ "better" j false bet) (hk : j ≤ k) (hk0 : 2 ≤ k) : Cal Γ "through_ring" (k + 1) false (m_through_ring bet) := by
  refine cal_of (k := k) (τ := (DK Int (List Int)) × (DK Int Int) × (List Int) × Int × Unit) T.d_through_ring sc_through_ring (S := Empty) (sto := (fun s => s.elim)) (m := mb_through_ring bet) Empty.elim (fun s => s.elim) rfl (fun X B a d => ?_) (m_through_ring bet) fun _ => rfl
  exact (xb_pseq (sto1 := fun (z1 : (List (Int × Int))) => [vl (a.1 : (DK Int (List Int))), vl (a.2.1 : (DK Int Int)), vl (a.2.2.1 : (List Int)), vl (a.2.2.2.1 : Int), ow (OK.mk (z1 : List (Int × Int))), .dead, .dead]) (xp1_eq (xp_setDcN (t := fun (x2 : Int) => (some (!isIn x2 a.2.2.1))) (fk := fun (x2 : Int) => (some x2)) (fv := fun (x2 : Int) => (look (a.2.1).l x2)) d (j := 4) (i := 6) rfl rfl rfl (xi_eq (xi_keys (xe_var d.toCok 1 rfl rfl (.inr (.inl rfl)))) rfl) rfl rfl rfl rfl rfl (fun X c x2 => xts_one (xt_eq (xt_ofC (xc_notIn (xe_var c 6 rfl rfl (.inl rfl)) (xr_of (xe_var c 2 rfl rfl (.inr (.inl rfl)))))) rfl)) (fun X c x2 => (xe_eq (xe_var c 6 rfl rfl (.inl rfl)) rfl)) (fun X c x2 => (xe_eq (xe_dget c (xk_of (xe_var c 1 rfl rfl (.inr (.inl rfl)))) (xe_var c 6 rfl rfl (.inl rfl))) rfl))) rfl) (fun z1 => (xb_pseq (S1 := (List (Int × Int))) (sto1 := (fun (s4 : (List (Int × Int))) => [vl (a.1 : (DK Int (List Int))), vl (a.2.1 : (DK Int Int)), vl (a.2.2.1 : (List Int)), vl (a.2.2.2.1 : Int), ow (OK.mk (s4 : List (Int × Int))), .dead, .dead])) (xp_if (S := (List (Int × Int))) (sto := (fun (s4 : (List (Int × Int))) => [vl (a.1 : (DK Int (List Int))), vl (a.2.1 : (DK Int Int)), vl (a.2.2.1 : (List Int)), vl (a.2.2.2.1 : Int), ow (OK.mk (s4 : List (Int × Int))), .dead, .dead])) (xt_eq (xt_ofC (xc_din d.toCok (xe_ix (xr_of (xe_var d.toCok 2 rfl rfl (.inr (.inl rfl)))) xe_int) (xk_of (xe_var d.toCok 1 rfl rfl (.inr (.inl rfl)))))) rfl) (xp_seq (sto1 := fun (z6 : (List (Int × Int))) => [vl (a.1 : (DK Int (List Int))), vl (a.2.1 : (DK Int Int)), vl (a.2.2.1 : (List Int)), vl (a.2.2.2.1 : Int), ow (OK.mk (z6 : List (Int × Int))), .dead, .dead]) (xp1_eq (xp_dput d 4 rfl rfl (.inl rfl) (xe_dget d.toCok (xk_of (xe_var d.toCok 1 rfl rfl (.inr (.inl rfl)))) (xe_ix (xr_of (xe_var d.toCok 2 rfl rfl (.inr (.inl rfl)))) xe_int)) (xe_var d.toCok 3 rfl rfl (.inl rfl))) rfl) (fun z6 => (xp_seq (sto1 := fun (z9 : (List (Int × Int))) => [vl (a.1 : (DK Int (List Int))), vl (a.2.1 : (DK Int Int)), vl (a.2.2.1 : (List Int)), vl (a.2.2.2.1 : Int), ow (OK.mk (z9 : List (Int × Int))), .dead, .dead]) (xp1_eq (xp_dput d 4 rfl rfl (.inl rfl) (xe_var d.toCok 3 rfl rfl (.inl rfl)) (xe_dget d.toCok (xk_of (xe_var d.toCok 1 rfl rfl (.inr (.inl rfl)))) (xe_ix (xr_of (xe_var d.toCok 2 rfl rfl (.inr (.inl rfl)))) xe_int))) rfl) (fun z9 => (xp_end [] z9 rfl))))) (xp_end [] z1 rfl)) (fun s4 => (xb_pre [(4, true)] (xb_pseq (sto1 := fun (z11 : (Option (List Int))) => [vl (a.1 : (DK Int (List Int))), vl (a.2.1 : (DK Int Int)), vl (a.2.2.1 : (List Int)), vl (a.2.2.2.1 : Int), vl ((DK.mk s4) : (DK Int Int)), vl (z11 : (Option (List Int))), .dead]) (xp_set d 5 (xe_eq (xe_call d.toCok hR hk rfl (xa_cons (xe_call d.toCok (c_shrunk T) (by omega) rfl (xa_cons (xe_var d.toCok 0 rfl rfl (.inl rfl)) (xa_cons (xe_var d.toCok 2 rfl rfl (.inr (.inl rfl))) (xa_cons (xe_var d.toCok 3 rfl rfl (.inl rfl)) xa_nil)))) (xa_cons (xe_var d.toCok 4 rfl rfl (.inl rfl)) (xa_cons (xe_op2 op_add o_add (xe_var d.toCok 3 rfl rfl (.inl rfl)) xe_int) xa_nil)))) rfl) rfl (.inl rfl)) (fun z11 => (xb_seq (S1 := Unit) (sto1 := (fun (_ : Unit) => [vl (a.1 : (DK Int (List Int))), vl (a.2.1 : (DK Int Int)), vl (a.2.2.1 : (List Int)), vl (a.2.2.2.1 : Int), vl ((DK.mk s4) : (DK Int Int)), vl (z11 : (Option (List Int))), .dead])) (xb_if (S := Unit) (sto := (fun (_ : Unit) => [vl (a.1 : (DK Int (List Int))), vl (a.2.1 : (DK Int Int)), vl (a.2.2.1 : (List Int)), vl (a.2.2.2.1 : Int), vl ((DK.mk s4) : (DK Int Int)), vl (z11 : (Option (List Int))), .dead])) (xt_eq (xt_w (xw_or (xt_ofC (xc_isN (xe_var d.toCok 5 rfl rfl (.inl rfl)))) (xw_or1 (xt_ofC (xc_notIn (xe_var d.toCok 3 rfl rfl (.inl rfl)) (xr_of (xe_unopt (xe_var d.toCok 5 rfl rfl (.inl rfl))))))))) rfl) (xb_one (xb_ret (c := ()) (xe_eq (xe_var d.toCok 5 rfl rfl (.inl rfl)) rfl) rfl [(0, false), (1, false), (2, false), (3, false), (4, false), (5, false)] rfl rfl)) (xb_end [] () rfl)) (fun _ => (xb_one (xb_ret (c := ()) (xe_eq (xe_opt (xe_call d.toCok (c_opened T) (by omega) rfl (xa_cons (xe_var d.toCok 0 rfl rfl (.inl rfl)) (xa_cons (xe_var d.toCok 1 rfl rfl (.inr (.inl rfl))) (xa_cons (xe_var d.toCok 2 rfl rfl (.inr (.inl rfl))) (xa_cons (xe_unopt (xe_var d.toCok 5 rfl rfl (.inl rfl))) (xa_cons (xe_var d.toCok 3 rfl rfl (.inl rfl)) xa_nil)))))) nn_list) rfl) rfl [(0, false), (1, false), (2, false), (3, false), (4, false), (5, false)] rfl rfl)))))) rfl)))))
def x_better : Nat → ((DK Int (List Int)) × (DK Int Int) × Int × Unit) → Option (Option (List Int))
  | 0, _ => none
  | n + 1, a => m_better (m_through_ring (x_better n)) a
theorem cx_better {Γ : Gm} (T : Tx Γ) : ∀ n, Cal Γ "better" (2 * n + 3) false (x_better n)
  | 0 => (cal_none (τ := (DK Int (List Int)) × (DK Int Int) × Int × Unit) T.d_better sc_better rfl).mono (by omega)
  | n + 1 => (c_better T (c_through_ring T (cx_better T n) (Nat.le_refl _) (by omega)) (Nat.le_refl _) (by omega)).mono (by omega)
abbrev s_greatest_of : Stmt := top 16
theorem sc_greatest_of : FnScope ["count", "edges", "near", "partner", "path", "k"] ["count", "edges"] (defScope s_greatest_of) := ⟨rfl, rfl, rfl, by decide +kernel, rfl, by decide +kernel, by decide +kernel⟩
def mb_greatest_of (a : Int × (List (Int × Int)) × Unit) : Option (Fl Empty Empty (DK Int Int) Unit) :=
  ((b2 (some a.1) (b2 (some a.2.1) (b2 (some (none : (Option Int))) (some ()) fun x t => some (x, t)) fun x t => some (x, t)) fun x t => some (x, t)).bind m_neighbours).bind fun (z1 : (DK Int (List Int))) =>
  (some ()).bind fun _ =>
  ((b2 (some z1) (b2 (some (DK.mk [])) (b2 (some a.1) (some ()) fun x t => some (x, t)) fun x t => some (x, t)) fun x t => some (x, t)).bind (x_better 12)).bind fun (z3 : (Option (List Int))) =>
  (whileP (fun (s4 : (List (Int × Int)) × (Option (List Int))) => (some (Option.isSome s4.2))) (fun (s4 : (List (Int × Int)) × (Option (List Int))) =>
  (((((s4.2).bind fun w5 => some ((w5).length : Int)).bind fun w6 => pdiv w6 (2 : Int)).bind fun w7 => prange 0 w7).bind fun xs => forP (fun (s8 : (List (Int × Int))) (x9 : Int) =>
  (((s4.2).bind fun w11 => ((pmul (2 : Int) x9).bind fun w10 => some (w10 + (1 : Int))).bind fun w12 => atI w11 w12).bind fun w16 => ((s4.2).bind fun w13 => (pmul (2 : Int) x9).bind fun w14 => atI w13 w14).bind fun w17 => dput s8 w17 w16).bind fun (z15 : (List (Int × Int))) =>
  (((s4.2).bind fun w18 => (pmul (2 : Int) x9).bind fun w19 => atI w18 w19).bind fun w24 => ((s4.2).bind fun w21 => ((pmul (2 : Int) x9).bind fun w20 => some (w20 + (1 : Int))).bind fun w22 => atI w21 w22).bind fun w25 => dput z15 w25 w24).bind fun (z23 : (List (Int × Int))) =>
  (some z23)) s4.1 xs).bind fun (s8 : (List (Int × Int))) =>
  ((b2 (some z1) (b2 (some (DK.mk s8)) (b2 (some a.1) (some ()) fun x t => some (x, t)) fun x t => some (x, t)) fun x t => some (x, t)).bind (x_better 12)).bind fun (z26 : (Option (List Int))) =>
  (some (s8, z26))) 1000 ([], z3)).bind fun (s4 : (List (Int × Int)) × (Option (List Int))) =>
  (some (DK.mk s4.1)).bind fun b => some (Fl.ret b ())
def m_greatest_of (a : Int × (List (Int × Int)) × Unit) : Option (DK Int Int) := (mb_greatest_of a).bind (retP Empty.elim)
theorem c_greatest_of {Γ : Gm} (T : Tx Γ) : Cal Γ "greatest_of" 28 false m_greatest_of := by
  refine cal_of (k := 27) (τ := Int × (List (Int × Int)) × Unit) T.d_greatest_of sc_greatest_of (S := Empty) (sto := (fun s => s.elim)) (m := mb_greatest_of) Empty.elim (fun s => s.elim) rfl (fun X B a d => ?_) m_greatest_of fun _ => rfl
  exact (xb_pseq (sto1 := fun (z1 : (DK Int (List Int))) => [vl (a.1 : Int), vl (a.2.1 : (List (Int × Int))), vl (z1 : (DK Int (List Int))), .dead, .dead, .dead]) (xp_set d 2 (xe_eq (xe_call d.toCok (c_neighbours T) (by decide) rfl (xa_cons (xe_var d.toCok 0 rfl rfl (.inl rfl)) (xa_cons (xe_var d.toCok 1 rfl rfl (.inl rfl)) (xa_cons xe_none xa_nil)))) rfl) rfl (.inl rfl)) (fun z1 => (xb_pseq (sto1 := fun _ => [vl (a.1 : Int), vl (a.2.1 : (List (Int × Int))), vl (z1 : (DK Int (List Int))), ow (OK.mk ([] : List (Int × Int))), .dead, .dead]) (xp_setDK d (α := Int) (κ := Int) 3 rfl (.inl rfl)) (fun _ => (xb_pseq (sto1 := fun (z3 : (Option (List Int))) => [vl (a.1 : Int), vl (a.2.1 : (List (Int × Int))), vl (z1 : (DK Int (List Int))), ow (OK.mk ([] : List (Int × Int))), vl (z3 : (Option (List Int))), .dead]) (xp_set d 4 (xe_eq (xe_thawD 3 rfl rfl ok_one (xe_call d.toCok (cx_better T 12) (by decide) rfl (xa_cons (xe_var d.toCok 2 rfl rfl (.inl rfl)) (xa_cons (xe_var d.toCok 3 rfl rfl (.inl rfl)) (xa_cons (xe_var d.toCok 0 rfl rfl (.inl rfl)) xa_nil))))) rfl) rfl (.inl rfl)) (fun z3 => (xb_pseq (S1 := (List (Int × Int)) × (Option (List Int))) (sto1 := (fun (s4 : (List (Int × Int)) × (Option (List Int))) => [vl (a.1 : Int), .dead, vl (z1 : (DK Int (List Int))), ow (OK.mk (s4.1 : List (Int × Int))), vl (s4.2 : (Option (List Int))), .dead])) (xp1_pre [(1, false)] (xp_while (S := (List (Int × Int)) × (Option (List Int))) (sto := (fun (s4 : (List (Int × Int)) × (Option (List Int))) => [vl (a.1 : Int), .dead, vl (z1 : (DK Int (List Int))), ow (OK.mk (s4.1 : List (Int × Int))), vl (s4.2 : (Option (List Int))), .dead])) d ([], z3) 1000 (fun s4 => (xt_eq (xt_ofC (xc_notN (xe_var d.toCok 4 rfl rfl (.inl rfl)))) rfl)) (fun s4 => (xp_seq (S1 := (List (Int × Int))) (sto1 := (fun (s8 : (List (Int × Int))) => [vl (a.1 : Int), .dead, vl (z1 : (DK Int (List Int))), ow (OK.mk (s8 : List (Int × Int))), vl (s4.2 : (Option (List Int))), .dead])) (xp_for (S := (List (Int × Int))) (sto := (fun (s8 : (List (Int × Int))) => [vl (a.1 : Int), .dead, vl (z1 : (DK Int (List Int))), ow (OK.mk (s8 : List (Int × Int))), vl (s4.2 : (Option (List Int))), .dead])) d s4.1 (xi_eq (xi_range1 d.toCok (xe_op2 op_fdiv o_div (xe_lenR d.toCok (xr_of (xe_unopt (xe_var d.toCok 4 rfl rfl (.inl rfl)))) rfl T.b_len) xe_int) rfl T.b_range) rfl) (fun B d => xg_name d 5 rfl (.inl rfl)) (fun B d s8 x9 => (xp_seq (sto1 := fun (z15 : (List (Int × Int))) => [vl (a.1 : Int), .dead, vl (z1 : (DK Int (List Int))), ow (OK.mk (z15 : List (Int × Int))), vl (s4.2 : (Option (List Int))), vl (x9 : Int)]) (xp1_eq (xp_dput d 3 rfl rfl (.inl rfl) (xe_ix (xr_of (xe_unopt (xe_var d.toCok 4 rfl rfl (.inl rfl)))) (xe_op2 op_mul o_mul xe_int (xe_var d.toCok 5 rfl rfl (.inl rfl)))) (xe_ix (xr_of (xe_unopt (xe_var d.toCok 4 rfl rfl (.inl rfl)))) (xe_op2 op_add o_add (xe_op2 op_mul o_mul xe_int (xe_var d.toCok 5 rfl rfl (.inl rfl))) xe_int))) rfl) (fun z15 => (xp_seq (sto1 := fun (z23 : (List (Int × Int))) => [vl (a.1 : Int), .dead, vl (z1 : (DK Int (List Int))), ow (OK.mk (z23 : List (Int × Int))), vl (s4.2 : (Option (List Int))), vl (x9 : Int)]) (xp1_eq (xp_dput d 3 rfl rfl (.inl rfl) (xe_ix (xr_of (xe_unopt (xe_var d.toCok 4 rfl rfl (.inl rfl)))) (xe_op2 op_add o_add (xe_op2 op_mul o_mul xe_int (xe_var d.toCok 5 rfl rfl (.inl rfl))) xe_int)) (xe_ix (xr_of (xe_unopt (xe_var d.toCok 4 rfl rfl (.inl rfl)))) (xe_op2 op_mul o_mul xe_int (xe_var d.toCok 5 rfl rfl (.inl rfl))))) rfl) (fun z23 => (xp_end [(5, false)] z23 rfl))))))) (fun s8 => (xp_seq (sto1 := fun (z26 : (Option (List Int))) => [vl (a.1 : Int), .dead, vl (z1 : (DK Int (List Int))), ow (OK.mk (s8 : List (Int × Int))), vl (z26 : (Option (List Int))), .dead]) (xp_set d 4 (xe_eq (xe_thawD 3 rfl rfl ok_one (xe_call d.toCok (cx_better T 12) (by decide) rfl (xa_cons (xe_var d.toCok 2 rfl rfl (.inl rfl)) (xa_cons (xe_var d.toCok 3 rfl rfl (.inl rfl)) (xa_cons (xe_var d.toCok 0 rfl rfl (.inl rfl)) xa_nil))))) rfl) rfl (.inl rfl)) (fun z26 => (xp_end [] (s8, z26) rfl))))))) rfl) (fun s4 => (xb_one (xb1_pre [(3, true)] (xb_ret (c := ()) (xe_eq (xe_var d.toCok 3 rfl rfl (.inl rfl)) rfl) rfl [(0, false), (2, false), (3, false), (4, false)] rfl rfl) rfl))))))))))
abbrev s_greatest : Stmt := top 17
theorem sc_greatest : FnScope ["count", "edges", "partner", "node"] ["count", "edges"] (defScope s_greatest) := ⟨rfl, rfl, rfl, by decide +kernel, rfl, by decide +kernel, by decide +kernel⟩
def mb_greatest (a : Dy × (List (Dy × Dy)) × Unit) : Option (Fl Empty Empty (List (Option Int)) Unit) :=
  flb (((b2 (some a.1) (b2 (some a.2.1) (some ()) fun x t => some (x, t)) fun x t => some (x, t)).bind (fun t => (m_check_web t).bind fun r => some (exR () r))).bind fun r => some (exDo r)) fun _ =>
  ((b2 (cst Int a.1) (b2 (cst (List (Int × Int)) a.2.1) (some ()) fun x t => some (x, t)) fun x t => some (x, t)).bind m_greatest_of).bind fun (z1 : (DK Int Int)) =>
  (((cst Int a.1).bind fun w2 => prange 0 w2).bind fun w4 => lcB (fun (x3 : Int) => (some true)) (fun (x3 : Int) => (some (look (z1).l x3))) w4).bind fun b => some (Fl.ret b ())
def m_greatest (a : Dy × (List (Dy × Dy)) × Unit) : Option (Except Er (List (Option Int))) := (mb_greatest a).bind (retE Empty.elim)
theorem c_greatest {Γ : Gm} (T : Tx Γ) : CalE Γ "greatest" 29 true m_greatest := by
  refine calE_of (k := 28) (τ := Dy × (List (Dy × Dy)) × Unit) T.d_greatest sc_greatest (S := Empty) (sto := (fun s => s.elim)) (m := mb_greatest) Empty.elim (fun s => s.elim) rfl (fun X B a W d => ?_) m_greatest fun _ => rfl
  exact (xb_seq (S1 := Unit) (sto1 := fun _ => [vl (a.1 : Dy), vl (a.2.1 : (List (Dy × Dy))), .dead, .dead]) (xb_doX (xx_eq (xx_callE d () [0, 1] (c_check_web T) (by decide) rfl (xa_cons (xe_var d.toCok 0 rfl rfl (.inl rfl)) (xa_cons (xe_var d.toCok 1 rfl rfl (.inl rfl)) xa_nil)) rfl) rfl)) (fun _ => (xb_pseq (sto1 := fun (z1 : (DK Int Int)) => [vl (a.1 : Dy), vl (a.2.1 : (List (Dy × Dy))), vl (z1 : (DK Int Int)), .dead]) (xp_set d 2 (xe_eq (xe_call d.toCok (c_greatest_of T) (by decide) rfl (xa_cons (xe_cst (γ := Int) (xe_var d.toCok 0 rfl rfl (.inl rfl))) (xa_cons (xe_cst (γ := (List (Int × Int))) (xe_var d.toCok 1 rfl rfl (.inl rfl))) xa_nil))) rfl) rfl (.inr rfl)) (fun z1 => (xb_one (xb_retN (c := ()) (xn_eq (xn_lc (t := fun (x3 : Int) => (some true)) (f := fun (x3 : Int) => (some (look (z1).l x3))) (i := 3) d.toCok (xi_eq (xi_range1 d.toCok (xe_cst (γ := Int) (xe_var d.toCok 0 rfl rfl (.inl rfl))) rfl T.b_range) rfl) rfl rfl rfl rfl rfl d.hfx (fun X c a => xts_nil (fun _ => _) a) (fun X c x3 => (xe_eq (xe_get1 c (xk_of (xe_var c 2 rfl rfl (.inr (.inl rfl)))) (xe_var c 3 rfl rfl (.inl rfl)) nn_at ⟨rfl, rfl, rfl, rfl⟩) rfl))) rfl) rfl [(0, false), (1, false), (2, false)] rfl (fun _ => d.hM)))))))
abbrev s_missed_by_some : Stmt := top 18
theorem sc_missed_by_some : FnScope ["count", "edges", "partner", "found", "node", "rest", "one"] ["count", "edges"] (defScope s_missed_by_some) := ⟨rfl, rfl, rfl, by decide +kernel, rfl, by decide +kernel, by decide +kernel⟩
def mb_missed_by_some (a : Dy × (List (Dy × Dy)) × Unit) : Option (Fl Empty Empty (List Int) Unit) :=
  flb (((b2 (some a.1) (b2 (some a.2.1) (some ()) fun x t => some (x, t)) fun x t => some (x, t)).bind (fun t => (m_check_web t).bind fun r => some (exR () r))).bind fun r => some (exDo r)) fun _ =>
  ((b2 (cst Int a.1) (b2 (cst (List (Int × Int)) a.2.1) (some ()) fun x t => some (x, t)) fun x t => some (x, t)).bind m_greatest_of).bind fun (z1 : (DK Int Int)) =>
  (some ([] : (List Int))).bind fun (z2 : (List Int)) =>
  (((cst Int a.1).bind fun w3 => prange 0 w3).bind fun xs => forP (fun (s4 : (List Int)) (x5 : Int) =>
  ((some (!(look (z1).l x5).isSome)).bind fun t => if t = true then
  (push s4 x5).bind fun (z7 : (List Int)) =>
  (some z7)
 else
  (dcB (fun (x9 : Int) => ((andM (some (!decide (x9 = x5))) ((look (z1).l x5).bind fun w10 => some (!decide (x9 = w10)))))) (fun (x9 : Int) => (some x9)) (fun (x9 : Int) => (look (z1).l x9)) ((z1).l.map (·.1))).bind fun (z8 : (List (Int × Int))) =>
  ((((b2 ((b2 (cst Int a.1) (b2 (cst (List (Int × Int)) a.2.1) (b2 (some (some x5)) (some ()) fun x t => some (x, t)) fun x t => some (x, t)) fun x t => some (x, t)).bind m_neighbours) (b2 (some (DK.mk z8)) (b2 (cst Int a.1) (some ()) fun x t => some (x, t)) fun x t => some (x, t)) fun x t => some (x, t)).bind (x_better 12)).bind fun w11 => some (Option.isSome w11)).bind fun t => if t = true then
  (push s4 x5).bind fun (z13 : (List Int)) =>
  (some z13)
 else
  (some s4)).bind fun (s12 : (List Int)) =>
  (some s12)).bind fun (s6 : (List Int)) =>
  (some s6)) z2 xs).bind fun (s4 : (List Int)) =>
  (some (Fl.ret s4 ()))
def m_missed_by_some (a : Dy × (List (Dy × Dy)) × Unit) : Option (Except Er (List Int)) := (mb_missed_by_some a).bind (retE Empty.elim)
theorem c_missed_by_some {Γ : Gm} (T : Tx Γ) : CalE Γ "missed_by_some" 29 true m_missed_by_some := by
  refine calE_of (k := 28) (τ := Dy × (List (Dy × Dy)) × Unit) T.d_missed_by_some sc_missed_by_some (S := Empty) (sto := (fun s => s.elim)) (m := mb_missed_by_some) Empty.elim (fun s => s.elim) rfl (fun X B a W d => ?_) m_missed_by_some fun _ => rfl
  exact (xb_seq (S1 := Unit) (sto1 := fun _ => [vl (a.1 : Dy), vl (a.2.1 : (List (Dy × Dy))), .dead, .dead, .dead, .dead, .dead]) (xb_doX (xx_eq (xx_callE d () [0, 1] (c_check_web T) (by decide) rfl (xa_cons (xe_var d.toCok 0 rfl rfl (.inl rfl)) (xa_cons (xe_var d.toCok 1 rfl rfl (.inl rfl)) xa_nil)) rfl) rfl)) (fun _ => (xb_pseq (sto1 := fun (z1 : (DK Int Int)) => [vl (a.1 : Dy), vl (a.2.1 : (List (Dy × Dy))), vl (z1 : (DK Int Int)), .dead, .dead, .dead, .dead]) (xp_set d 2 (xe_eq (xe_call d.toCok (c_greatest_of T) (by decide) rfl (xa_cons (xe_cst (γ := Int) (xe_var d.toCok 0 rfl rfl (.inl rfl))) (xa_cons (xe_cst (γ := (List (Int × Int))) (xe_var d.toCok 1 rfl rfl (.inl rfl))) xa_nil))) rfl) rfl (.inr rfl)) (fun z1 => (xb_pseq (sto1 := fun (z2 : (List Int)) => [vl (a.1 : Dy), vl (a.2.1 : (List (Dy × Dy))), vl (z1 : (DK Int Int)), ow (OL.mk (z2 : (List Int))), .dead, .dead, .dead]) (xp_setN d 3 (xn_eq (xn_list (α := Int) xl_nil) rfl) rfl (.inl rfl)) (fun z2 => (xb_pseq (S1 := (List Int)) (sto1 := (fun (s4 : (List Int)) => [vl (a.1 : Dy), vl (a.2.1 : (List (Dy × Dy))), vl (z1 : (DK Int Int)), ow (OL.mk (s4 : (List Int))), .dead, .dead, .dead])) (xp_for (S := (List Int)) (sto := (fun (s4 : (List Int)) => [vl (a.1 : Dy), vl (a.2.1 : (List (Dy × Dy))), vl (z1 : (DK Int Int)), ow (OL.mk (s4 : (List Int))), .dead, .dead, .dead])) d z2 (xi_eq (xi_range1 d.toCok (xe_cst (γ := Int) (xe_var d.toCok 0 rfl rfl (.inl rfl))) rfl T.b_range) rfl) (fun B d => xg_name d 4 rfl (.inr rfl)) (fun B d s4 x5 => (xp_seq (S1 := (List Int)) (sto1 := (fun (s6 : (List Int)) => [vl (a.1 : Dy), vl (a.2.1 : (List (Dy × Dy))), vl (z1 : (DK Int Int)), ow (OL.mk (s6 : (List Int))), vl (x5 : Int), .dead, .dead])) (xp_if (S := (List Int)) (sto := (fun (s6 : (List Int)) => [vl (a.1 : Dy), vl (a.2.1 : (List (Dy × Dy))), vl (z1 : (DK Int Int)), ow (OL.mk (s6 : (List Int))), vl (x5 : Int), .dead, .dead])) (xt_eq (xt_ofC (xc_dnotIn d.toCok (xe_var d.toCok 4 rfl rfl (.inr (.inl rfl))) (xk_of (xe_var d.toCok 2 rfl rfl (.inr (.inl rfl)))))) rfl) (xp_seq (sto1 := fun (z7 : (List Int)) => [vl (a.1 : Dy), vl (a.2.1 : (List (Dy × Dy))), vl (z1 : (DK Int Int)), ow (OL.mk (z7 : (List Int))), vl (x5 : Int), .dead, .dead]) (xp1_eq (xp_append d 3 rfl rfl (.inl rfl) (xe_var d.toCok 4 rfl rfl (.inr (.inl rfl)))) rfl) (fun z7 => (xp_end [] z7 rfl))) (xp_seq (sto1 := fun (z8 : (List (Int × Int))) => [vl (a.1 : Dy), vl (a.2.1 : (List (Dy × Dy))), vl (z1 : (DK Int Int)), ow (OL.mk (s4 : (List Int))), vl (x5 : Int), vl ((DK.mk z8) : (DK Int Int)), .dead]) (xp1_eq (xp_setDc (t := fun (x9 : Int) => ((andM (some (!decide (x9 = x5))) ((look (z1).l x5).bind fun w10 => some (!decide (x9 = w10)))))) (fk := fun (x9 : Int) => (some x9)) (fv := fun (x9 : Int) => (look (z1).l x9)) d (j := 5) (i := 6) rfl rfl rfl (xi_eq (xi_keys (xe_var d.toCok 2 rfl rfl (.inr (.inl rfl)))) rfl) rfl rfl rfl rfl rfl (fun X c x9 => xts_one (xt_eq (xt_w (xw_and (xt_ofC (xc_op2 op_ne o_neI (xe_var c 6 rfl rfl (.inl rfl)) (xe_var c 4 rfl rfl (.inr (.inl rfl))))) (xw_and1 (xt_ofC (xc_op2 op_ne o_neI (xe_var c 6 rfl rfl (.inl rfl)) (xe_dget c (xk_of (xe_var c 2 rfl rfl (.inr (.inl rfl)))) (xe_var c 4 rfl rfl (.inr (.inl rfl))))))))) rfl)) (fun X c x9 => (xe_eq (xe_var c 6 rfl rfl (.inl rfl)) rfl)) (fun X c x9 => (xe_eq (xe_dget c (xk_of (xe_var c 2 rfl rfl (.inr (.inl rfl)))) (xe_var c 6 rfl rfl (.inl rfl))) rfl))) rfl) (fun z8 => (xp_seq (S1 := (List Int)) (sto1 := (fun (s12 : (List Int)) => [vl (a.1 : Dy), vl (a.2.1 : (List (Dy × Dy))), vl (z1 : (DK Int Int)), ow (OL.mk (s12 : (List Int))), vl (x5 : Int), vl ((DK.mk z8) : (DK Int Int)), .dead])) (xp_if (S := (List Int)) (sto := (fun (s12 : (List Int)) => [vl (a.1 : Dy), vl (a.2.1 : (List (Dy × Dy))), vl (z1 : (DK Int Int)), ow (OL.mk (s12 : (List Int))), vl (x5 : Int), vl ((DK.mk z8) : (DK Int Int)), .dead])) (xt_eq (xt_ofC (xc_notN (xe_call d.toCok (cx_better T 12) (by decide) rfl (xa_cons (xe_call d.toCok (c_neighbours T) (by decide) rfl (xa_cons (xe_cst (γ := Int) (xe_var d.toCok 0 rfl rfl (.inl rfl))) (xa_cons (xe_cst (γ := (List (Int × Int))) (xe_var d.toCok 1 rfl rfl (.inl rfl))) (xa_cons (xe_opt (xe_var d.toCok 4 rfl rfl (.inr (.inl rfl))) nn_at) xa_nil)))) (xa_cons (xe_var d.toCok 5 rfl rfl (.inl rfl)) (xa_cons (xe_cst (γ := Int) (xe_var d.toCok 0 rfl rfl (.inl rfl))) xa_nil)))))) rfl) (xp_seq (sto1 := fun (z13 : (List Int)) => [vl (a.1 : Dy), vl (a.2.1 : (List (Dy × Dy))), vl (z1 : (DK Int Int)), ow (OL.mk (z13 : (List Int))), vl (x5 : Int), vl ((DK.mk z8) : (DK Int Int)), .dead]) (xp1_eq (xp_append d 3 rfl rfl (.inl rfl) (xe_var d.toCok 4 rfl rfl (.inr (.inl rfl)))) rfl) (fun z13 => (xp_end [] z13 rfl))) (xp_end [] s4 rfl)) (fun s12 => (xp_end [(5, false)] s12 rfl)))))) (fun s6 => (xp_end [(4, false)] s6 rfl))))) (fun s4 => (xb_one (xb_retO d.toCok 3 rfl rfl rfl (.inl rfl) (fun _ _ r => r) ol_fp (fun _ => d.hM) [(0, false), (1, false), (2, false), (3, false)] rfl))))))))))
abbrev s__law_cell : Stmt := top 20
theorem sc__law_cell : FnScope ["_law_script", "_law_k"] ["_law_script", "_law_k"] (defScope s__law_cell) := ⟨rfl, rfl, rfl, by decide +kernel, rfl, by decide +kernel, by decide +kernel⟩
def mb__law_cell (a : Scr × Int × Unit) : Option (Fl Empty Empty Int Unit) :=
  flb ((some (decide (a.2.1 < ((a.1).l.length : Int)))).bind fun t => if t = true then
  (atI (a.1).l a.2.1).bind fun b => some (Fl.ret b ())
 else
  (some (Fl.nx ()))) fun _ =>
  ((pmul (23 : Int) a.2.1).bind fun w2 => some (w2 + (1 : Int))).bind fun b => some (Fl.ret b ())
def m__law_cell (a : Scr × Int × Unit) : Option Int := (mb__law_cell a).bind (retP Empty.elim)
theorem c__law_cell {Γ : Gm} (T : Tx Γ) : Cal Γ "_law_cell" 1 false m__law_cell := by
  refine cal_of (k := 0) (τ := Scr × Int × Unit) T.d__law_cell sc__law_cell (S := Empty) (sto := (fun s => s.elim)) (m := mb__law_cell) Empty.elim (fun s => s.elim) rfl (fun X B a d => ?_) m__law_cell fun _ => rfl
  exact (xb_seq (S1 := Unit) (sto1 := (fun (_ : Unit) => [vl (a.1 : Scr), vl (a.2.1 : Int)])) (xb_if (S := Unit) (sto := (fun (_ : Unit) => [vl (a.1 : Scr), vl (a.2.1 : Int)])) (xt_eq (xt_ofC (xc_op2 op_lt o_lt (xe_var d.toCok 1 rfl rfl (.inl rfl)) (xe_lenScr d.toCok (xe_var d.toCok 0 rfl rfl (.inl rfl)) rfl T.b_len))) rfl) (xb_one (xb_ret (c := ()) (xe_eq (xe_intI d.toCok (xe_ixScr d.toCok (xe_var d.toCok 0 rfl rfl (.inl rfl)) (xe_var d.toCok 1 rfl rfl (.inl rfl))) rfl T.b_int) rfl) rfl [(0, false), (1, false)] rfl rfl)) (xb_end [] () rfl)) (fun _ => (xb_one (xb_ret (c := ()) (xe_eq (xe_op2 op_add o_add (xe_op2 op_mul o_mul xe_int (xe_var d.toCok 1 rfl rfl (.inl rfl))) xe_int) rfl) rfl [(0, false), (1, false)] rfl rfl))))
abbrev s__law_edges : Stmt := top 21
theorem sc__law_edges : FnScope ["_law_script", "_law_at", "_law_count", "_law_dense", "_law_edges_here", "_law_a", "_law_rest", "_law_b"] ["_law_script", "_law_at", "_law_count", "_law_dense"] (defScope s__law_edges) := ⟨rfl, rfl, rfl, by decide +kernel, rfl, by decide +kernel, by decide +kernel⟩
def mb__law_edges (a : Scr × Int × Int × Int × Unit) : Option (Fl Empty Empty (List (Int × Int)) Unit) :=
  (some ([] : (List (Int × Int)))).bind fun (z1 : (List (Int × Int))) =>
  ((prange 0 a.2.2.1).bind fun xs => forP (fun (s2 : (List (Int × Int))) (x3 : Int) =>
  ((b2 (some a.1) (b2 (some (a.2.1 + x3)) (some ()) fun x t => some (x, t)) fun x t => some (x, t)).bind m__law_cell).bind fun (z4 : Int) =>
  ((prange (x3 + (1 : Int)) a.2.2.1).bind fun xs => forP (fun (s5 : (List (Int × Int)) × Int) (x6 : Int) =>
  (((((pmul x3 x6).bind fun w7 => some (s5.2 + w7)).bind fun w8 => pmod w8 a.2.2.2.1).bind fun w9 => some (decide (w9 = (0 : Int)))).bind fun t => if t = true then
  (push s5.1 (x3, x6)).bind fun (z11 : (List (Int × Int))) =>
  (some z11)
 else
  (some s5.1)).bind fun (s10 : (List (Int × Int))) =>
  ((pdiv s5.2 a.2.2.2.1).bind fun w13 => some (w13 + x6)).bind fun (z12 : Int) =>
  (some (s10, z12))) (s2, z4) xs).bind fun (s5 : (List (Int × Int)) × Int) =>
  (some s5.1)) z1 xs).bind fun (s2 : (List (Int × Int))) =>
  (some s2).bind fun b => some (Fl.ret b ())
def m__law_edges (a : Scr × Int × Int × Int × Unit) : Option (List (Int × Int)) := (mb__law_edges a).bind (retP Empty.elim)
theorem c__law_edges {Γ : Gm} (T : Tx Γ) : Cal Γ "_law_edges" 2 false m__law_edges := by
  refine cal_of (k := 1) (τ := Scr × Int × Int × Int × Unit) T.d__law_edges sc__law_edges (S := Empty) (sto := (fun s => s.elim)) (m := mb__law_edges) Empty.elim (fun s => s.elim) rfl (fun X B a d => ?_) m__law_edges fun _ => rfl
  exact (xb_pseq (sto1 := fun (z1 : (List (Int × Int))) => [vl (a.1 : Scr), vl (a.2.1 : Int), vl (a.2.2.1 : Int), vl (a.2.2.2.1 : Int), ow (OL.mk (z1 : (List (Int × Int)))), .dead, .dead, .dead]) (xp_setN d 4 (xn_eq (xn_list (α := (Int × Int)) xl_nil) rfl) rfl (.inl rfl)) (fun z1 => (xb_pseq (S1 := (List (Int × Int))) (sto1 := (fun (s2 : (List (Int × Int))) => [vl (a.1 : Scr), vl (a.2.1 : Int), vl (a.2.2.1 : Int), vl (a.2.2.2.1 : Int), ow (OL.mk (s2 : (List (Int × Int)))), .dead, .dead, .dead])) (xp_for (S := (List (Int × Int))) (sto := (fun (s2 : (List (Int × Int))) => [vl (a.1 : Scr), vl (a.2.1 : Int), vl (a.2.2.1 : Int), vl (a.2.2.2.1 : Int), ow (OL.mk (s2 : (List (Int × Int)))), .dead, .dead, .dead])) d z1 (xi_eq (xi_range1 d.toCok (xe_var d.toCok 2 rfl rfl (.inl rfl)) rfl T.b_range) rfl) (fun B d => xg_name d 5 rfl (.inl rfl)) (fun B d s2 x3 => (xp_seq (sto1 := fun (z4 : Int) => [vl (a.1 : Scr), vl (a.2.1 : Int), vl (a.2.2.1 : Int), vl (a.2.2.2.1 : Int), ow (OL.mk (s2 : (List (Int × Int)))), vl (x3 : Int), vl (z4 : Int), .dead]) (xp_set d 6 (xe_eq (xe_call d.toCok (c__law_cell T) (by decide) rfl (xa_cons (xe_var d.toCok 0 rfl rfl (.inl rfl)) (xa_cons (xe_op2 op_add o_add (xe_var d.toCok 1 rfl rfl (.inl rfl)) (xe_var d.toCok 5 rfl rfl (.inl rfl))) xa_nil))) rfl) rfl (.inl rfl)) (fun z4 => (xp_seq (S1 := (List (Int × Int)) × Int) (sto1 := (fun (s5 : (List (Int × Int)) × Int) => [vl (a.1 : Scr), vl (a.2.1 : Int), vl (a.2.2.1 : Int), vl (a.2.2.2.1 : Int), ow (OL.mk (s5.1 : (List (Int × Int)))), vl (x3 : Int), vl (s5.2 : Int), .dead])) (xp_for (S := (List (Int × Int)) × Int) (sto := (fun (s5 : (List (Int × Int)) × Int) => [vl (a.1 : Scr), vl (a.2.1 : Int), vl (a.2.2.1 : Int), vl (a.2.2.2.1 : Int), ow (OL.mk (s5.1 : (List (Int × Int)))), vl (x3 : Int), vl (s5.2 : Int), .dead])) d (s2, z4) (xi_eq (xi_range2 d.toCok (xe_op2 op_add o_add (xe_var d.toCok 5 rfl rfl (.inl rfl)) xe_int) (xe_var d.toCok 2 rfl rfl (.inl rfl)) rfl T.b_range) rfl) (fun B d => xg_name d 7 rfl (.inl rfl)) (fun B d s5 x6 => (xp_seq (S1 := (List (Int × Int))) (sto1 := (fun (s10 : (List (Int × Int))) => [vl (a.1 : Scr), vl (a.2.1 : Int), vl (a.2.2.1 : Int), vl (a.2.2.2.1 : Int), ow (OL.mk (s10 : (List (Int × Int)))), vl (x3 : Int), vl (s5.2 : Int), vl (x6 : Int)])) (xp_if (S := (List (Int × Int))) (sto := (fun (s10 : (List (Int × Int))) => [vl (a.1 : Scr), vl (a.2.1 : Int), vl (a.2.2.1 : Int), vl (a.2.2.2.1 : Int), ow (OL.mk (s10 : (List (Int × Int)))), vl (x3 : Int), vl (s5.2 : Int), vl (x6 : Int)])) (xt_eq (xt_ofC (xc_op2 op_eq o_eqI (xe_op2 op_mod o_mod (xe_op2 op_add o_add (xe_var d.toCok 6 rfl rfl (.inl rfl)) (xe_op2 op_mul o_mul (xe_var d.toCok 5 rfl rfl (.inl rfl)) (xe_var d.toCok 7 rfl rfl (.inl rfl)))) (xe_var d.toCok 3 rfl rfl (.inl rfl))) xe_int)) rfl) (xp_seq (sto1 := fun (z11 : (List (Int × Int))) => [vl (a.1 : Scr), vl (a.2.1 : Int), vl (a.2.2.1 : Int), vl (a.2.2.2.1 : Int), ow (OL.mk (z11 : (List (Int × Int)))), vl (x3 : Int), vl (s5.2 : Int), vl (x6 : Int)]) (xp1_eq (xp_append d 4 rfl rfl (.inl rfl) (xe_tup2 (xe_var d.toCok 5 rfl rfl (.inl rfl)) (xe_var d.toCok 7 rfl rfl (.inl rfl)))) rfl) (fun z11 => (xp_end [] z11 rfl))) (xp_end [] s5.1 rfl)) (fun s10 => (xp_seq (sto1 := fun (z12 : Int) => [vl (a.1 : Scr), vl (a.2.1 : Int), vl (a.2.2.1 : Int), vl (a.2.2.2.1 : Int), ow (OL.mk (s10 : (List (Int × Int)))), vl (x3 : Int), vl (z12 : Int), vl (x6 : Int)]) (xp_set d 6 (xe_eq (xe_op2 op_add o_add (xe_op2 op_fdiv o_div (xe_var d.toCok 6 rfl rfl (.inl rfl)) (xe_var d.toCok 3 rfl rfl (.inl rfl))) (xe_var d.toCok 7 rfl rfl (.inl rfl))) rfl) rfl (.inl rfl)) (fun z12 => (xp_end [(7, false)] (s10, z12) rfl))))))) (fun s5 => (xp_end [(5, false), (6, false)] s5.1 rfl))))))) (fun s2 => (xb_one (xb1_pre [(4, true)] (xb_ret (c := ()) (xe_eq (xe_var d.toCok 4 rfl rfl (.inl rfl)) rfl) rfl [(0, false), (1, false), (2, false), (3, false), (4, false)] rfl rfl) rfl))))))
abbrev s__law_turned : Stmt := top 22
theorem sc__law_turned : FnScope ["_law_rows", "_law_cell_here", "_law_left", "_law_turned_here", "_law_k"] ["_law_rows", "_law_cell_here"] (defScope s__law_turned) := ⟨rfl, rfl, rfl, by decide +kernel, rfl, by decide +kernel, by decide +kernel⟩
def mb__law_turned (a : (List (Int × Int)) × Int × Unit) : Option (Fl Empty Empty (List (Int × Int)) Unit) :=
  (some a.1).bind fun (z1 : (List (Int × Int))) =>
  (some ([] : (List (Int × Int)))).bind fun (z2 : (List (Int × Int))) =>
  ((prange 0 ((a.1).length : Int)).bind fun xs => forP (fun (s3 : (List (Int × Int)) × (List (Int × Int))) (x4 : Int) =>
  ((((pdiv a.2.1 (x4 + (1 : Int))).bind fun w5 => pmod w5 ((s3.1).length : Int)).bind fun w6 => ppopAt s3.1 w6).bind fun q => (push s3.2 q.1).bind fun ys => some (q.2, ys)).bind fun (z7 : ((List (Int × Int)) × (List (Int × Int)))) =>
  (some (z7.1, z7.2))) (z1, z2) xs).bind fun (s3 : (List (Int × Int)) × (List (Int × Int))) =>
  (some s3.2).bind fun b => some (Fl.ret b ())
def m__law_turned (a : (List (Int × Int)) × Int × Unit) : Option (List (Int × Int)) := (mb__law_turned a).bind (retP Empty.elim)
theorem c__law_turned {Γ : Gm} (T : Tx Γ) : Cal Γ "_law_turned" 1 false m__law_turned := by
  refine cal_of (k := 0) (τ := (List (Int × Int)) × Int × Unit) T.d__law_turned sc__law_turned (S := Empty) (sto := (fun s => s.elim)) (m := mb__law_turned) Empty.elim (fun s => s.elim) rfl (fun X B a d => ?_) m__law_turned fun _ => rfl
  exact (xb_pseq (sto1 := fun (z1 : (List (Int × Int))) => [vl (a.1 : (List (Int × Int))), vl (a.2.1 : Int), ow (OL.mk (z1 : (List (Int × Int)))), .dead, .dead]) (xp_setN d 2 (xn_eq (xn_listOf d.toCok (xr_of (xe_var d.toCok 0 rfl rfl (.inl rfl))) rfl T.b_list) rfl) rfl (.inl rfl)) (fun z1 => (xb_pseq (sto1 := fun (z2 : (List (Int × Int))) => [vl (a.1 : (List (Int × Int))), vl (a.2.1 : Int), ow (OL.mk (z1 : (List (Int × Int)))), ow (OL.mk (z2 : (List (Int × Int)))), .dead]) (xp_setN d 3 (xn_eq (xn_list (α := (Int × Int)) xl_nil) rfl) rfl (.inl rfl)) (fun z2 => (xb_pseq (S1 := (List (Int × Int)) × (List (Int × Int))) (sto1 := (fun (s3 : (List (Int × Int)) × (List (Int × Int))) => [vl (a.1 : (List (Int × Int))), vl (a.2.1 : Int), ow (OL.mk (s3.1 : (List (Int × Int)))), ow (OL.mk (s3.2 : (List (Int × Int)))), .dead])) (xp_for (S := (List (Int × Int)) × (List (Int × Int))) (sto := (fun (s3 : (List (Int × Int)) × (List (Int × Int))) => [vl (a.1 : (List (Int × Int))), vl (a.2.1 : Int), ow (OL.mk (s3.1 : (List (Int × Int)))), ow (OL.mk (s3.2 : (List (Int × Int)))), .dead])) d (z1, z2) (xi_eq (xi_range1 d.toCok (xe_lenR d.toCok (xr_of (xe_var d.toCok 0 rfl rfl (.inl rfl))) rfl T.b_len) rfl T.b_range) rfl) (fun B d => xg_name d 4 rfl (.inl rfl)) (fun B d s3 x4 => (xp_seq (sto1 := fun (z7 : ((List (Int × Int)) × (List (Int × Int)))) => [vl (a.1 : (List (Int × Int))), vl (a.2.1 : Int), ow (OL.mk (z7.1 : (List (Int × Int)))), ow (OL.mk (z7.2 : (List (Int × Int)))), vl (x4 : Int)]) (xp_appF d 3 (us := fun _ => s3.2) (sto := fun s => [vl (a.1 : (List (Int × Int))), vl (a.2.1 : Int), ow (OL.mk (s : (List (Int × Int)))), ow (OL.mk (s3.2 : (List (Int × Int)))), vl (x4 : Int)]) (xf_eq (xf_popAt d.toCok 2 rfl rfl (.inl rfl) (xe_op2 op_mod o_mod (xe_op2 op_fdiv o_div (xe_var d.toCok 1 rfl rfl (.inl rfl)) (xe_op2 op_add o_add (xe_var d.toCok 4 rfl rfl (.inl rfl)) xe_int)) (xe_lenR d.toCok (xr_own d.toCok 2 rfl rfl (.inl rfl)) rfl T.b_len))) rfl) rfl (fun _ => rfl) rfl (.inl rfl)) (fun z7 => (xp_end [(4, false)] (z7.1, z7.2) rfl))))) (fun s3 => (xb_one (xb1_pre [(3, true)] (xb_ret (c := ()) (xe_eq (xe_var d.toCok 3 rfl rfl (.inl rfl)) rfl) rfl [(0, false), (1, false), (2, false), (3, false)] rfl rfl) rfl))))))))
abbrev s__law_raises : Stmt := top 23
theorem sc__law_raises : FnScope ["_law_which", "_law_count", "_law_edges_here", "error"] ["_law_which", "_law_count", "_law_edges_here"] (defScope s__law_raises) := ⟨rfl, rfl, rfl, by decide +kernel, rfl, by decide +kernel, by decide +kernel⟩
def mb__law_raises (a : Int × Dy × (List (Dy × Dy)) × Unit) : Option (Fl Empty Empty Bool Unit) :=
  flb (tryM (S := Unit) (C := Unit) (Sx := Unit) (hitN exl 1) (flb ((some (decide (a.1 = (0 : Int)))).bind fun t => if t = true then
  flb (((b2 (some a.2.1) (b2 (some a.2.2.1) (some ()) fun x t => some (x, t)) fun x t => some (x, t)).bind (fun t => (m_greatest t).bind fun r => some (exR (Sum.inr ()) r))).bind fun r => some (exDo r)) fun _ =>
  (some (Fl.nx ()))
 else
  flb (((b2 (some a.2.1) (b2 (some a.2.2.1) (some ()) fun x t => some (x, t)) fun x t => some (x, t)).bind (fun t => (m_missed_by_some t).bind fun r => some (exR (Sum.inr ()) r))).bind fun r => some (exDo r)) fun _ =>
  (some (Fl.nx ()))) fun _ =>
  (some (Fl.nx ()))) (fun (er : Er) (_ : Unit) =>
  ((andM (some (He.subN er.cls 0)) (some true))).bind fun b => some (Fl.ret b ()))) fun (_ : Unit) =>
  (some false).bind fun b => some (Fl.ret b ())
def m__law_raises (a : Int × Dy × (List (Dy × Dy)) × Unit) : Option Bool := (mb__law_raises a).bind (retP Empty.elim)
theorem c__law_raises {Γ : Gm} (T : Tx Γ) : Cal Γ "_law_raises" 30 false m__law_raises := by
  refine cal_of (k := 29) (τ := Int × Dy × (List (Dy × Dy)) × Unit) T.d__law_raises sc__law_raises (S := Empty) (sto := (fun s => s.elim)) (m := mb__law_raises) Empty.elim (fun s => s.elim) rfl (fun X B a d => ?_) m__law_raises fun _ => rfl
  exact (xb_seq (S1 := Unit) (sto1 := (fun (_ : Unit) => [.dead, .dead, .dead, .dead])) (xb_tryAs (S := Unit) (Sx := Unit) (sto := (fun (_ : Unit) => [.dead, .dead, .dead, .dead])) (stx := fun (_ : Unit) => [.dead, .dead, .dead, .dead]) (mb := flb ((some (decide (a.1 = (0 : Int)))).bind fun t => if t = true then
  flb (((b2 (some a.2.1) (b2 (some a.2.2.1) (some ()) fun x t => some (x, t)) fun x t => some (x, t)).bind (fun t => (m_greatest t).bind fun r => some (exR (Sum.inr ()) r))).bind fun r => some (exDo r)) fun _ =>
  (some (Fl.nx ()))
 else
  flb (((b2 (some a.2.1) (b2 (some a.2.2.1) (some ()) fun x t => some (x, t)) fun x t => some (x, t)).bind (fun t => (m_missed_by_some t).bind fun r => some (exR (Sum.inr ()) r))).bind fun r => some (exDo r)) fun _ =>
  (some (Fl.nx ()))) fun _ =>
  (some (Fl.nx ()))) (ms := fun (er : Er) (_ : Unit) => ((andM (some (He.subN er.cls 0)) (some true))).bind fun b => some (Fl.ret b ())) d T.xs T.x_InvalidWeb (by decide) rfl (i := 3) rfl rfl rfl (fun _ => rfl) (fun _ => rfl) (fun l => by first | exact l.elim | rfl) (fun l => by first | exact l.elim | rfl) rfl (fun X W d => (xb_seq (S1 := Unit) (sto1 := (fun (_ : Unit) => [vl (a.1 : Int), vl (a.2.1 : Dy), vl (a.2.2.1 : (List (Dy × Dy))), .dead])) (xb_if (S := Unit) (sto := (fun (_ : Unit) => [vl (a.1 : Int), vl (a.2.1 : Dy), vl (a.2.2.1 : (List (Dy × Dy))), .dead])) (xt_eq (xt_ofC (xc_op2 op_eq o_eqI (xe_var d.toCok 0 rfl rfl (.inl rfl)) xe_int)) rfl) (xb_seq (S1 := Unit) (sto1 := fun _ => [vl (a.1 : Int), vl (a.2.1 : Dy), vl (a.2.2.1 : (List (Dy × Dy))), .dead]) (xb_doX (xx_eq (xx_callE d (Sum.inr ()) [0, 1, 2] (c_greatest T) (by decide) rfl (xa_cons (xe_var d.toCok 1 rfl rfl (.inl rfl)) (xa_cons (xe_var d.toCok 2 rfl rfl (.inl rfl)) xa_nil)) rfl) rfl)) (fun _ => (xb_end [] () rfl))) (xb_seq (S1 := Unit) (sto1 := fun _ => [vl (a.1 : Int), vl (a.2.1 : Dy), vl (a.2.2.1 : (List (Dy × Dy))), .dead]) (xb_doX (xx_eq (xx_callE d (Sum.inr ()) [0, 1, 2] (c_missed_by_some T) (by decide) rfl (xa_cons (xe_var d.toCok 1 rfl rfl (.inl rfl)) (xa_cons (xe_var d.toCok 2 rfl rfl (.inl rfl)) xa_nil)) rfl) rfl)) (fun _ => (xb_end [] () rfl)))) (fun _ => (xb_end [(0, false), (1, false), (2, false)] () rfl)))) (fun X a er _ h hh => (xb_one (xb_ret (c := ()) (xe_eq (xe_and (xh_isE h T.xs (hit_in hh) T.x_SwapError (by decide) (xh_err h 3 rfl rfl (.inl rfl)) rfl T.b_isinstance rfl) (xe_and1 (xh_isVE h T.xs (hit_in hh) (xh_err h 3 rfl rfl (.inl rfl)) rfl T.b_isinstance rfl T.b_ValueError))) rfl) rfl [(3, false)] rfl rfl)))) (fun _ => (xb_one (xb_ret (c := ()) (xe_eq xe_bl rfl) rfl [] rfl rfl))))
abbrev s_law : Stmt := top 24
theorem sc_law : FnScope ["_law_script", "_law_count", "_law_edges_here", "_law_cell_here", "_law_at", "_law_far", "_law_bad", "_law_node", "_law_which", "_law_edge", "_law_number"] ["_law_script"] (defScope s_law) := ⟨rfl, rfl, rfl, by decide +kernel, rfl, by decide +kernel, by decide +kernel⟩
def mb_law (a : Scr × Unit) : Option (Fl Empty Empty Bool Unit) :=
  ((((b2 (some a.1) (b2 (some (0 : Int)) (some ()) fun x t => some (x, t)) fun x t => some (x, t)).bind m__law_cell).bind fun w2 => pmod w2 (19 : Int)).bind fun w3 => some ((2 : Int) + w3)).bind fun (z1 : Int) =>
  ((b2 (some a.1) (b2 (some (3 : Int)) (b2 (some z1) (b2 ((((b2 (some a.1) (b2 (some (1 : Int)) (some ()) fun x t => some (x, t)) fun x t => some (x, t)).bind m__law_cell).bind fun w5 => pmod w5 (9 : Int)).bind fun w6 => some ((2 : Int) + w6)) (some ()) fun x t => some (x, t)) fun x t => some (x, t)) fun x t => some (x, t)) fun x t => some (x, t)).bind m__law_edges).bind fun (z4 : (List (Int × Int))) =>
  ((b2 (some a.1) (b2 (some (2 : Int)) (some ()) fun x t => some (x, t)) fun x t => some (x, t)).bind m__law_cell).bind fun (z7 : Int) =>
  (pmod z7 (((z4).length : Int) + (1 : Int))).bind fun (z8 : Int) =>
  ((pdiv z7 (20 : Int)).bind fun w12 => (((pdiv z7 (3 : Int)).bind fun w10 => pmod w10 (2 : Int)).bind fun w11 => atI [(50 : Int), (1000000000000000000 : Int)] w11).bind fun w13 => pmod w12 w13).bind fun (z9 : Int) =>
  (seqO [((cst Dy (1 : Int)).bind fun w15 => (cst Dy (0 : Int)).bind fun w16 => some (w15, w16)), ((cst Dy (1 : Int)).bind fun w17 => (cst Dy (1 : Int)).bind fun w18 => some (w17, w18)), ((cst Dy (0 : Int)).bind fun w19 => (cst Dy z1).bind fun w20 => some (w19, w20)), ((cst Dy (0 : Int)).bind fun w21 => (cst Dy (z1 + z9)).bind fun w22 => some (w21, w22)), ((cst Dy (((0 : Int) - (1 : Int)) - z9)).bind fun w23 => (cst Dy (1 : Int)).bind fun w24 => some (w23, w24)), ((cst Dy z1).bind fun w25 => (cst Dy (z1 + (1 : Int))).bind fun w26 => some (w25, w26)), ((cst Dy (0 : Int)).bind fun w27 => (cst Dy true).bind fun w28 => some (w27, w28)), ((cst Dy false).bind fun w29 => (cst Dy (1 : Int)).bind fun w30 => some (w29, w30)), ((cst Dy (0 : Int)).bind fun w31 => (cst Dy ()).bind fun w32 => some (w31, w32))]).bind fun (z14 : (List (Dy × Dy))) =>
  ((((seqO [(cst Dy (Tt.mk "1" (by decide +kernel))), (cst Dy (Tt.mk "" (by decide +kernel))), (cst Dy ()), (cst Dy true), (cst Dy false), (cst Dy (TL.mk [(0 : Int)])), (cst Dy [(1 : Int)])]).bind fun xs => some (TL.mk xs)).bind fun w33 => some (w33).l).bind fun xs => forP (fun (s34 : (List (Dy × Dy))) (x35 : Dy) =>
  ((seqO [((cst Dy (0 : Int)).bind fun w37 => some (w37, x35)), ((cst Dy (1 : Int)).bind fun w38 => some (x35, w38))]).bind fun w39 => pcat s34 w39).bind fun (z36 : (List (Dy × Dy))) =>
  (some z36)) z14 xs).bind fun (s34 : (List (Dy × Dy))) =>
  ((some (!decide (z4 = ([] : (List (Int × Int)))))).bind fun t => if t = true then
  ((seqO [((((pdiv z7 (7 : Int)).bind fun w42 => pmod w42 ((z4).length : Int)).bind fun w43 => atI z4 w43).bind fun w44 => cst (Dy × Dy) w44), ((((atI z4 (0 : Int)).bind fun w45 => some (w45).2).bind fun w46 => cst Dy w46).bind fun w49 => (((atI z4 (0 : Int)).bind fun w47 => some (w47).1).bind fun w48 => cst Dy w48).bind fun w50 => some (w49, w50))]).bind fun w51 => pcat s34 w51).bind fun (z41 : (List (Dy × Dy))) =>
  (some z41)
 else
  (some s34)).bind fun (s40 : (List (Dy × Dy))) =>
  flb ((((seqO [(cst Dy (0 : Int)), (cst Dy (1 : Int))]).bind fun xs => some (TL.mk xs)).bind fun w52 => some (w52).l).bind fun xs => forF (fun (_ : Unit) (x54 : Dy) =>
  flb (((orM ((b2 (cst Int x54) (b2 (cst Dy z1) (b2 (cst (List (Dy × Dy)) z4) (some ()) fun x t => some (x, t)) fun x t => some (x, t)) fun x t => some (x, t)).bind m__law_raises) (orM ((b2 (cst Int x54) (b2 (cst Dy (0 : Int)) (b2 (some ([] : (List (Dy × Dy)))) (some ()) fun x t => some (x, t)) fun x t => some (x, t)) fun x t => some (x, t)).bind m__law_raises) ((b2 (cst Int x54) (b2 (cst Dy (20 : Int)) (b2 (seqO [((cst Dy (18 : Int)).bind fun w55 => (cst Dy (19 : Int)).bind fun w56 => some (w55, w56)), ((cst Dy (0 : Int)).bind fun w57 => (cst Dy (19 : Int)).bind fun w58 => some (w57, w58))]) (some ()) fun x t => some (x, t)) fun x t => some (x, t)) fun x t => some (x, t)).bind m__law_raises)))).bind fun t => if t = true then
  (some false).bind fun b => some (Fl.ret b ())
 else
  (some (Fl.nx ()))) fun _ =>
  flb ((some s40).bind fun xs => forF (fun (_ : Unit) (x61 : (Dy × Dy)) =>
  flb ((((b2 (cst Int x54) (b2 (cst Dy z1) (b2 (((cstL (Dy × Dy) (cut z4 none (some z8))).bind fun w62 => pcat w62 [x61]).bind fun w63 => (cstL (Dy × Dy) (cut z4 (some z8) none)).bind fun w64 => pcat w63 w64) (some ()) fun x t => some (x, t)) fun x t => some (x, t)) fun x t => some (x, t)).bind m__law_raises).bind fun w65 => some (!w65)).bind fun t => if t = true then
  (some false).bind fun b => some (Fl.ret b ())
 else
  (some (Fl.nx ()))) fun _ =>
  (some (Fl.nx ()))) () xs) fun (_ : Unit) =>
  flb ((((seqO [(cst Dy (((0 : Int) - (1 : Int)) - z9)), (cst Dy ((21 : Int) + z9)), (cst Dy true), (cst Dy false), (cst Dy ()), (cst Dy (Tt.mk "2" (by decide +kernel)))]).bind fun xs => some (TL.mk xs)).bind fun w67 => some (w67).l).bind fun xs => forF (fun (_ : Unit) (x69 : Dy) =>
  flb (((orM (((b2 (cst Int x54) (b2 (some x69) (b2 (some ([] : (List (Dy × Dy)))) (some ()) fun x t => some (x, t)) fun x t => some (x, t)) fun x t => some (x, t)).bind m__law_raises).bind fun w70 => some (!w70)) (orM (((b2 (cst Int x54) (b2 (some x69) (b2 (cst (List (Dy × Dy)) z4) (some ()) fun x t => some (x, t)) fun x t => some (x, t)) fun x t => some (x, t)).bind m__law_raises).bind fun w71 => some (!w71)) (((b2 (cst Int x54) (b2 (some x69) (b2 (seqO [((cst Dy (0 : Int)).bind fun w72 => (cst Dy (1 : Int)).bind fun w73 => some (w72, w73))]) (some ()) fun x t => some (x, t)) fun x t => some (x, t)) fun x t => some (x, t)).bind m__law_raises).bind fun w74 => some (!w74))))).bind fun t => if t = true then
  (some false).bind fun b => some (Fl.ret b ())
 else
  (some (Fl.nx ()))) fun _ =>
  (some (Fl.nx ()))) () xs) fun (_ : Unit) =>
  (some (Fl.nx ()))) () xs) fun (_ : Unit) =>
  (some true).bind fun b => some (Fl.ret b ())
def m_law (a : Scr × Unit) : Option Bool := (mb_law a).bind (retP Empty.elim)
theorem f_law {Γ : Gm} (T : Tx Γ) {f : Addr} {fd : FuncData} (F : Fun Γ.K "law" "law" s_law f fd) : FnOk Γ.P Γ.w Γ.K Γ.mg Γ.base CX0 31 f fd ["_law_script"] (specP Γ false m_law) := by
  refine fnok_of (k := 30) (τ := Scr × Unit) F sc_law (S := Empty) (sto := (fun s => s.elim)) (m := mb_law) Empty.elim (fun s => s.elim) rfl (fun X B a d => ?_) m_law fun _ => rfl
  exact (xb_pseq (sto1 := fun (z1 : Int) => [vl (a.1 : Scr), vl (z1 : Int), .dead, .dead, .dead, .dead, .dead, .dead, .dead, .dead, .dead]) (xp_set d 1 (xe_eq (xe_op2 op_add o_add xe_int (xe_op2 op_mod o_mod (xe_call d.toCok (c__law_cell T) (by decide) rfl (xa_cons (xe_var d.toCok 0 rfl rfl (.inl rfl)) (xa_cons xe_int xa_nil))) xe_int)) rfl) rfl (.inl rfl)) (fun z1 => (xb_pseq (sto1 := fun (z4 : (List (Int × Int))) => [vl (a.1 : Scr), vl (z1 : Int), vl (z4 : (List (Int × Int))), .dead, .dead, .dead, .dead, .dead, .dead, .dead, .dead]) (xp_set d 2 (xe_eq (xe_call d.toCok (c__law_edges T) (by decide) rfl (xa_cons (xe_var d.toCok 0 rfl rfl (.inl rfl)) (xa_cons xe_int (xa_cons (xe_var d.toCok 1 rfl rfl (.inl rfl)) (xa_cons (xe_op2 op_add o_add xe_int (xe_op2 op_mod o_mod (xe_call d.toCok (c__law_cell T) (by decide) rfl (xa_cons (xe_var d.toCok 0 rfl rfl (.inl rfl)) (xa_cons xe_int xa_nil))) xe_int)) xa_nil))))) rfl) rfl (.inl rfl)) (fun z4 => (xb_pseq (sto1 := fun (z7 : Int) => [vl (a.1 : Scr), vl (z1 : Int), vl (z4 : (List (Int × Int))), vl (z7 : Int), .dead, .dead, .dead, .dead, .dead, .dead, .dead]) (xp_set d 3 (xe_eq (xe_call d.toCok (c__law_cell T) (by decide) rfl (xa_cons (xe_var d.toCok 0 rfl rfl (.inl rfl)) (xa_cons xe_int xa_nil))) rfl) rfl (.inl rfl)) (fun z7 => (xb_pseq (sto1 := fun (z8 : Int) => [vl (a.1 : Scr), vl (z1 : Int), vl (z4 : (List (Int × Int))), vl (z7 : Int), vl (z8 : Int), .dead, .dead, .dead, .dead, .dead, .dead]) (xp_set d 4 (xe_eq (xe_op2 op_mod o_mod (xe_var d.toCok 3 rfl rfl (.inl rfl)) (xe_op2 op_add o_add (xe_lenR d.toCok (xr_of (xe_var d.toCok 2 rfl rfl (.inl rfl))) rfl T.b_len) xe_int)) rfl) rfl (.inl rfl)) (fun z8 => (xb_pseq (sto1 := fun (z9 : Int) => [vl (a.1 : Scr), vl (z1 : Int), vl (z4 : (List (Int × Int))), vl (z7 : Int), vl (z8 : Int), vl (z9 : Int), .dead, .dead, .dead, .dead, .dead]) (xp_set d 5 (xe_eq (xe_op2 op_mod o_mod (xe_op2 op_fdiv o_div (xe_var d.toCok 3 rfl rfl (.inl rfl)) xe_int) (xe_ix (xr_ofN (xn_list (xl_cons xe_int (xl_cons xe_int xl_nil)))) (xe_op2 op_mod o_mod (xe_op2 op_fdiv o_div (xe_var d.toCok 3 rfl rfl (.inl rfl)) xe_int) xe_int))) rfl) rfl (.inl rfl)) (fun z9 => (xb_pseq (sto1 := fun (z14 : (List (Dy × Dy))) => [vl (a.1 : Scr), vl (z1 : Int), vl (z4 : (List (Int × Int))), vl (z7 : Int), vl (z8 : Int), vl (z9 : Int), vl (z14 : (List (Dy × Dy))), .dead, .dead, .dead, .dead]) (xp_set d 6 (xe_eq (xe_ofN (xn_list (xl_cons (xe_tup2 (xe_cst (γ := Dy) xe_int) (xe_cst (γ := Dy) xe_int)) (xl_cons (xe_tup2 (xe_cst (γ := Dy) xe_int) (xe_cst (γ := Dy) xe_int)) (xl_cons (xe_tup2 (xe_cst (γ := Dy) xe_int) (xe_cst (γ := Dy) (xe_var d.toCok 1 rfl rfl (.inl rfl)))) (xl_cons (xe_tup2 (xe_cst (γ := Dy) xe_int) (xe_cst (γ := Dy) (xe_op2 op_add o_add (xe_var d.toCok 1 rfl rfl (.inl rfl)) (xe_var d.toCok 5 rfl rfl (.inl rfl))))) (xl_cons (xe_tup2 (xe_cst (γ := Dy) (xe_op2 op_sub o_sub (xe_op2 op_sub o_sub xe_int xe_int) (xe_var d.toCok 5 rfl rfl (.inl rfl)))) (xe_cst (γ := Dy) xe_int)) (xl_cons (xe_tup2 (xe_cst (γ := Dy) (xe_var d.toCok 1 rfl rfl (.inl rfl))) (xe_cst (γ := Dy) (xe_op2 op_add o_add (xe_var d.toCok 1 rfl rfl (.inl rfl)) xe_int))) (xl_cons (xe_tup2 (xe_cst (γ := Dy) xe_int) (xe_cst (γ := Dy) xe_bl)) (xl_cons (xe_tup2 (xe_cst (γ := Dy) xe_bl) (xe_cst (γ := Dy) xe_int)) (xl_cons (xe_tup2 (xe_cst (γ := Dy) xe_int) (xe_cst (γ := Dy) xe_unit)) xl_nil))))))))))) rfl) rfl (.inl rfl)) (fun z14 => (xb_pseq (S1 := (List (Dy × Dy))) (sto1 := (fun (s34 : (List (Dy × Dy))) => [.dead, vl (z1 : Int), vl (z4 : (List (Int × Int))), vl (z7 : Int), vl (z8 : Int), vl (z9 : Int), vl (s34 : (List (Dy × Dy))), .dead, .dead, .dead, .dead])) (xp1_pre [(0, false)] (xp_for (S := (List (Dy × Dy))) (sto := (fun (s34 : (List (Dy × Dy))) => [.dead, vl (z1 : Int), vl (z4 : (List (Int × Int))), vl (z7 : Int), vl (z8 : Int), vl (z9 : Int), vl (s34 : (List (Dy × Dy))), .dead, .dead, .dead, .dead])) d z14 (xi_eq (xi_tup (xe_eq (xe_tupL (xl_cons (xe_cst (γ := Dy) xe_str) (xl_cons (xe_cst (γ := Dy) xe_str) (xl_cons (xe_cst (γ := Dy) xe_unit) (xl_cons (xe_cst (γ := Dy) xe_bl) (xl_cons (xe_cst (γ := Dy) xe_bl) (xl_cons (xe_cst (γ := Dy) (xe_eq (xe_tupL (xl_cons xe_int (xl_nil))) rfl)) (xl_cons (xe_cst (γ := Dy) (xe_ofN (xn_list (xl_cons xe_int xl_nil)))) (xl_nil))))))))) rfl)) rfl) (fun B d => xg_name d 7 rfl (.inl rfl)) (fun B d s34 x35 => (xp_seq (sto1 := fun (z36 : (List (Dy × Dy))) => [.dead, vl (z1 : Int), vl (z4 : (List (Int × Int))), vl (z7 : Int), vl (z8 : Int), vl (z9 : Int), vl (z36 : (List (Dy × Dy))), vl (x35 : Dy), .dead, .dead, .dead]) (xp_set d 6 (xe_eq (xe_ofN (xn_cat (xr_of (xe_var d.toCok 6 rfl rfl (.inl rfl))) (xr_ofN (xn_list (xl_cons (xe_tup2 (xe_cst (γ := Dy) xe_int) (xe_var d.toCok 7 rfl rfl (.inl rfl))) (xl_cons (xe_tup2 (xe_var d.toCok 7 rfl rfl (.inl rfl)) (xe_cst (γ := Dy) xe_int)) xl_nil)))))) rfl) rfl (.inl rfl)) (fun z36 => (xp_end [(7, false)] z36 rfl))))) rfl) (fun s34 => (xb_pseq (S1 := (List (Dy × Dy))) (sto1 := (fun (s40 : (List (Dy × Dy))) => [.dead, vl (z1 : Int), vl (z4 : (List (Int × Int))), vl (z7 : Int), vl (z8 : Int), vl (z9 : Int), vl (s40 : (List (Dy × Dy))), .dead, .dead, .dead, .dead])) (xp_if (S := (List (Dy × Dy))) (sto := (fun (s40 : (List (Dy × Dy))) => [.dead, vl (z1 : Int), vl (z4 : (List (Int × Int))), vl (z7 : Int), vl (z8 : Int), vl (z9 : Int), vl (s40 : (List (Dy × Dy))), .dead, .dead, .dead, .dead])) (xt_eq (xt_ofC (xc_neD d.toCok (xe_var d.toCok 2 rfl rfl (.inl rfl)) (xe_ofN (xn_list (α := (Int × Int)) xl_nil)))) rfl) (xp_seq (sto1 := fun (z41 : (List (Dy × Dy))) => [.dead, vl (z1 : Int), vl (z4 : (List (Int × Int))), vl (z7 : Int), vl (z8 : Int), vl (z9 : Int), vl (z41 : (List (Dy × Dy))), .dead, .dead, .dead, .dead]) (xp_set d 6 (xe_eq (xe_ofN (xn_cat (xr_of (xe_var d.toCok 6 rfl rfl (.inl rfl))) (xr_ofN (xn_list (xl_cons (xe_cst (γ := (Dy × Dy)) (xe_ix (xr_of (xe_var d.toCok 2 rfl rfl (.inl rfl))) (xe_op2 op_mod o_mod (xe_op2 op_fdiv o_div (xe_var d.toCok 3 rfl rfl (.inl rfl)) xe_int) (xe_lenR d.toCok (xr_of (xe_var d.toCok 2 rfl rfl (.inl rfl))) rfl T.b_len)))) (xl_cons (xe_tup2 (xe_cst (γ := Dy) (xe_snd (xe_ix (xr_of (xe_var d.toCok 2 rfl rfl (.inl rfl))) xe_int))) (xe_cst (γ := Dy) (xe_fst (xe_ix (xr_of (xe_var d.toCok 2 rfl rfl (.inl rfl))) xe_int)))) xl_nil)))))) rfl) rfl (.inl rfl)) (fun z41 => (xp_end [] z41 rfl))) (xp_end [] s34 rfl)) (fun s40 => (xb_seq (S1 := Unit) (sto1 := (fun (_ : Unit) => [.dead, vl (z1 : Int), vl (z4 : (List (Int × Int))), .dead, vl (z8 : Int), vl (z9 : Int), vl (s40 : (List (Dy × Dy))), .dead, .dead, .dead, .dead])) (xb1_pre [(3, false)] (xb_for (S := Unit) (sto := (fun (_ : Unit) => [.dead, vl (z1 : Int), vl (z4 : (List (Int × Int))), .dead, vl (z8 : Int), vl (z9 : Int), vl (s40 : (List (Dy × Dy))), .dead, .dead, .dead, .dead])) d () (xi_eq (xi_tup (xe_eq (xe_tupL (xl_cons (xe_cst (γ := Dy) xe_int) (xl_cons (xe_cst (γ := Dy) xe_int) (xl_nil)))) rfl)) rfl) (fun B d => xg_name d 8 rfl (.inl rfl)) (fun B d _ x54 => (xb_seq (S1 := Unit) (sto1 := (fun (_ : Unit) => [.dead, vl (z1 : Int), vl (z4 : (List (Int × Int))), .dead, vl (z8 : Int), vl (z9 : Int), vl (s40 : (List (Dy × Dy))), .dead, vl (x54 : Dy), .dead, .dead])) (xb_if (S := Unit) (sto := (fun (_ : Unit) => [.dead, vl (z1 : Int), vl (z4 : (List (Int × Int))), .dead, vl (z8 : Int), vl (z9 : Int), vl (s40 : (List (Dy × Dy))), .dead, vl (x54 : Dy), .dead, .dead])) (xt_eq (xt_w (xw_or (xt_val (xe_call d.toCok (c__law_raises T) (by decide) rfl (xa_cons (xe_cst (γ := Int) (xe_var d.toCok 8 rfl rfl (.inl rfl))) (xa_cons (xe_cst (γ := Dy) (xe_var d.toCok 1 rfl rfl (.inl rfl))) (xa_cons (xe_cst (γ := (List (Dy × Dy))) (xe_ofN (xn_listOf d.toCok (xr_of (xe_var d.toCok 2 rfl rfl (.inl rfl))) rfl T.b_list))) xa_nil))))) (xw_or (xt_val (xe_call d.toCok (c__law_raises T) (by decide) rfl (xa_cons (xe_cst (γ := Int) (xe_var d.toCok 8 rfl rfl (.inl rfl))) (xa_cons (xe_cst (γ := Dy) xe_int) (xa_cons (xe_ofN (xn_list (α := (Dy × Dy)) xl_nil)) xa_nil))))) (xw_or1 (xt_val (xe_call d.toCok (c__law_raises T) (by decide) rfl (xa_cons (xe_cst (γ := Int) (xe_var d.toCok 8 rfl rfl (.inl rfl))) (xa_cons (xe_cst (γ := Dy) xe_int) (xa_cons (xe_ofN (xn_list (xl_cons (xe_tup2 (xe_cst (γ := Dy) xe_int) (xe_cst (γ := Dy) xe_int)) (xl_cons (xe_tup2 (xe_cst (γ := Dy) xe_int) (xe_cst (γ := Dy) xe_int)) xl_nil)))) xa_nil))))))))) rfl) (xb_one (xb_ret (c := ()) (xe_eq xe_bl rfl) rfl [(1, false), (2, false), (4, false), (5, false), (6, false), (8, false)] rfl rfl)) (xb_end [] () rfl)) (fun _ => (xb_seq (S1 := Unit) (sto1 := (fun (_ : Unit) => [.dead, vl (z1 : Int), vl (z4 : (List (Int × Int))), .dead, vl (z8 : Int), vl (z9 : Int), vl (s40 : (List (Dy × Dy))), .dead, vl (x54 : Dy), .dead, .dead])) (xb_for (S := Unit) (sto := (fun (_ : Unit) => [.dead, vl (z1 : Int), vl (z4 : (List (Int × Int))), .dead, vl (z8 : Int), vl (z9 : Int), vl (s40 : (List (Dy × Dy))), .dead, vl (x54 : Dy), .dead, .dead])) d () (xi_eq (xi_list (xe_var d.toCok 6 rfl rfl (.inl rfl))) rfl) (fun B d => xg_name d 9 rfl (.inl rfl)) (fun B d _ x61 => (xb_seq (S1 := Unit) (sto1 := (fun (_ : Unit) => [.dead, vl (z1 : Int), vl (z4 : (List (Int × Int))), .dead, vl (z8 : Int), vl (z9 : Int), vl (s40 : (List (Dy × Dy))), .dead, vl (x54 : Dy), vl (x61 : (Dy × Dy)), .dead])) (xb_if (S := Unit) (sto := (fun (_ : Unit) => [.dead, vl (z1 : Int), vl (z4 : (List (Int × Int))), .dead, vl (z8 : Int), vl (z9 : Int), vl (s40 : (List (Dy × Dy))), .dead, vl (x54 : Dy), vl (x61 : (Dy × Dy)), .dead])) (xt_eq (xt_not (xt_val (xe_call d.toCok (c__law_raises T) (by decide) rfl (xa_cons (xe_cst (γ := Int) (xe_var d.toCok 8 rfl rfl (.inl rfl))) (xa_cons (xe_cst (γ := Dy) (xe_var d.toCok 1 rfl rfl (.inl rfl))) (xa_cons (xe_ofN (xn_cat (xr_ofN (xn_cat (xr_cst (γ := (Dy × Dy)) (xr_ofN (xn_slice (xr_of (xe_var d.toCok 2 rfl rfl (.inl rfl))) xo_none (xo_some (xe_var d.toCok 4 rfl rfl (.inl rfl)))))) (xr_ofN (xn_list (xl_cons (xe_var d.toCok 9 rfl rfl (.inl rfl)) xl_nil))))) (xr_cst (γ := (Dy × Dy)) (xr_ofN (xn_slice (xr_of (xe_var d.toCok 2 rfl rfl (.inl rfl))) (xo_some (xe_var d.toCok 4 rfl rfl (.inl rfl))) xo_none))))) xa_nil)))))) rfl) (xb_one (xb_ret (c := ()) (xe_eq xe_bl rfl) rfl [(1, false), (2, false), (4, false), (5, false), (6, false), (8, false), (9, false)] rfl rfl)) (xb_end [] () rfl)) (fun _ => (xb_end [(9, false)] () rfl))))) (fun _ => (xb_seq (S1 := Unit) (sto1 := (fun (_ : Unit) => [.dead, vl (z1 : Int), vl (z4 : (List (Int × Int))), .dead, vl (z8 : Int), vl (z9 : Int), vl (s40 : (List (Dy × Dy))), .dead, vl (x54 : Dy), .dead, .dead])) (xb_for (S := Unit) (sto := (fun (_ : Unit) => [.dead, vl (z1 : Int), vl (z4 : (List (Int × Int))), .dead, vl (z8 : Int), vl (z9 : Int), vl (s40 : (List (Dy × Dy))), .dead, vl (x54 : Dy), .dead, .dead])) d () (xi_eq (xi_tup (xe_eq (xe_tupL (xl_cons (xe_cst (γ := Dy) (xe_op2 op_sub o_sub (xe_op2 op_sub o_sub xe_int xe_int) (xe_var d.toCok 5 rfl rfl (.inl rfl)))) (xl_cons (xe_cst (γ := Dy) (xe_op2 op_add o_add xe_int (xe_var d.toCok 5 rfl rfl (.inl rfl)))) (xl_cons (xe_cst (γ := Dy) xe_bl) (xl_cons (xe_cst (γ := Dy) xe_bl) (xl_cons (xe_cst (γ := Dy) xe_unit) (xl_cons (xe_cst (γ := Dy) xe_str) (xl_nil)))))))) rfl)) rfl) (fun B d => xg_name d 10 rfl (.inl rfl)) (fun B d _ x69 => (xb_seq (S1 := Unit) (sto1 := (fun (_ : Unit) => [.dead, vl (z1 : Int), vl (z4 : (List (Int × Int))), .dead, vl (z8 : Int), vl (z9 : Int), vl (s40 : (List (Dy × Dy))), .dead, vl (x54 : Dy), .dead, vl (x69 : Dy)])) (xb_if (S := Unit) (sto := (fun (_ : Unit) => [.dead, vl (z1 : Int), vl (z4 : (List (Int × Int))), .dead, vl (z8 : Int), vl (z9 : Int), vl (s40 : (List (Dy × Dy))), .dead, vl (x54 : Dy), .dead, vl (x69 : Dy)])) (xt_eq (xt_w (xw_or (xt_not (xt_val (xe_call d.toCok (c__law_raises T) (by decide) rfl (xa_cons (xe_cst (γ := Int) (xe_var d.toCok 8 rfl rfl (.inl rfl))) (xa_cons (xe_var d.toCok 10 rfl rfl (.inl rfl)) (xa_cons (xe_ofN (xn_list (α := (Dy × Dy)) xl_nil)) xa_nil)))))) (xw_or (xt_not (xt_val (xe_call d.toCok (c__law_raises T) (by decide) rfl (xa_cons (xe_cst (γ := Int) (xe_var d.toCok 8 rfl rfl (.inl rfl))) (xa_cons (xe_var d.toCok 10 rfl rfl (.inl rfl)) (xa_cons (xe_cst (γ := (List (Dy × Dy))) (xe_ofN (xn_listOf d.toCok (xr_of (xe_var d.toCok 2 rfl rfl (.inl rfl))) rfl T.b_list))) xa_nil)))))) (xw_or1 (xt_not (xt_val (xe_call d.toCok (c__law_raises T) (by decide) rfl (xa_cons (xe_cst (γ := Int) (xe_var d.toCok 8 rfl rfl (.inl rfl))) (xa_cons (xe_var d.toCok 10 rfl rfl (.inl rfl)) (xa_cons (xe_ofN (xn_list (xl_cons (xe_tup2 (xe_cst (γ := Dy) xe_int) (xe_cst (γ := Dy) xe_int)) xl_nil))) xa_nil)))))))))) rfl) (xb_one (xb_ret (c := ()) (xe_eq xe_bl rfl) rfl [(1, false), (2, false), (4, false), (5, false), (6, false), (8, false), (10, false)] rfl rfl)) (xb_end [] () rfl)) (fun _ => (xb_end [(10, false)] () rfl))))) (fun _ => (xb_end [(8, false)] () rfl))))))))) rfl) (fun _ => (xb_one (xb_ret (c := ()) (xe_eq xe_bl rfl) rfl [(1, false), (2, false), (4, false), (5, false), (6, false)] rfl rfl))))))))))))))))))))
def Cn (K : PySem.W.Frag) : Nat → Addr
  | 0 => He.ga K "SwapError"
  | 1 => He.ga K "InvalidWeb"
  | _ => 0
theorem tx_ok {P : Program} {w : World} {K : PySem.W.Frag} {h base : Heap} {mg : Str → Option Value} (X : K.In h) (G : h.Ns mainGlobals mg) (c : He.SaysD HeadT.fa HeadT.fn K) (ce : He.exsB HeadT.exn K = true) : Tx ⟨P, w, K, mg, base, Cn K⟩ where
  xs := exs_ok (Γ := ⟨P, w, K, mg, base, Cn K⟩) (xs := exn) ce (by decide) fun p hp => by
    rcases List.mem_cons.mp hp with rfl | hp
    · rfl
    rcases List.mem_cons.mp hp with rfl | hp
    · rfl
    exact absurd hp (by simp)
  d_is_number := def_ok (st := HeadT.top 5) (c.def_ 0 (d := HeadT.D_is_number) rfl).choose_spec (He.glo_ok X G (c.fact 5 (f := .glo "is_number") rfl)) fun _ _ _ _ _ _ us hl => match us, hl with | [_, _], _ => rfl
  d_check_web := def_ok (st := HeadT.top 6) (c.def_ 1 (d := HeadT.D_check_web) rfl).choose_spec (He.glo_ok X G (c.fact 6 (f := .glo "check_web") rfl)) fun _ _ _ _ _ _ us hl => match us, hl with | [_, _], _ => rfl
  d_neighbours := def_ok (st := HeadT.top 7) (c.def_ 2 (d := HeadT.D_neighbours) rfl).choose_spec (He.glo_ok X G (c.fact 7 (f := .glo "neighbours") rfl)) fun _ _ _ _ _ _ us hl => match us, hl with | [_, _, _], _ => rfl
  d_way := def_ok (st := HeadT.top 8) (c.def_ 3 (d := HeadT.D_way) rfl).choose_spec (He.glo_ok X G (c.fact 8 (f := .glo "way") rfl)) fun _ _ _ _ _ _ us hl => match us, hl with | [_, _], _ => rfl
  d_ring_of := def_ok (st := HeadT.top 9) (c.def_ 4 (d := HeadT.D_ring_of) rfl).choose_spec (He.glo_ok X G (c.fact 9 (f := .glo "ring_of") rfl)) fun _ _ _ _ _ _ us hl => match us, hl with | [_, _], _ => rfl
  d_shrunk := def_ok (st := HeadT.top 10) (c.def_ 5 (d := HeadT.D_shrunk) rfl).choose_spec (He.glo_ok X G (c.fact 10 (f := .glo "shrunk") rfl)) fun _ _ _ _ _ _ us hl => match us, hl with | [_, _, _], _ => rfl
  d_joined := def_ok (st := HeadT.top 12) (c.def_ 7 (d := HeadT.D_joined) rfl).choose_spec (He.glo_ok X G (c.fact 12 (f := .glo "joined") rfl)) fun _ _ _ _ _ _ us hl => match us, hl with | [_, _, _], _ => rfl
  d_round_way := def_ok (st := HeadT.top 11) (c.def_ 6 (d := HeadT.D_round_way) rfl).choose_spec (He.glo_ok X G (c.fact 11 (f := .glo "round_way") rfl)) fun _ _ _ _ _ _ us hl => match us, hl with | [_, _], _ => rfl
  d_opened := def_ok (st := HeadT.top 13) (c.def_ 8 (d := HeadT.D_opened) rfl).choose_spec (He.glo_ok X G (c.fact 13 (f := .glo "opened") rfl)) fun _ _ _ _ _ _ us hl => match us, hl with | [_, _, _, _, _], _ => rfl
  d_through_ring := def_ok (st := HeadT.top 14) (c.def_ 9 (d := HeadT.D_through_ring) rfl).choose_spec (He.glo_ok X G (c.fact 14 (f := .glo "through_ring") rfl)) fun _ _ _ _ _ _ us hl => match us, hl with | [_, _, _, _], _ => rfl
  d_better := def_ok (st := HeadT.top 15) (c.def_ 10 (d := HeadT.D_better) rfl).choose_spec (He.glo_ok X G (c.fact 15 (f := .glo "better") rfl)) fun _ _ _ _ _ _ us hl => match us, hl with | [_, _, _], _ => rfl
  d_greatest_of := def_ok (st := HeadT.top 16) (c.def_ 11 (d := HeadT.D_greatest_of) rfl).choose_spec (He.glo_ok X G (c.fact 16 (f := .glo "greatest_of") rfl)) fun _ _ _ _ _ _ us hl => match us, hl with | [_, _], _ => rfl
  d_greatest := def_ok (st := HeadT.top 17) (c.def_ 12 (d := HeadT.D_greatest) rfl).choose_spec (He.glo_ok X G (c.fact 17 (f := .glo "greatest") rfl)) fun _ _ _ _ _ _ us hl => match us, hl with | [_, _], _ => rfl
  d_missed_by_some := def_ok (st := HeadT.top 18) (c.def_ 13 (d := HeadT.D_missed_by_some) rfl).choose_spec (He.glo_ok X G (c.fact 18 (f := .glo "missed_by_some") rfl)) fun _ _ _ _ _ _ us hl => match us, hl with | [_, _], _ => rfl
  d__law_cell := def_ok (st := HeadT.top 20) (c.def_ 14 (d := HeadT.D__law_cell) rfl).choose_spec (He.glo_ok X G (c.fact 19 (f := .glo "_law_cell") rfl)) fun _ _ _ _ _ _ us hl => match us, hl with | [_, _], _ => rfl
  d__law_edges := def_ok (st := HeadT.top 21) (c.def_ 15 (d := HeadT.D__law_edges) rfl).choose_spec (He.glo_ok X G (c.fact 20 (f := .glo "_law_edges") rfl)) fun _ _ _ _ _ _ us hl => match us, hl with | [_, _, _, _], _ => rfl
  d__law_turned := def_ok (st := HeadT.top 22) (c.def_ 16 (d := HeadT.D__law_turned) rfl).choose_spec (He.glo_ok X G (c.fact 21 (f := .glo "_law_turned") rfl)) fun _ _ _ _ _ _ us hl => match us, hl with | [_, _], _ => rfl
  d__law_raises := def_ok (st := HeadT.top 23) (c.def_ 17 (d := HeadT.D__law_raises) rfl).choose_spec (He.glo_ok X G (c.fact 22 (f := .glo "_law_raises") rfl)) fun _ _ _ _ _ _ us hl => match us, hl with | [_, _, _], _ => rfl
  g_MOST_NODES := He.int_ok X G (c.fact 4 (f := .int "MOST_NODES" 20) rfl)
  x_SwapError := ext_ok (h := h) X G rfl (c.fact 0 (f := .glo "SwapError") rfl) (c.fact 1 (f := .exc "SwapError") rfl)
  x_InvalidWeb := ext_ok (h := h) X G rfl (c.fact 2 (f := .glo "InvalidWeb") rfl) (c.fact 3 (f := .exc "InvalidWeb") rfl)
  b_bool := He.free_ok X G (c.fact 24 (f := .free "bool") rfl)
  b_len := He.free_ok X G (c.fact 25 (f := .free "len") rfl)
  b_range := He.free_ok X G (c.fact 26 (f := .free "range") rfl)
  b_list := He.free_ok X G (c.fact 27 (f := .free "list") rfl)
  b_int := He.free_ok X G (c.fact 28 (f := .free "int") rfl)
  b_sorted := He.free_ok X G (c.fact 29 (f := .free "sorted") rfl)
  b_enumerate := He.free_ok X G (c.fact 30 (f := .free "enumerate") rfl)
  b_isinstance := He.free_ok X G (c.fact 31 (f := .free "isinstance") rfl)
  b_min := He.free_ok X G (c.fact 32 (f := .free "min") rfl)
  b_max := He.free_ok X G (c.fact 33 (f := .free "max") rfl)
  b_abs := He.free_ok X G (c.fact 34 (f := .free "abs") rfl)
  b_reversed := He.free_ok X G (c.fact 35 (f := .free "reversed") rfl)
  b_str := He.free_ok X G (c.fact 36 (f := .free "str") rfl)
  b_tuple := He.free_ok X G (c.fact 37 (f := .free "tuple") rfl)
  b_repr := He.free_ok X G (c.fact 38 (f := .free "repr") rfl)
  b_ValueError := He.free_ok X G (c.fact 39 (f := .free "ValueError") rfl)
end Sim

namespace Sim
abbrev TT := Int × Int
end Sim

set_option autoImplicit false
set_option linter.all false
set_option maxRecDepth 100000
namespace Sim
open PySem L2
def mb_is_numberJ (a : Int × Int × Unit) : Option (Fl Empty Empty Bool Unit) :=
  ((andM (some true) (andM (some (!false)) (if decide ((0 : Int) ≤ a.1) = true then some (decide (a.1 ≤ a.2.1)) else some false)))).bind fun b => some (Fl.ret b ())
def m_is_numberJ (a : Int × Int × Unit) : Option Bool := (mb_is_numberJ a).bind (retP Empty.elim)
def mb_check_webJ (a : Int × (List (Int × Int)) × Unit) : Option (Fl Unit Empty Unit Unit) :=
  flb ((((b2 (some a.1) (b2 (some k_MOST_NODES) (some ()) fun x t => some (x, t)) fun x t => some (x, t)).bind m_is_numberJ).bind fun w1 => some (!w1)).bind fun t => if t = true then
  ((some (Tt.mk "count" (by decide +kernel))).bind fun _ => some (Fl.err ⟨1, 0⟩ ()))
 else
  (some (Fl.nx ()))) fun _ =>
  (some ()).bind fun _ =>
  flb ((some a.2.1).bind fun xs => forF (fun (s4 : (List ((Int × Int) × Bool))) (x5 : (Int × Int)) =>
  flb (((orM (some (!true)) (some (!decide ((2 : Int) = (2 : Int)))))).bind fun t => if t = true then
  ((some (Tt.mk "edge" (by decide +kernel))).bind fun _ => some (Fl.err ⟨1, 0⟩ ()))
 else
  (some (Fl.nx ()))) fun _ =>
  flb (((orM (((b2 (some (x5).1) (b2 (some (a.1 - (1 : Int))) (some ()) fun x t => some (x, t)) fun x t => some (x, t)).bind m_is_numberJ).bind fun w7 => some (!w7)) (((b2 (some (x5).2) (b2 (some (a.1 - (1 : Int))) (some ()) fun x t => some (x, t)) fun x t => some (x, t)).bind m_is_numberJ).bind fun w8 => some (!w8)))).bind fun t => if t = true then
  ((some (Tt.mk "node" (by decide +kernel))).bind fun _ => some (Fl.err ⟨1, 0⟩ ()))
 else
  (some (Fl.nx ()))) fun _ =>
  flb (((orM (some (decide ((x5).2 ≤ (x5).1))) (some ((look s4 x5).isSome)))).bind fun t => if t = true then
  ((some (Tt.mk "edge" (by decide +kernel))).bind fun _ => some (Fl.err ⟨1, 0⟩ ()))
 else
  (some (Fl.nx ()))) fun _ =>
  (dput s4 x5 true).bind fun (z11 : (List ((Int × Int) × Bool))) =>
  (some (Fl.nx z11))) [] xs) fun (s4 : (List ((Int × Int) × Bool))) =>
  (some (Fl.nx ()))
def m_check_webJ (a : Int × (List (Int × Int)) × Unit) : Option (Except Er Unit) := (mb_check_webJ a).bind (retE (fun _ => ()))
def mb_greatestJ (a : Int × (List (Int × Int)) × Unit) : Option (Fl Empty Empty (List (Option Int)) Unit) :=
  flb (((b2 (some a.1) (b2 (some a.2.1) (some ()) fun x t => some (x, t)) fun x t => some (x, t)).bind (fun t => (m_check_webJ t).bind fun r => some (exR () r))).bind fun r => some (exDo r)) fun _ =>
  ((b2 (some a.1) (b2 (some a.2.1) (some ()) fun x t => some (x, t)) fun x t => some (x, t)).bind m_greatest_of).bind fun (z1 : (DK Int Int)) =>
  ((prange 0 a.1).bind fun w3 => lcB (fun (x2 : Int) => (some true)) (fun (x2 : Int) => (some (look (z1).l x2))) w3).bind fun b => some (Fl.ret b ())
def m_greatestJ (a : Int × (List (Int × Int)) × Unit) : Option (Except Er (List (Option Int))) := (mb_greatestJ a).bind (retE Empty.elim)
def mb_missed_by_someJ (a : Int × (List (Int × Int)) × Unit) : Option (Fl Empty Empty (List Int) Unit) :=
  flb (((b2 (some a.1) (b2 (some a.2.1) (some ()) fun x t => some (x, t)) fun x t => some (x, t)).bind (fun t => (m_check_webJ t).bind fun r => some (exR () r))).bind fun r => some (exDo r)) fun _ =>
  ((b2 (some a.1) (b2 (some a.2.1) (some ()) fun x t => some (x, t)) fun x t => some (x, t)).bind m_greatest_of).bind fun (z1 : (DK Int Int)) =>
  (some ([] : (List Int))).bind fun (z2 : (List Int)) =>
  ((prange 0 a.1).bind fun xs => forP (fun (s3 : (List Int)) (x4 : Int) =>
  ((some (!(look (z1).l x4).isSome)).bind fun t => if t = true then
  (push s3 x4).bind fun (z6 : (List Int)) =>
  (some z6)
 else
  (dcB (fun (x8 : Int) => ((andM (some (!decide (x8 = x4))) ((look (z1).l x4).bind fun w9 => some (!decide (x8 = w9)))))) (fun (x8 : Int) => (some x8)) (fun (x8 : Int) => (look (z1).l x8)) ((z1).l.map (·.1))).bind fun (z7 : (List (Int × Int))) =>
  ((((b2 ((b2 (some a.1) (b2 (some a.2.1) (b2 (some (some x4)) (some ()) fun x t => some (x, t)) fun x t => some (x, t)) fun x t => some (x, t)).bind m_neighbours) (b2 (some (DK.mk z7)) (b2 (some a.1) (some ()) fun x t => some (x, t)) fun x t => some (x, t)) fun x t => some (x, t)).bind (x_better 12)).bind fun w10 => some (Option.isSome w10)).bind fun t => if t = true then
  (push s3 x4).bind fun (z12 : (List Int)) =>
  (some z12)
 else
  (some s3)).bind fun (s11 : (List Int)) =>
  (some s11)).bind fun (s5 : (List Int)) =>
  (some s5)) z2 xs).bind fun (s3 : (List Int)) =>
  (some (Fl.ret s3 ()))
def m_missed_by_someJ (a : Int × (List (Int × Int)) × Unit) : Option (Except Er (List Int)) := (mb_missed_by_someJ a).bind (retE Empty.elim)
end Sim

set_option autoImplicit false
set_option linter.all false
set_option maxRecDepth 100000
namespace Sim
open PySem L2
/-! ### the mirrors' pieces, where they have a value -/
theorem look_put {κ α : Type} [DecidableEq κ] (d : List (κ × α)) (k : κ) (v : α) (x : κ) : look (put d k v) x = if x = k then some v else look d x := by
  induction d with
  | nil =>
    by_cases e : x = k
    · subst e; simp [put, look]
    · simp [put, look, e, Ne.symm e]
  | cons q r ih =>
    have hput : put (q :: r) k v = if q.1 = k then (q.1, v) :: (if (r.any fun kv => decide (kv.1 = k)) = true then put r k v else r) else q :: put r k v := by
      unfold put
      by_cases e : q.1 = k
      · simp only [List.any_cons, e, decide_true, Bool.true_or, if_true, List.map_cons]
        by_cases a : (r.any fun kv => decide (kv.1 = k)) = true
        · simp [a]
        · simp only [a]
          simp only [Bool.false_eq_true, if_false, List.cons.injEq, true_and]
          rw [List.map_congr_left (g := id)]
          · simp
          · intro kv hkv
            rw [if_neg]
            · rfl
            · intro z
              exact a (List.any_eq_true.mpr ⟨kv, hkv, by simp [z]⟩)
      · simp only [List.any_cons, e, decide_false, Bool.false_or, if_false, List.map_cons]
        split <;> simp_all
    rw [hput]
    by_cases e : q.1 = k
    · rw [if_pos e]
      by_cases z : x = k
      · rw [if_pos z, look_pos (by rw [e, z])]
      · rw [if_neg z, look_neg (by rw [e]; exact Ne.symm z), look_neg (by rw [e]; exact Ne.symm z)]
        split
        · rw [ih, if_neg z]
        · rfl
    · rw [if_neg e]
      by_cases z : q.1 = x
      · rw [look_pos z, look_pos z, if_neg (by rw [← z]; exact e)]
      · rw [look_neg z, look_neg z, ih]
theorem look_some_mem {κ α : Type} [DecidableEq κ] {d : List (κ × α)} {x : κ} : (look d x).isSome = true ↔ x ∈ d.map (·.1) := by
  induction d with
  | nil => simp [look]
  | cons q r ih =>
    by_cases e : q.1 = x
    · rw [look_pos e]; simp [e]
    · rw [look_neg e, ih]; simp [Ne.symm e]
theorem look_none_mem {κ α : Type} [DecidableEq κ] {d : List (κ × α)} {x : κ} : look d x = none ↔ x ∉ d.map (·.1) := by
  rw [← look_some_mem]
  cases look d x <;> simp
theorem put_keys' {κ α : Type} [DecidableEq κ] (d : List (κ × α)) (k : κ) (v : α) : (put d k v).map (·.1) = if k ∈ d.map (·.1) then d.map (·.1) else d.map (·.1) ++ [k] := by
  unfold put
  have e : (d.any fun kv => decide (kv.1 = k)) = true ↔ k ∈ d.map (·.1) := by
    simp [List.any_eq_true]
  by_cases h : k ∈ d.map (·.1)
  · rw [if_pos (e.mpr h), if_pos h, List.map_map]
    refine List.map_congr_left fun kv _ => ?_
    simp only [Function.comp]
    split <;> rfl
  · rw [if_neg (fun z => h (e.mp z)), if_neg h]; simp
theorem put_nodup {κ α : Type} [DecidableEq κ] {d : List (κ × α)} {k : κ} {v : α} (h : (d.map (·.1)).Nodup) : ((put d k v).map (·.1)).Nodup := by
  rw [put_keys']
  split
  · exact h
  · rw [List.nodup_append]
    exact ⟨h, by simp, fun a ha b hb e => by simp at hb; subst hb; subst e; contradiction⟩
theorem put_mem {κ α : Type} [DecidableEq κ] {d : List (κ × α)} {k : κ} {v : α} {x : κ} : x ∈ (put d k v).map (·.1) ↔ x = k ∨ x ∈ d.map (·.1) := by
  rw [put_keys']
  split
  · constructor
    · exact .inr
    · rintro (h | h)
      · rw [h]; assumption
      · exact h
  · simp [or_comm]
theorem dput_ok {κ α : Type} [DecidableEq κ] {d : List (κ × α)} {k : κ} {v : α} (h : d.length + 1 ≤ BIG) : dput d k v = some (put d k v) := by unfold dput; rw [if_pos h]
theorem push_ok {α : Type} {xs : List α} {x : α} (h : xs.length + 1 ≤ BIG) : push xs x = some (xs ++ [x]) := by unfold push; rw [if_pos h]
theorem pcat_ok {α : Type} {xs ys : List α} (h : xs.length + ys.length ≤ BIG) : pcat xs ys = some (xs ++ ys) := by unfold pcat; rw [if_pos h]
theorem pmod_ok {i j : Int} (h : 0 < j) : pmod i j = some (i % j) := by unfold pmod; rw [if_pos h]
theorem pdiv_ok {i j : Int} (h : 0 < j) (h2 : j.natAbs < 1073741824) : pdiv i j = some (i / j) := by unfold pdiv; rw [if_pos ⟨h, h2⟩]
theorem pmul_ok {i j : Int} (h : i.natAbs < 2 ^ 64 ∨ j.natAbs < 2 ^ 64) : pmul i j = some (i * j) := by unfold pmul; rw [if_pos h]
theorem prange_ok {i j : Int} (h : i.natAbs < 2 ^ 62) (h2 : j.natAbs < 2 ^ 62) : prange i j = some (rangeL i j) := by unfold prange; rw [if_pos ⟨h, h2⟩]
theorem ppopAt_ok {α : Type} {xs : List α} {i : Nat} {y : α} (h : xs.length ≤ BIG) (e : xs[i]? = some y) : ppopAt xs (i : Int) = some (y, xs.eraseIdx i) := by
  unfold ppopAt
  rw [if_pos ⟨by omega, h⟩, Int.toNat_natCast, e]
  rfl
theorem pindex_ok {α : Type} [DecidableEq α] {xs ys : List α} {x : α} (h : x ∉ xs) : pindex (xs ++ x :: ys) x = some (xs.length : Int) := by
  unfold pindex
  rw [if_pos (by simp)]
  congr 1
  congr 1
  induction xs with
  | nil => simp [List.findIdx_cons]
  | cons a r ih =>
    have h1 : a ≠ x := fun e => h (by simp [e])
    have h2 : x ∉ r := fun e => h (by simp [e])
    simp [List.findIdx_cons, h1, ih h2]
theorem isIn_iff {α : Type} [DecidableEq α] {x : α} {xs : List α} : isIn x xs = true ↔ x ∈ xs := by simp [isIn]
/-! loops -/
theorem forP_inv {S α : Type} {f : S → α → Option S} {xs : List α} (I : List α → S → Prop) (hs : ∀ dn x rs s, xs = dn ++ x :: rs → I dn s → ∃ s', f s x = some s' ∧ I (dn ++ [x]) s') {s0 : S} (h0 : I [] s0) : ∃ s', forP f s0 xs = some s' ∧ I xs s' := by
  have : ∀ (rs dn : List α) (s : S), xs = dn ++ rs → I dn s → ∃ s', forP f s rs = some s' ∧ I xs s' := by
    intro rs
    induction rs with
    | nil => intro dn s e h; rw [List.append_nil] at e; subst e; exact ⟨s, rfl, h⟩
    | cons x r ih =>
      intro dn s e h
      obtain ⟨s1, e1, h1⟩ := hs dn x r s e h
      obtain ⟨s2, e2, h2⟩ := ih (dn ++ [x]) s1 (by rw [e]; simp) h1
      exact ⟨s2, by show (f s x).bind _ = _; rw [e1]; exact e2, h2⟩
  exact this xs [] s0 rfl h0
/-- a loop that may be left: by a return alone -/
theorem forF_inv {S α L β C : Type} {f : S → α → Option (Fl S S β C)} {xs : List α} (I : List α → S → Prop) (R : β → C → Prop)
    (hs : ∀ dn x rs s, xs = dn ++ x :: rs → I dn s → (∃ s', f s x = some (.nx s') ∧ I (dn ++ [x]) s') ∨ ∃ b c, f s x = some (.ret b c) ∧ R b c) {s0 : S} (h0 : I [] s0) :
    (∃ s', forF (L := L) f s0 xs = some (.nx s') ∧ I xs s') ∨ ∃ b c, forF (L := L) f s0 xs = some (.ret b c) ∧ R b c := by
  have : ∀ (rs dn : List α) (s : S), xs = dn ++ rs → I dn s → (∃ s', forF (L := L) f s rs = some (.nx s') ∧ I xs s') ∨ ∃ b c, forF (L := L) f s rs = some (.ret b c) ∧ R b c := by
    intro rs
    induction rs with
    | nil => intro dn s e h; rw [List.append_nil] at e; subst e; exact .inl ⟨s, rfl, h⟩
    | cons x r ih =>
      intro dn s e h
      rcases hs dn x r s e h with ⟨s1, e1, h1⟩ | ⟨b, c, e1, h1⟩
      · rcases ih (dn ++ [x]) s1 (by rw [e]; simp) h1 with ⟨s2, e2, h2⟩ | ⟨b, c, e2, h2⟩
        · exact .inl ⟨s2, by show (f s x).bind _ = _; rw [e1]; exact e2, h2⟩
        · exact .inr ⟨b, c, by show (f s x).bind _ = _; rw [e1]; exact e2, h2⟩
      · exact .inr ⟨b, c, by show (f s x).bind _ = _; rw [e1]; rfl, h1⟩
  exact this xs [] s0 rfl h0
theorem whileP_inv {S : Type} {c : S → Option Bool} {f : S → Option S} (I : S → Prop) (μ : S → Nat) (h : ∀ s, I s → ∃ b, c s = some b ∧ (b = true → ∃ s', f s = some s' ∧ I s' ∧ μ s' < μ s)) :
    ∀ n s, I s → μ s < n → ∃ s', whileP c f n s = some s' ∧ I s' ∧ c s' = some false
  | 0, s, _, hn => absurd hn (Nat.not_lt_zero _)
  | n + 1, s, hi, hn => by
    obtain ⟨b, e, hb⟩ := h s hi
    unfold whileP
    rw [e]
    cases b with
    | false => exact ⟨s, rfl, hi, e⟩
    | true =>
      obtain ⟨s1, e1, h1, h2⟩ := hb rfl
      show ∃ s', ((f s).bind fun s' => whileP c f n s') = some s' ∧ _
      rw [e1]
      exact whileP_inv I μ h n s1 h1 (by omega)
theorem whileF_inv {S L β C : Type} {c : S → Option Bool} {f : S → Option (Fl S S β C)} (I : S → Prop) (R : β → C → Prop) (μ : S → Nat)
    (h : ∀ s, I s → ∃ b, c s = some b ∧ (b = true → (∃ s', f s = some (.nx s') ∧ I s' ∧ μ s' < μ s) ∨ ∃ b c, f s = some (.ret b c) ∧ R b c)) :
    ∀ n s, I s → μ s < n → (∃ s', whileF (L := L) c f n s = some (.nx s') ∧ I s' ∧ c s' = some false) ∨ ∃ b c', whileF (L := L) c f n s = some (.ret b c') ∧ R b c'
  | 0, s, _, hn => absurd hn (Nat.not_lt_zero _)
  | n + 1, s, hi, hn => by
    obtain ⟨b, e, hb⟩ := h s hi
    unfold whileF
    rw [e]
    cases b with
    | false => exact .inl ⟨s, rfl, hi, e⟩
    | true =>
      show (∃ s', ((f s).bind (flNext fun s' => whileF c f n s')) = some (.nx s') ∧ _) ∨ ∃ b c', ((f s).bind (flNext fun s' => whileF c f n s')) = some (.ret b c') ∧ _
      rcases hb rfl with ⟨s1, e1, h1, h2⟩ | ⟨b, c', e1, h1⟩
      · rw [e1]
        exact whileF_inv I R μ h n s1 h1 (by omega)
      · rw [e1]
        exact .inr ⟨b, c', rfl, h1⟩
theorem lcM_ok {α γ : Type} {t : α → Option Bool} {f : α → Option γ} {t' : α → Bool} {f' : α → γ} : ∀ {xs : List α}, (∀ x ∈ xs, t x = some (t' x)) → (∀ x ∈ xs, t' x = true → f x = some (f' x)) → lcM t f xs = some ((xs.filter t').map f')
  | [], _, _ => rfl
  | x :: r, ht, hf => by
    have ih := lcM_ok (xs := r) (fun y hy => ht y (by simp [hy])) (fun y hy => hf y (by simp [hy]))
    unfold lcM
    rw [ht x (by simp)]
    show (if t' x = true then _ else _) = _
    by_cases h : t' x = true
    · rw [if_pos h, hf x (by simp) h, ih]
      simp [h]
    · rw [if_neg h, ih]
      simp [h]
theorem lcB_ok {α γ : Type} {t : α → Option Bool} {f : α → Option γ} {xs : List α} (t' : α → Bool) (f' : α → γ) (hl : xs.length ≤ BIG) (ht : ∀ x ∈ xs, t x = some (t' x)) (hf : ∀ x ∈ xs, t' x = true → f x = some (f' x)) : lcB t f xs = some ((xs.filter t').map f') := by
  unfold lcB
  rw [if_pos hl]
  exact lcM_ok ht hf
theorem dcM_ok {α κ γ : Type} [DecidableEq κ] {t : α → Option Bool} {fk : α → Option κ} {fv : α → Option γ} {t' : α → Bool} {k' : α → κ} {v' : α → γ} : ∀ {xs : List α} (d : List (κ × γ)), (∀ x ∈ xs, t x = some (t' x)) → (∀ x ∈ xs, t' x = true → fk x = some (k' x) ∧ fv x = some (v' x)) →
    dcM t fk fv d xs = some ((xs.filter t').foldl (fun d x => put d (k' x) (v' x)) d)
  | [], _, _, _ => rfl
  | x :: r, d, ht, hf => by
    have ih := fun d => dcM_ok (xs := r) (k' := k') (v' := v') d (fun y hy => ht y (by simp [hy])) (fun y hy => hf y (by simp [hy]))
    unfold dcM
    rw [ht x (by simp)]
    show (if t' x = true then _ else _) = _
    by_cases h : t' x = true
    · obtain ⟨h1, h2⟩ := hf x (by simp) h
      rw [if_pos h, h1, h2]
      simp [h, ih]
    · rw [if_neg h, ih]
      simp [h]
theorem foldl_put_nodup {α κ γ : Type} [DecidableEq κ] {k' : α → κ} {v' : α → γ} : ∀ {xs : List α} {d : List (κ × γ)}, (d.map (·.1)).Nodup → (xs.map k').Nodup → (∀ x ∈ xs, k' x ∉ d.map (·.1)) → xs.foldl (fun d x => put d (k' x) (v' x)) d = d ++ xs.map fun x => (k' x, v' x)
  | [], d, _, _, _ => by simp
  | x :: r, d, h1, h2, h3 => by
    have hx := h3 x (by simp)
    have e : put d (k' x) (v' x) = d ++ [(k' x, v' x)] := by
      unfold put
      rw [if_neg]
      intro z
      obtain ⟨kv, q1, q2⟩ := List.any_eq_true.mp z
      exact hx (by simp at q2; rw [← q2]; exact List.mem_map_of_mem q1)
    have h2' := List.nodup_cons.mp h2
    rw [List.foldl_cons, foldl_put_nodup (put_nodup h1) h2'.2 fun y hy hm => ?_, e]
    · simp
    · rcases put_mem.mp hm with q | q
      · exact h2'.1 (List.mem_map.mpr ⟨y, hy, q⟩)
      · exact h3 y (by simp [hy]) q
/-- a dict of what is all different -/
theorem dcB_ok {α κ γ : Type} [DecidableEq κ] {t : α → Option Bool} {fk : α → Option κ} {fv : α → Option γ} {xs : List α} (t' : α → Bool) (k' : α → κ) (v' : α → γ) (hl : xs.length ≤ BIG) (ht : ∀ x ∈ xs, t x = some (t' x)) (hf : ∀ x ∈ xs, t' x = true → fk x = some (k' x) ∧ fv x = some (v' x)) (nd : ((xs.filter t').map k').Nodup) :
    dcB t fk fv xs = some ((xs.filter t').map fun x => (k' x, v' x)) := by
  unfold dcB
  rw [if_pos hl, dcM_ok [] ht hf, foldl_put_nodup (d := []) List.nodup_nil nd (by simp)]
  rfl
theorem look_map {α κ γ : Type} [DecidableEq κ] {k' : α → κ} {v' : α → γ} {xs : List α} (inj : ∀ x ∈ xs, ∀ y ∈ xs, k' x = k' y → x = y) {x : α} (hx : x ∈ xs) : look (xs.map fun x => (k' x, v' x)) (k' x) = some (v' x) := by
  induction xs with
  | nil => simp at hx
  | cons y r ih =>
    rw [List.map_cons]
    by_cases e : k' y = k' x
    · rw [look_pos e, inj y (by simp) x hx e]
    · rw [look_neg e]
      refine ih (fun a ha b hb => inj a (by simp [ha]) b (by simp [hb])) ?_
      rcases List.mem_cons.mp hx with q | q
      · exact absurd (by rw [q]) e
      · exact q
theorem look_map_self {γ : Type} {v' : Int → γ} {xs : List Int} {x : Int} : look (xs.map fun x => (x, v' x)) x = if x ∈ xs then some (v' x) else none := by
  by_cases h : x ∈ xs
  · rw [if_pos h]
    exact look_map (k' := fun x => x) (fun a _ b _ e => e) h
  · rw [if_neg h, look_none_mem]
    simpa using h
/-! items and slices -/
theorem atI_nat {α : Type} {xs : List α} {i : Nat} {x : α} (e : xs[i]? = some x) : atI xs (i : Int) = some x := by
  have h : i < xs.length := (List.getElem?_eq_some_iff.mp e).1
  unfold atI ixN
  rw [if_pos (by omega)]
  simp only [Int.toNat_natCast]
  rw [if_pos (by omega)]
  exact e
theorem atI_zero {α : Type} {x : α} {r : List α} : atI (x :: r) (0 : Int) = some x := atI_nat (i := 0) rfl
theorem atI_last {α : Type} {xs : List α} {x : α} : atI (xs ++ [x]) (-(1 : Int)) = some x := by
  unfold atI ixN
  rw [if_neg (by omega)]
  have hl : (xs ++ [x]).length = xs.length + 1 := by simp
  rw [if_pos (by rw [hl]; omega)]
  have e : (-(1 : Int) + ((xs ++ [x]).length : Int)).toNat = xs.length := by rw [hl]; omega
  show (xs ++ [x])[_]? = some x
  rw [e]
  simp
theorem cut_pre {α : Type} {xs ys : List α} : cut (xs ++ ys) none (some (xs.length : Int)) = xs := by
  unfold cut
  rw [show HT.sIx (xs ++ ys).length 0 none = 0 from rfl, HT.sIx_nat]
  rw [Nat.min_eq_left (by simp)]
  simp
theorem cut_suf {α : Type} {xs ys : List α} : cut (xs ++ ys) (some (xs.length : Int)) none = ys := by
  unfold cut
  rw [show HT.sIx (xs ++ ys).length (xs ++ ys).length none = (xs ++ ys).length from rfl, HT.sIx_nat]
  rw [Nat.min_eq_left (by simp)]
  simp
end Sim

set_option autoImplicit false
set_option linter.all false
set_option maxRecDepth 100000
namespace Sim
open PySem L2
/-! ### the mirrors' outcomes, from the end backwards -/
/-- o has a value, and Q holds of it -/
def Gets {α : Type} (o : Option α) (Q : α → Prop) : Prop := ∃ r, o = some r ∧ Q r
def FQ {S S' L β C : Type} (N : S → Prop) (Q : Fl S' L β C → Prop) : Fl S L β C → Prop
  | .nx s => N s
  | .bk l => Q (.bk l)
  | .ct l => Q (.ct l)
  | .ret b c => Q (.ret b c)
  | .err e c => Q (.err e c)
def LQ {S L β C : Type} (N : S → Prop) (Q : Fl S L β C → Prop) : Fl S S β C → Prop
  | .nx s => N s
  | .ct s => N s
  | .bk s => Q (.nx s)
  | .ret b c => Q (.ret b c)
  | .err e c => Q (.err e c)
section
variable {α β γ S S1 S2 L C : Type}
theorem gets_some {x : α} {Q : α → Prop} (q : Q x) : Gets (some x) Q := ⟨x, rfl, q⟩
theorem gets_eq {o : Option α} {x : α} {Q : α → Prop} (e : o = some x) (q : Q x) : Gets o Q := ⟨x, e, q⟩
theorem gets_mono {o : Option α} {Q Q' : α → Prop} (h : Gets o Q) (k : ∀ x, Q x → Q' x) : Gets o Q' := by
  obtain ⟨x, e, q⟩ := h
  exact ⟨x, e, k x q⟩
theorem gets_bind {o : Option α} {k : α → Option β} {Q : β → Prop} (h : Gets o fun x => Gets (k x) Q) : Gets (o.bind k) Q := by
  obtain ⟨x, e, y, e2, q⟩ := h
  exact ⟨y, by rw [e]; exact e2, q⟩
/-- a step whose value is known -/
theorem gets_step {o : Option α} {x : α} {k : α → Option β} {Q : β → Prop} (e : o = some x) (h : Gets (k x) Q) : Gets (o.bind k) Q := by
  rw [e]; exact h
theorem gets_flb {m1 : Option (Fl S1 L β C)} {m2 : S1 → Option (Fl S2 L β C)} {Q : Fl S2 L β C → Prop} (h : Gets m1 (FQ (fun s => Gets (m2 s) Q) Q)) : Gets (flb m1 m2) Q := by
  obtain ⟨x, e, q⟩ := h
  unfold flb
  rw [e]
  cases x with
  | nx s => exact q
  | bk l => exact ⟨_, rfl, q⟩
  | ct l => exact ⟨_, rfl, q⟩
  | ret b c => exact ⟨_, rfl, q⟩
  | err e c => exact ⟨_, rfl, q⟩
theorem gets_if {b : Bool} {x y : Option α} {Q : α → Prop} (h1 : b = true → Gets x Q) (h2 : b = false → Gets y Q) : Gets (if b = true then x else y) Q := by
  cases b with
  | true => exact h1 rfl
  | false => exact h2 rfl
theorem gets_forP {f : S → α → Option S} {xs : List α} {s0 : S} {Q : S → Prop} (I : List α → S → Prop) (h0 : I [] s0) (hs : ∀ dn x rs s, xs = dn ++ x :: rs → I dn s → Gets (f s x) (I (dn ++ [x]))) (hq : ∀ s, I xs s → Q s) : Gets (forP f s0 xs) Q := by
  obtain ⟨s, e, q⟩ := forP_inv (xs := xs) I hs h0
  exact ⟨s, e, hq s q⟩
theorem gets_forF {f : S → α → Option (Fl S S β C)} {xs : List α} {s0 : S} {Q : Fl S L β C → Prop} (I : List α → S → Prop) (h0 : I [] s0) (hs : ∀ dn x rs s, xs = dn ++ x :: rs → I dn s → Gets (f s x) (LQ (I (dn ++ [x])) Q)) (hq : ∀ s, I xs s → Q (.nx s)) : Gets (forF f s0 xs) Q := by
  have : ∀ (rs dn : List α) (s : S), xs = dn ++ rs → I dn s → Gets (forF (L := L) f s rs) Q := by
    intro rs
    induction rs with
    | nil => intro dn s e h; rw [List.append_nil] at e; subst e; exact ⟨_, rfl, hq s h⟩
    | cons x r ih =>
      intro dn s e h
      obtain ⟨o, e1, h1⟩ := hs dn x r s e h
      show Gets ((f s x).bind _) Q
      rw [e1]
      cases o with
      | nx s1 => exact ih (dn ++ [x]) s1 (by rw [e]; simp) h1
      | ct s1 => exact ih (dn ++ [x]) s1 (by rw [e]; simp) h1
      | bk s1 => exact ⟨_, rfl, h1⟩
      | ret b c => exact ⟨_, rfl, h1⟩
      | err e c => exact ⟨_, rfl, h1⟩
  exact this xs [] s0 rfl h0
theorem gets_whileP {c : S → Option Bool} {f : S → Option S} {Q : S → Prop} (I : S → Prop) (μ : S → Nat) {n : Nat} {s0 : S} (h0 : I s0) (hn : μ s0 < n) (h : ∀ s, I s → Gets (c s) fun b => (b = true → Gets (f s) fun s' => I s' ∧ μ s' < μ s) ∧ (b = false → Q s)) : Gets (whileP c f n s0) Q := by
  induction n generalizing s0 with
  | zero => exact absurd hn (Nat.not_lt_zero _)
  | succ n ih =>
    obtain ⟨b, e, hb, hq⟩ := h s0 h0
    unfold whileP
    rw [e]
    cases b with
    | false => exact ⟨s0, rfl, hq rfl⟩
    | true =>
      obtain ⟨s1, e1, h1, h2⟩ := hb rfl
      show Gets ((f s0).bind fun s' => whileP c f n s') Q
      rw [e1]
      exact ih h1 (by omega)
theorem gets_whileF {c : S → Option Bool} {f : S → Option (Fl S S β C)} {Q : Fl S L β C → Prop} (I : S → Prop) (μ : S → Nat) {n : Nat} {s0 : S} (h0 : I s0) (hn : μ s0 < n)
    (h : ∀ s, I s → Gets (c s) fun b => (b = true → Gets (f s) (LQ (fun s' => I s' ∧ μ s' < μ s) Q)) ∧ (b = false → Q (.nx s))) : Gets (whileF c f n s0) Q := by
  induction n generalizing s0 with
  | zero => exact absurd hn (Nat.not_lt_zero _)
  | succ n ih =>
    obtain ⟨b, e, hb, hq⟩ := h s0 h0
    unfold whileF
    rw [e]
    cases b with
    | false => exact ⟨_, rfl, hq rfl⟩
    | true =>
      obtain ⟨o, e1, h1⟩ := hb rfl
      show Gets ((f s0).bind (flNext fun s' => whileF c f n s')) Q
      rw [e1]
      cases o with
      | nx s1 => exact ih h1.1 (by have := h1.2; omega)
      | ct s1 => exact ih h1.1 (by have := h1.2; omega)
      | bk s1 => exact ⟨_, rfl, h1⟩
      | ret b c => exact ⟨_, rfl, h1⟩
      | err e c => exact ⟨_, rfl, h1⟩
theorem gets_and {a b : Option Bool} {Q : Bool → Prop} (h : Gets a fun x => (x = true → Gets b Q) ∧ (x = false → Q false)) : Gets (andM a b) Q := by
  obtain ⟨x, e, h1, h2⟩ := h
  unfold andM
  rw [e]
  cases x with
  | true => exact h1 rfl
  | false => exact ⟨_, rfl, h2 rfl⟩
theorem gets_or {a b : Option Bool} {Q : Bool → Prop} (h : Gets a fun x => (x = true → Q true) ∧ (x = false → Gets b Q)) : Gets (orM a b) Q := by
  obtain ⟨x, e, h1, h2⟩ := h
  unfold orM
  rw [e]
  cases x with
  | true => exact ⟨_, rfl, h1 rfl⟩
  | false => exact h2 rfl
end
end Sim

set_option autoImplicit false
set_option linter.all false
set_option maxRecDepth 100000
namespace Sim
open PySem L2 Bl
/-! ### way -/
def Chain (u : Int → Option (Option Int)) : List Int → Prop
  | [] => False
  | [x] => u x = some none
  | x :: y :: r => u x = some (some y) ∧ Chain u (y :: r)
theorem Chain.suf {u : Int → Option (Option Int)} : ∀ {xs : List Int} {y : Int} {ys : List Int}, Chain u (xs ++ y :: ys) → Chain u (y :: ys)
  | [], _, _, h => h
  | [x], _, _, h => h.2
  | x :: z :: r, y, ys, h => Chain.suf (xs := z :: r) h.2
theorem Chain.det {u : Int → Option (Option Int)} : ∀ {xs ys : List Int} {x : Int}, Chain u (x :: xs) → Chain u (x :: ys) → xs = ys
  | [], [], _, _, _ => rfl
  | [], y :: r, x, h1, h2 => by
    have a : u x = some none := h1
    rw [h2.1] at a
    cases a
  | y :: r, [], x, h1, h2 => by
    have a : u x = some none := h2
    rw [h1.1] at a
    cases a
  | y :: r, z :: t, x, h1, h2 => by
    have a := h1.1
    rw [h2.1] at a
    cases a
    rw [Chain.det h1.2 h2.2]
theorem Chain.mono {u u' : Int → Option (Option Int)} : ∀ {xs : List Int}, (∀ x ∈ xs, u' x = u x) → Chain u xs → Chain u' xs
  | [], _, h => h
  | [x], k, h => by
    have a : u x = some none := h
    show u' x = some none
    rw [k x (by simp), a]
  | x :: y :: r, k, h => ⟨by rw [k x (by simp)]; exact h.1, Chain.mono (fun z hz => k z (List.mem_cons_of_mem _ hz)) h.2⟩
theorem m_way_ok {up : List (Int × Option Int)} {v : Int} {P : List Int} (h : Chain (look up) (v :: P)) (hl : P.length < 900) : m_way (DK.mk up, v, ()) = some (v :: P) := by
  unfold m_way mb_way
  simp only [Option.bind_some]
  obtain ⟨s', e1, ⟨pre, x, rest, q1, q2⟩, e3⟩ := whileP_inv (c := fun (s2 : List Int) => (((atI s2 (-(1 : Int))).bind fun w3 => look up w3).bind fun w4 => some (Option.isSome w4)))
    (f := fun (s2 : List Int) => ((((atI s2 (-(1 : Int))).bind fun w5 => look up w5).bind fun w6 => w6).bind fun w8 => push s2 w8).bind fun z7 => some z7)
    (I := fun s => ∃ pre x rest, s = pre ++ [x] ∧ v :: P = pre ++ x :: rest) (fun s => (v :: P).length - s.length) (fun s ⟨pre, x, rest, q1, q2⟩ => by
      have ch : Chain (look up) (x :: rest) := by rw [q2] at h; exact h.suf
      subst q1
      cases rest with
      | nil =>
        refine ⟨false, ?_, fun e => by cases e⟩
        rw [atI_last]
        show ((look up x).bind fun w4 => some (Option.isSome w4)) = _
        rw [show look up x = some none from ch]
        rfl
      | cons y r =>
        refine ⟨true, ?_, fun _ => ⟨pre ++ [x] ++ [y], ?_, ⟨pre ++ [x], y, r, rfl, by rw [q2]; simp⟩, ?_⟩⟩
        · rw [atI_last]
          show ((look up x).bind fun w4 => some (Option.isSome w4)) = _
          rw [ch.1]
          rfl
        · rw [atI_last]
          show (((look up x).bind fun w6 => w6).bind fun w8 => push (pre ++ [x]) w8).bind _ = _
          rw [ch.1]
          have := congrArg List.length q2
          simp at this
          simp only [Option.bind_some]
          rw [push_ok (by simp [BIG]; omega)]
          rfl
        · have := congrArg List.length q2
          simp at this ⊢
          omega) 1000 [v] ⟨[], v, P, rfl, rfl⟩ (by simp; omega)
  rw [e1]
  subst q1
  cases rest with
  | cons y r =>
    have ch : Chain (look up) (x :: y :: r) := by rw [q2] at h; exact h.suf
    rw [atI_last] at e3
    change ((look up x).bind fun w4 => some (Option.isSome w4)) = some false at e3
    rw [ch.1] at e3
    cases e3
  | nil => rw [← q2]; rfl
/-! ### the ring of two ways -/
theorem forF_skip {α L β C : Type} {f : Unit → α → Option (Fl Unit Unit β C)} : ∀ {xs rs : List α}, (∀ x ∈ xs, f () x = some (.nx ())) → forF (L := L) f () (xs ++ rs) = forF f () rs
  | [], _, _ => rfl
  | x :: r, rs, h => by
    show (f () x).bind _ = _
    rw [h x (by simp)]
    exact forF_skip (xs := r) fun y hy => h y (by simp [hy])
theorem forF_ret {S α L β C : Type} {f : S → α → Option (Fl S S β C)} {s : S} {x : α} {rs : List α} {b : β} {c : C} (h : f s x = some (.ret b c)) : forF (L := L) f s (x :: rs) = some (.ret b c) := by
  show (f s x).bind _ = _
  rw [h]
  rfl
theorem enumL_app {α : Type} {xs ys : List α} {y : α} : ∃ pre post, enumL (xs ++ y :: ys) = pre ++ ((xs.length : Int), y) :: post ∧ ∀ q ∈ pre, q.2 ∈ xs := by
  unfold enumL
  refine ⟨(xs.zipIdx.map fun q => ((q.2 : Int), q.1)), ((ys.zipIdx (xs.length + 1)).map fun q => ((q.2 : Int), q.1)), ?_, fun q hq => ?_⟩
  · rw [List.zipIdx_append, List.map_append, List.zipIdx_cons, List.map_cons]
    simp
  · obtain ⟨p, hp, e⟩ := List.mem_map.mp hq
    subst e
    obtain ⟨a, b⟩ := p
    have := (List.mem_zipIdx hp).2.2
    simp at this
    rw [this]
    simp
theorem m_ring_of_ok {P1 S Q1 S' : List Int} {b : Int} (h1 : ∀ x ∈ P1, x ∉ Q1 ++ b :: S') (h2 : b ∉ Q1) (hl : P1.length + Q1.length < 900) : m_ring_of (P1 ++ b :: S, Q1 ++ b :: S', ()) = some (b :: (P1.reverse ++ Q1)) := by
  unfold m_ring_of mb_ring_of
  simp only [Option.bind_some]
  obtain ⟨pre, post, e, hp⟩ := enumL_app (xs := P1) (y := b) (ys := S)
  rw [e, forF_skip (fun x hx => by
    have : isIn x.2 (Q1 ++ b :: S') = false := by simpa [isIn] using h1 _ (hp x hx)
    rw [this]
    rfl), forF_ret (b := b :: (P1.reverse ++ Q1)) (c := ())]
  · rfl
  · have : isIn b (Q1 ++ b :: S') = true := by simp [isIn]
    simp only [this, if_true]
    rw [cut_pre, pindex_ok h2, pcat_ok (by simp [BIG]; omega)]
    simp only [Option.bind_some]
    rw [cut_pre, pcat_ok (by simp [BIG]; omega)]
    simp [flb]
/-! ### webs of lists -/
def nb (d : List (Int × List Int)) (u v : Int) : Prop := ∃ row, look d u = some row ∧ v ∈ row
structure ND (d : List (Int × List Int)) : Prop where
  rows : ∀ v row, look d v = some row → row.Nodup
  gk : Gk (d.map (·.1)) (nb d)
theorem ND.row {d : List (Int × List Int)} (h : ND d) {v : Int} (hv : v ∈ d.map (·.1)) : ∃ row, look d v = some row := by
  have := look_some_mem.mpr hv
  cases q : look d v with
  | none => rw [q] at this; cases this
  | some row => exact ⟨row, rfl⟩
theorem ND.len {d : List (Int × List Int)} (h : ND d) {v : Int} {row : List Int} (e : look d v = some row) : row.length ≤ d.length := by
  have := (h.rows v row e).length_le_of_subset (l₂ := d.map (·.1)) fun x hx => h.gk.inn x v (h.gk.sym v x ⟨row, e, hx⟩)
  simpa using this
theorem m_joined_ok {d : List (Int × List Int)} {R : List Int} {o : Int} (hR : ∀ x ∈ R, ∃ row, look d x = some row) (h : ∃ x ∈ R, nb d x o) : ∃ x, m_joined (DK.mk d, R, o, ()) = some x ∧ x ∈ R ∧ nb d x o := by
  unfold m_joined mb_joined
  simp only [Option.bind_some]
  have : ∃ pre x post, R = pre ++ x :: post ∧ nb d x o ∧ ∀ y ∈ pre, ¬ nb d y o := by
    clear hR
    induction R with
    | nil => obtain ⟨x, hx, _⟩ := h; simp at hx
    | cons a r ih =>
      by_cases q : nb d a o
      · exact ⟨[], a, r, rfl, q, by simp⟩
      · obtain ⟨x, hx, hn⟩ := h
        have hx' : x ∈ r := by
          rcases List.mem_cons.mp hx with e | e
          · subst e; exact absurd hn q
          · exact e
        obtain ⟨pre, y, post, e, h1, h2⟩ := ih ⟨x, hx', hn⟩
        exact ⟨a :: pre, y, post, by rw [e]; rfl, h1, fun z hz => by
          rcases List.mem_cons.mp hz with e | e
          · subst e; exact q
          · exact h2 z e⟩
  obtain ⟨pre, x, post, e, h1, h2⟩ := this
  obtain ⟨row, hrow, hin⟩ := h1
  refine ⟨x, ?_, by rw [e]; simp, row, hrow, hin⟩
  show (flb (forF _ () R) _).bind _ = _
  rw [e, forF_skip (fun y hy => ?_), forF_ret (b := x) (c := ())]
  · rfl
  · rw [hrow]
    have : isIn o row = true := by simpa [isIn] using hin
    simp [this, flb]
  · obtain ⟨rw', hr'⟩ := hR y (by rw [e]; simp [hy])
    have : isIn o rw' = false := by
      have := h2 y hy
      simp [isIn]
      exact fun hm => this ⟨rw', hr', hm⟩
    rw [hr']
    simp [this, flb]
theorem m_round_way_ok {V : List Int} {E : Int → Int → Prop} {f : Int → Int} {b : Int} {R' : List Int} (G : Gk V E) (m : Mt V E f) (rg : Ring V E f b R') (hl : R'.length < 900) {x : Int} (hx : x ∈ b :: R') :
    ∃ Q Q0 Q1, m_round_way (b :: R', x, ()) = some Q ∧ Q = Q0 ++ [b] ∧ Q = x :: Q1 ∧ Q.Nodup ∧ (∀ y ∈ Q, y ∈ b :: R') ∧ Alt E f 1 Q ∧ Q.length % 2 = 1 ∧ Q.length < 1000 := by
  obtain ⟨xs, ys, e⟩ := List.append_of_mem hx
  have nd := rg.nd
  rw [e] at nd
  have nd1 := List.nodup_append.mp nd
  have nd2 := List.nodup_cons.mp nd1.2.1
  have nx : x ∉ xs := fun h => nd1.2.2 x h x (by simp) rfl
  have len := congrArg List.length e
  simp at len
  have ev := rg.ev
  have hidx : pindex (b :: R') x = some (xs.length : Int) := by rw [e]; exact pindex_ok nx
  have hh : atI (b :: R') (0 : Int) = some b := atI_zero
  by_cases par : xs.length % 2 = 0
  · have hm : m_round_way (b :: R', x, ()) = some ((xs ++ [x]).reverse) := by
      unfold m_round_way mb_round_way
      simp only [hidx, Option.bind_some]
      rw [pmod_ok (by omega)]
      have : ((xs.length : Int) % 2) = 0 := by omega
      simp only [Option.bind_some, this, decide_true, if_true]
      have c : cut (b :: R') none (some ((xs.length : Int) + 1)) = xs ++ [x] := by
        have := cut_pre (xs := xs ++ [x]) (ys := ys)
        rw [List.append_assoc, List.singleton_append, ← e] at this
        simpa using this
      rw [c]
      rfl
    have hd : ∃ t, xs ++ [x] = b :: t := by
      cases xs with
      | nil => exact ⟨[], by rw [(List.cons.inj e).1]; rfl⟩
      | cons c t => exact ⟨t ++ [x], by rw [(List.cons.inj e).1]; rfl⟩
    obtain ⟨t, ht⟩ := hd
    have al : Alt E f 0 (xs ++ [x]) := by
      have := rg.alt
      rw [← List.cons_append, e, List.append_assoc] at this
      exact (alt_app.mp this).1
    refine ⟨_, t.reverse, xs.reverse, hm, by rw [ht]; simp, by simp, ?_, ?_, ?_, ?_, ?_⟩
    · refine nd_rev ?_
      rw [List.nodup_append]
      exact ⟨nd1.1, by simp, fun a ha c hc q => nx (by simp at hc; rw [← hc, ← q]; exact ha)⟩
    · intro y hy
      rw [e]
      simp at hy ⊢
      rcases hy with q | q
      · exact .inr (.inl q)
      · exact .inl q
    · have inv : ∀ y ∈ xs ++ [x], f (f y) = y := fun y hy => m.inv y (rg.sub y (by rw [e]; simp at hy ⊢; rcases hy with q | q <;> simp [q]))
      exact Alt.par (by simp; omega) (Alt.rev G.sym inv al)
    · simp; omega
    · simp; omega
  · have hm : m_round_way (b :: R', x, ()) = some ((x :: ys) ++ [b]) := by
      unfold m_round_way mb_round_way
      simp only [hidx, Option.bind_some]
      rw [pmod_ok (by omega)]
      have : ¬ ((xs.length : Int) % 2) = 0 := by omega
      simp only [Option.bind_some, this, decide_false, Bool.false_eq_true, if_false, hh, flb, seqO]
      have c : cut (b :: R') (some (xs.length : Int)) none = x :: ys := by rw [e]; exact cut_suf
      rw [c, pcat_ok (by simp [BIG]; omega)]
      rfl
    cases xs with
    | nil => simp at par
    | cons c t =>
      have hc : b = c := (List.cons.inj e).1
      subst hc
      refine ⟨_, x :: ys, ys ++ [b], hm, rfl, rfl, ?_, ?_, ?_, ?_, ?_⟩
      · rw [List.nodup_append]
        exact ⟨nd1.2.1, by simp, fun a ha d hd q => nd1.2.2 b (by simp) a ha (by simp at hd; rw [← hd, q])⟩
      · intro y hy
        rw [e]
        simp at hy ⊢
        rcases hy with q | q | q
        · exact .inr (.inr (.inl q))
        · exact .inr (.inr (.inr q))
        · exact .inl q
      · have := rg.alt
        rw [← List.cons_append, e, List.append_assoc] at this
        exact Alt.par (by omega) (Alt.right this)
      · simp at len par ⊢; omega
      · simp at len ⊢; omega
end Sim

set_option autoImplicit false
set_option linter.all false
set_option maxRecDepth 100000
namespace Sim
open PySem L2 Bl
/-! ### partners in a dict -/
def mf (p : List (Int × Int)) (v : Int) : Int := (look p v).getD v
structure PD (V : List Int) (E : Int → Int → Prop) (p : List (Int × Int)) : Prop where
  nd : (p.map (·.1)).Nodup
  ne : ∀ v w, look p v = some w → w ≠ v ∧ v ∈ V
  mt : Mt V E (mf p)
theorem mf_some {p : List (Int × Int)} {v w : Int} (h : look p v = some w) : mf p v = w := by unfold mf; rw [h]; rfl
theorem mf_none {p : List (Int × Int)} {v : Int} (h : look p v = none) : mf p v = v := by unfold mf; rw [h]; rfl
theorem PD.look {V : List Int} {E : Int → Int → Prop} {p : List (Int × Int)} (h : PD V E p) (v : Int) : Sim.look p v = if mf p v = v then none else some (mf p v) := by
  cases q : Sim.look p v with
  | none => rw [if_pos (mf_none q)]
  | some w => rw [mf_some q, if_neg (h.ne v w q).1]
theorem PD.len {V : List Int} {E : Int → Int → Prop} {p : List (Int × Int)} (h : PD V E p) : p.length ≤ V.length := by
  have := h.nd.length_le_of_subset (l₂ := V) fun x hx => by
    have := look_some_mem.mpr hx
    cases q : Sim.look p x with
    | none => rw [q] at this; cases this
    | some w => exact (h.ne x w q).2
  simpa using this
theorem Mt.congr {V : List Int} {E : Int → Int → Prop} {f g : Int → Int} (m : Mt V E f) (h : ∀ v ∈ V, g v = f v) : Mt V E g :=
  ⟨fun v hv => by rw [h v hv, h _ (m.inn v hv), m.inv v hv], fun v hv => by rw [h v hv]; exact m.inn v hv, fun v hv => by rw [h v hv]; exact m.ed v hv⟩
theorem df_congr {V : List Int} {f g : Int → Int} (h : ∀ v ∈ V, g v = f v) : df V g = df V f := List.countP_congr fun v hv => by simp [un, h v hv]
theorem Cert.congr {V : List Int} {E : Int → Int → Prop} {f g : Int → Int} (h : ∀ v ∈ V, g v = f v) {A : Int → Bool} {c : Int → Int} {Ls : List Int} (C : Cert V E f A c Ls) : Cert V E g A c Ls :=
  ⟨C.nd, C.cl, C.odd, by rw [df_congr h]; exact C.tgt, fun v h1 h2 h3 => by rw [df_congr h]; exact C.mis v h1 h2 h3, C.tch⟩
theorem Aug.congr {V : List Int} {E : Int → Int → Prop} {f g : Int → Int} (h : ∀ v ∈ V, g v = f v) {P : List Int} (a : Aug V E f P) : Aug V E g P :=
  ⟨a.nd, a.sub, a.ev, a.ne, a.alt.mono (fun _ _ _ _ e => e) fun x hx y _ e => by rw [h x (a.sub x hx)]; exact e, fun x q => by rw [h x (a.sub x (List.mem_of_head? q))]; exact a.hd x q, fun x q => by rw [h x (a.sub x (List.mem_of_getLast? q))]; exact a.lst x q⟩
/-! ### opened -/
theorem m_opened_ok {d : List (Int × List Int)} {p : List (Int × Int)} (D : ND d) (pd : PD (d.map (·.1)) (nb d) p) {b n : Int} {R' : List Int} (rg : Ring (d.map (·.1)) (nb d) (mf p) b R') {V' : List Int} {E' : Int → Int → Prop}
    (S : Shr (d.map (·.1)) (nb d) (b :: R') n V' E') {P : List Int} (h : Aug V' E' (con (mf p) b n) P) (hn : n ∈ P) (hl : P.length < 900) (hR : R'.length < 900) :
    ∃ Q, m_opened (DK.mk d, DK.mk p, b :: R', P, n, ()) = some Q ∧ Aug (d.map (·.1)) (nb d) (mf p) Q := by
  obtain ⟨bf, bh, e⟩ := List.append_of_mem hn
  subst e
  have nd := h.nd
  have nd1 := List.nodup_append.mp nd
  have nbf : n ∉ bf := fun q => nd1.2.2 n q n (by simp) rfl
  have nbh : n ∉ bh := (List.nodup_cons.mp nd1.2.1).1
  have hb : b ∈ d.map (·.1) := rg.sub b (by simp)
  have i1 : pindex (bf ++ n :: bh) n = some (bf.length : Int) := pindex_ok nbf
  have i2 : cut (bf ++ n :: bh) none (some (bf.length : Int)) = bf := cut_pre
  have i3 : cut (bf ++ n :: bh) (some ((bf.length : Int) + 1)) none = bh := by
    have := cut_suf (xs := bf ++ [n]) (ys := bh)
    simpa using this
  have hh : atI (b :: R') (0 : Int) = some b := atI_zero
  have rows : ∀ x ∈ b :: R', ∃ row, look d x = some row := fun x hx => D.row (rg.sub x hx)
  have vin : ∀ y ∈ bf ++ bh, y ≠ n ∧ y ∈ V' := fun y hy => by
    rcases List.mem_append.mp hy with q | q
    · exact ⟨fun e => nbf (e ▸ q), h.sub y (by simp [q])⟩
    · exact ⟨fun e => nbh (e ▸ q), h.sub y (by simp [q])⟩
  simp at hl
  unfold m_opened mb_opened
  simp only [i1, i2, i3, hh, Option.bind_some]
  -- left by an edge
  have partB : bf.length % 2 = 0 → ∃ y t x Q, bh = y :: t ∧ m_joined (DK.mk d, b :: R', y, ()) = some x ∧ m_round_way (b :: R', x, ()) = some Q ∧ Q.length < 1000 ∧ Aug (d.map (·.1)) (nb d) (mf p) (bf ++ (Q.reverse ++ bh)) := fun par => by
    cases bh with
    | nil =>
      have ev := h.ev
      rw [List.length_append, List.length_singleton] at ev
      omega
    | cons y t =>
      have a := (alt_app.mp h.alt).2.1
      unfold Stp at a
      rw [if_pos (by omega)] at a
      obtain ⟨_, x, hx, hxy⟩ := (S.e2 y).mp a
      obtain ⟨x, j1, hx, hxy⟩ := m_joined_ok rows ⟨x, hx, hxy⟩
      obtain ⟨Q, Q0, Q1, r1, r2, r3, r4, r5, r6, r7, r8⟩ := m_round_way_ok D.gk pd.mt rg hR hx
      exact ⟨y, t, x, Q, rfl, j1, r1, r8, h.openB S D.gk pd.mt rg par r2 r3 r4 r5 r6 r7 hxy⟩
  rcases List.eq_nil_or_concat bf with q | ⟨bf', z, q⟩
  · subst q
    obtain ⟨y, t, x, Q, q1, q2, q3, q4, q5⟩ := partB rfl
    refine ⟨_, ?_, q5⟩
    subst q1
    have h0 : atI (y :: t) (0 : Int) = some y := atI_zero
    simp only [List.isEmpty_nil, Bool.not_true, andM, Option.bind_some, Bool.false_eq_true, if_false, flb, b2, h0, q2, q3]
    simp only [List.length_cons] at hl
    rw [pcat_ok (by simp [BIG]; omega)]
    simp only [Option.bind_some]
    rw [pcat_ok (by simp [BIG]; omega), List.append_assoc]
    rfl
  · rw [List.concat_eq_append] at q
    subst q
    have hz : atI (bf' ++ [z]) (-(1 : Int)) = some z := atI_last
    have hem : (!(bf' ++ [z]).isEmpty) = true := by simp
    simp only [hem, hz, andM, Option.bind_some, if_true]
    have a0 := h.alt
    rw [List.append_assoc] at a0
    obtain ⟨a1, a2, a3⟩ := alt_app.mp a0
    have zV := vin z (by simp)
    have zI := ((S.mem z).mp zV.2).resolve_left zV.1
    by_cases par : bf'.length % 2 = 0
    · unfold Stp at a2
      rw [if_pos (by omega)] at a2
      have nz : ¬ look p b = some z := fun q => by
        have fz := mf_some q
        have cn : con (mf p) b n n = z := by
          unfold con
          rw [if_pos rfl, if_neg (by rw [fz]; exact (pd.ne b z q).1), fz]
        cases bh with
        | nil =>
          have := h.lst n (by simp)
          rw [cn] at this
          exact zV.1 this
        | cons y t =>
          have a4 := a3.1
          unfold Stp at a4
          rw [if_neg (by omega), cn] at a4
          exact nd1.2.2 z (by simp) y (by simp) a4
      have ht : (!decide (look p b = some z)) = true := by simp [nz]
      simp only [ht, if_true]
      obtain ⟨_, x, hx, hxy⟩ := (S.e2 z).mp ((S.e3 z).mp a2)
      obtain ⟨x, j1, hx, hxy⟩ := m_joined_ok rows ⟨x, hx, hxy⟩
      obtain ⟨Q, Q0, Q1, r1, r2, r3, r4, r5, r6, r7, r8⟩ := m_round_way_ok D.gk pd.mt rg hR hx
      refine ⟨(bf' ++ [z]) ++ (Q ++ bh), ?_, h.openA S D.gk pd.mt rg par r2 r3 r4 r5 r6 r7 (D.gk.sym _ _ hxy)⟩
      simp only [b2, hz, Option.bind_some, j1, r1]
      rw [pcat_ok (by simp [BIG] at hl ⊢; omega)]
      simp only [Option.bind_some]
      rw [pcat_ok (by simp [BIG] at hl ⊢; omega), List.append_assoc]
      rfl
    · unfold Stp at a2
      rw [if_neg (by omega)] at a2
      have fz : mf p z = b := by
        unfold con at a2
        rw [if_neg zV.1] at a2
        split at a2
        · assumption
        · exact absurd (a2 ▸ pd.mt.inn z zI.1) S.nn
      have fb : mf p b = z := by rw [← fz]; exact pd.mt.inv z zI.1
      have zb : z ≠ b := fun e => zI.2 (by simp [e])
      have lk : look p b = some z := by rw [pd.look, fb, if_neg zb]
      have ht : (!decide (look p b = some z)) = false := by simp [lk]
      obtain ⟨y, t, x, Q, q1, q2, q3, q4, q5⟩ := partB (by rw [List.length_append, List.length_singleton]; omega)
      refine ⟨_, ?_, q5⟩
      subst q1
      have h0 : atI (y :: t) (0 : Int) = some y := atI_zero
      simp only [ht, Bool.false_eq_true, if_false, flb, b2, h0, q2, q3, Option.bind_some]
      simp only [List.length_cons] at hl
      rw [pcat_ok (by simp [BIG] at hl ⊢; omega)]
      simp only [Option.bind_some]
      rw [pcat_ok (by simp [BIG] at hl ⊢; omega), List.append_assoc]
      rfl
/-! ### the web with a ring shrunk -/
def rowS (d : List (Int × List Int)) (R : List Int) (n v : Int) : List Int :=
  let r := (look d v).getD []
  let r' := r.filter (fun x => !isIn x R)
  if r'.length < r.length then r' ++ [n] else r'
theorem put_new {κ α : Type} [DecidableEq κ] {d : List (κ × α)} {k : κ} {v : α} (h : k ∉ d.map (·.1)) : put d k v = d ++ [(k, v)] := by
  unfold put
  rw [if_neg]
  intro z
  obtain ⟨kv, q1, q2⟩ := List.any_eq_true.mp z
  exact h (by simp at q2; rw [← q2]; exact List.mem_map_of_mem q1)
theorem filter_map_id {α : Type} (p : α → Bool) (xs : List α) : (xs.filter p).map (fun x => x) = xs.filter p := by simp
theorem rowS_n {d : List (Int × List Int)} {R : List Int} {n v : Int} {row : List Int} (e : look d v = some row) (hn : n ∉ row) : (n ∈ rowS d R n v ↔ ∃ x ∈ R, x ∈ row) ∧ ∀ x, x ≠ n → (x ∈ rowS d R n v ↔ x ∈ row ∧ x ∉ R) := by
  have hlt : (row.filter (fun x => !isIn x R)).length < row.length ↔ ∃ x ∈ R, x ∈ row := by
    rw [List.length_filter_lt_length_iff_exists]
    simp [isIn]
    constructor
    · rintro ⟨x, h1, h2⟩; exact ⟨x, h2, h1⟩
    · rintro ⟨x, h1, h2⟩; exact ⟨x, h2, h1⟩
  unfold rowS
  rw [e]
  simp only [Option.getD_some]
  by_cases q : (row.filter (fun x => !isIn x R)).length < row.length
  · rw [if_pos q]
    refine ⟨⟨fun _ => hlt.mp q, fun _ => by simp⟩, fun x hx => ?_⟩
    simp [hx, isIn]
  · rw [if_neg q]
    refine ⟨⟨fun h => absurd (List.mem_filter.mp h).1 hn, fun h => absurd (hlt.mpr h) q⟩, fun x hx => ?_⟩
    simp [isIn]
theorem rowS_nd {d : List (Int × List Int)} {R : List Int} {n v : Int} {row : List Int} (e : look d v = some row) (hn : n ∉ row) (nd : row.Nodup) : (rowS d R n v).Nodup := by
  unfold rowS
  rw [e]
  simp only [Option.getD_some]
  split
  · rw [List.nodup_append]
    exact ⟨nd_filter _ nd, by simp, fun a ha c hc q => hn (by simp at hc; rw [← hc, ← q]; exact (List.mem_filter.mp ha).1)⟩
  · exact nd_filter _ nd
theorem m_shrunk_ok {d : List (Int × List Int)} (D : ND d) {R : List Int} {n : Int} (nn : n ∉ d.map (·.1)) (hl : d.length < 900) (nR : R.Nodup) (sR : ∀ x ∈ R, x ∈ d.map (·.1)) :
    ∃ d', m_shrunk (DK.mk d, R, n, ()) = some (DK.mk d') ∧ ND d' ∧ Shr (d.map (·.1)) (nb d) R n (d'.map (·.1)) (nb d') ∧ d'.length + R.length = d.length + 1 := by
  have hnr : ∀ v row, look d v = some row → n ∉ row := fun v row e h => nn (D.gk.inn n v (D.gk.sym v n ⟨row, e, h⟩))
  let W := (d.map (·.1)).filter (fun v => !isIn v R)
  let d1 := W.map (fun v => (v, rowS d R n v))
  have hW : ∀ v, v ∈ W ↔ v ∈ d.map (·.1) ∧ v ∉ R := fun v => by simp [W, isIn]
  have wl : W.length ≤ d.length := by
    have := List.length_filter_le (fun v => !isIn v R) (d.map (·.1))
    simpa [W] using this
  have ndW : W.Nodup := nd_filter _ D.gk.nd
  have step : ∃ s', forP (fun (s2 : (List (Int × (List Int)))) (x3 : Int) =>
      ((some (!isIn x3 R)).bind fun t => if t = true then
      ((look d x3).bind fun w7 => lcB (fun (x6 : Int) => (some (!isIn x6 R))) (fun (x6 : Int) => (some x6)) w7).bind fun (z5 : (List Int)) =>
      ((((look d x3).bind fun w8 => some ((w8).length : Int)).bind fun w9 => some (decide (((z5).length : Int) < w9))).bind fun t => if t = true then
      (push z5 n).bind fun (z11 : (List Int)) =>
      (some z11)
     else
      (some z5)).bind fun (s10 : (List Int)) =>
      (dput s2 x3 s10).bind fun (z12 : (List (Int × (List Int)))) =>
      (some z12)
     else
      (some s2)).bind fun (s4 : (List (Int × (List Int)))) =>
      (some s4)) [] (d.map (·.1)) = some s' ∧ s' = d1 := by
    refine forP_inv (I := fun dn s => s = (dn.filter (fun v => !isIn v R)).map (fun v => (v, rowS d R n v))) (fun dn x rs s hs hi => ?_) rfl
    have nd := D.gk.nd
    rw [hs] at nd
    have xdn : x ∉ dn := fun q => (List.nodup_append.mp nd).2.2 x q x (by simp) rfl
    obtain ⟨row, hrow⟩ := D.row (v := x) (by rw [hs]; simp)
    have rl := D.len hrow
    have dl := congrArg List.length hs
    simp at dl
    by_cases q : isIn x R = true
    · refine ⟨s, ?_, ?_⟩
      · simp [q]
      · rw [hi, List.filter_append]
        simp [q]
    · simp only [Bool.not_eq_true] at q
      have e1 : lcB (fun (x6 : Int) => (some (!isIn x6 R))) (fun (x6 : Int) => (some x6)) row = some (row.filter (fun x => !isIn x R)) := by
        rw [lcB_ok (fun x => !isIn x R) (fun x => x) (by simp [BIG]; omega) (fun _ _ => rfl) (fun _ _ _ => rfl), filter_map_id]
      have fl := List.length_filter_le (fun x => !isIn x R) row
      refine ⟨s ++ [(x, rowS d R n x)], ?_, ?_⟩
      · have kx : x ∉ s.map (·.1) := by
          rw [hi]
          simp
          exact fun h => absurd h xdn
        have sl : s.length ≤ dn.length := by
          rw [hi, List.length_map]; exact List.length_filter_le _ _
        have pt : ∀ r, dput s x r = some (s ++ [(x, r)]) := fun r => by rw [dput_ok (by simp [BIG]; omega), put_new kx]
        simp only [q, Bool.not_false, Option.bind_some, if_true, hrow, e1]
        unfold rowS
        rw [hrow]
        simp only [Option.getD_some]
        by_cases z : (row.filter (fun x => !isIn x R)).length < row.length
        · have z' : (((row.filter (fun x => !isIn x R)).length : Int) < (row.length : Int)) := by omega
          rw [if_pos z]
          simp only [z', decide_true, if_true]
          rw [push_ok (by simp [BIG]; omega)]
          simp only [Option.bind_some, pt]
        · have z' : ¬ (((row.filter (fun x => !isIn x R)).length : Int) < (row.length : Int)) := by omega
          rw [if_neg z]
          simp only [z', decide_false, Bool.false_eq_true, if_false, Option.bind_some, pt]
      · rw [hi, List.filter_append]
        simp [q]
  obtain ⟨s', es, hs'⟩ := step
  subst hs'
  have k1 : d1.map (·.1) = W := by
    show (W.map _).map _ = W
    rw [List.map_map]
    exact List.map_id _
  have lk1 : ∀ v, look d1 v = if v ∈ W then some (rowS d R n v) else none := fun v => look_map_self
  have e2 : lcB (fun (x13 : Int) => ((look d1 x13).bind fun w14 => some (isIn n w14))) (fun (x13 : Int) => (some x13)) (d1.map (·.1)) = some (W.filter (fun v => isIn n (rowS d R n v))) := by
    rw [lcB_ok (fun v => isIn n (rowS d R n v)) (fun x => x) (by simp [BIG, d1]; omega) (fun v hv => ?_) (fun _ _ _ => rfl), filter_map_id, k1]
    rw [k1] at hv
    rw [lk1, if_pos hv]
    rfl
  have nW : n ∉ d1.map (·.1) := by rw [k1]; exact fun h => nn ((hW n).mp h).1
  let d' := d1 ++ [(n, W.filter (fun v => isIn n (rowS d R n v)))]
  have kd' : d'.map (·.1) = W ++ [n] := by simp [d', ← k1]
  have e3 : dput d1 n (W.filter (fun v => isIn n (rowS d R n v))) = some d' := by rw [dput_ok (by simp [BIG, d1]; omega), put_new nW]
  have lkd : ∀ v, look d' v = if v = n then some (W.filter (fun v => isIn n (rowS d R n v))) else look d1 v := fun v => by
    show look (d1 ++ [(n, _)]) v = _
    rw [← put_new nW, look_put]
  have wn : ∀ v ∈ W, v ≠ n := fun v hv e => nn (e ▸ ((hW v).mp hv).1)
  -- who is next to whom
  have nbW : ∀ u v, u ≠ n → (nb d' u v ↔ u ∈ W ∧ v ∈ rowS d R n u) := fun u v hu => by
    unfold nb
    rw [lkd, if_neg hu, lk1]
    by_cases q : u ∈ W
    · simp [q]
    · simp [q]
  have nbn : ∀ v, nb d' n v ↔ v ∈ W ∧ n ∈ rowS d R n v := fun v => by
    unfold nb
    rw [lkd, if_pos rfl]
    simp [isIn]
  have hr : ∀ u ∈ W, ∃ row, look d u = some row ∧ n ∉ row := fun u hu => by
    obtain ⟨row, e⟩ := D.row ((hW u).mp hu).1
    exact ⟨row, e, hnr u row e⟩
  have S : Shr (d.map (·.1)) (nb d) R n (d'.map (·.1)) (nb d') := by
    refine ⟨nn, ?_, fun x => ?_, fun u v hu hv => ?_, fun v => ?_, fun v => ?_⟩
    · rw [kd', List.nodup_append]
      exact ⟨ndW, by simp, fun a ha c hc q => wn a ha (by simp at hc; rw [q, hc])⟩
    · rw [kd']
      simp only [List.mem_append, hW, List.mem_singleton]
      exact or_comm
    · rw [nbW u v hu]
      constructor
      · rintro ⟨h1, h2⟩
        obtain ⟨row, e, hn⟩ := hr u h1
        have := ((rowS_n e hn).2 v hv).mp h2
        exact ⟨⟨row, e, this.1⟩, ((hW u).mp h1).2, this.2⟩
      · rintro ⟨⟨row, e, h1⟩, h2, h3⟩
        have hu' : u ∈ W := (hW u).mpr ⟨look_some_mem.mp (by rw [e]; rfl), h2⟩
        exact ⟨hu', ((rowS_n e (hnr u row e)).2 v hv).mpr ⟨h1, h3⟩⟩
    · rw [nbn]
      constructor
      · rintro ⟨h1, h2⟩
        obtain ⟨row, e, hn⟩ := hr v h1
        obtain ⟨x, hx, hx2⟩ := (rowS_n e hn).1.mp h2
        exact ⟨((hW v).mp h1).2, x, hx, D.gk.sym _ _ ⟨row, e, hx2⟩⟩
      · rintro ⟨h1, x, hx, h2⟩
        obtain ⟨row, e, h3⟩ := D.gk.sym _ _ h2
        exact ⟨(hW v).mpr ⟨look_some_mem.mp (by rw [e]; rfl), h1⟩, (rowS_n e (hnr v row e)).1.mpr ⟨x, hx, h3⟩⟩
    · by_cases q : v = n
      · rw [q]
      · rw [nbW v n q, nbn]
  refine ⟨d', ?_, ⟨fun v row e => ?_, S.gk D.gk⟩, S, ?_⟩
  · unfold m_shrunk mb_shrunk
    show Option.bind (Option.bind (forP _ _ (d.map (·.1))) _) _ = _
    rw [es]
    show Option.bind (Option.bind (Option.bind (lcB _ _ (d1.map (·.1))) _) _) _ = _
    rw [e2]
    show Option.bind (Option.bind (dput d1 n _) _) _ = _
    rw [e3]
    rfl
  · rw [lkd] at e
    by_cases q : v = n
    · rw [if_pos q] at e
      cases e
      exact nd_filter _ ndW
    · rw [if_neg q, lk1] at e
      by_cases z : v ∈ W
      · rw [if_pos z] at e
        cases e
        obtain ⟨row, e, hn⟩ := hr v z
        exact rowS_nd e hn (D.rows v row e)
      · rw [if_neg z] at e
        cases e
  · have := (split_perm D.gk.nd nR sR).length_eq
    have e4 := congrArg List.length kd'
    have e5 : W = (d.map (·.1)).filter (fun v => !decide (v ∈ R)) := rfl
    rw [← e5] at this
    simp at this e4
    omega
end Sim

set_option autoImplicit false
set_option linter.all false
set_option maxRecDepth 100000
namespace Sim
open PySem L2 Bl
/-! ### what a search hands back -/
abbrev ky {α : Type} (d : List (Int × α)) : List Int := d.map (·.1)
def Res (d : List (Int × List Int)) (p : List (Int × Int)) : Option (List Int) → Prop
  | none => ∃ A c Ls, Cert (ky d) (nb d) (mf p) A c Ls
  | some P => Aug (ky d) (nb d) (mf p) P
def BetOk (bet : (DK Int (List Int)) × (DK Int Int) × Int × Unit → Option (Option (List Int))) (N : Nat) : Prop :=
  ∀ d p n, ND d → PD (ky d) (nb d) p → (∀ v ∈ ky d, v < n) → d.length < N → Gets (bet (DK.mk d, DK.mk p, n, ())) (Res d p)
theorem aug_len {V : List Int} {E : Int → Int → Prop} {f : Int → Int} {P : List Int} (h : Aug V E f P) : P.length ≤ V.length := h.nd.length_le_of_subset h.sub
/-- the partners in the shrunk web -/
def innerS (p : List (Int × Int)) (R : List Int) : List (Int × Int) := ((p.map (·.1)).filter (fun x => !isIn x R)).map fun x => (x, mf p x)
theorem innerS_look {V : List Int} {E : Int → Int → Prop} {p : List (Int × Int)} (pd : PD V E p) (R : List Int) (v : Int) : look (innerS p R) v = if mf p v = v ∨ v ∈ R then none else some (mf p v) := by
  unfold innerS
  rw [look_map_self]
  have h : v ∈ (p.map (·.1)).filter (fun x => !isIn x R) ↔ ¬ (mf p v = v ∨ v ∈ R) := by
    rw [List.mem_filter, ← look_some_mem, pd.look]
    by_cases q : mf p v = v
    · simp [q]
    · simp [q, isIn]
  by_cases q : mf p v = v ∨ v ∈ R
  · rw [if_pos q, if_neg fun z => h.mp z q]
  · rw [if_neg q, if_pos (h.mpr q)]
theorem m_through_ring_ok {bet : (DK Int (List Int)) × (DK Int Int) × Int × Unit → Option (Option (List Int))} {N : Nat} (hB : BetOk bet N) {d : List (Int × List Int)} {p : List (Int × Int)} {n : Int} (D : ND d) (pd : PD (ky d) (nb d) p)
    (hn : ∀ v ∈ ky d, v < n) (hl : d.length < N + 2) (hN : N < 100) {b : Int} {R' : List Int} (rg : Ring (ky d) (nb d) (mf p) b R') {g0 : Int → Int} (m0 : Mt (ky d) (nb d) g0) (d0 : df (ky d) g0 = df (ky d) (mf p)) (b0 : g0 b = b) (k0 : ∀ v ∈ R', g0 v = mf p v) :
    Gets (m_through_ring bet (DK.mk d, DK.mk p, b :: R', n, ())) (Res d p) := by
  have nn : n ∉ ky d := fun h => absurd (hn n h) (by omega)
  obtain ⟨d', es, D', S, ln⟩ := m_shrunk_ok D nn (by omega) rg.nd rg.sub
  have hb : b ∈ ky d := rg.sub b (by simp)
  have cl := rg.cl pd.mt
  obtain ⟨m1, d1⟩ := con_mt S D.gk pd.mt rg.nd rg.sub cl
  have pl := pd.len
  simp at pl
  have ge := rg.ge
  simp at ln
  have e1 : dcB (fun (x2 : Int) => (some (!isIn x2 (b :: R')))) (fun (x2 : Int) => (some x2)) (fun (x2 : Int) => (look p x2)) (p.map (·.1)) = some (innerS p (b :: R')) := by
    refine dcB_ok (fun x => !isIn x (b :: R')) (fun x => x) (mf p) (by simp [BIG]; omega) (fun _ _ => rfl) (fun x hx _ => ⟨rfl, ?_⟩) ?_
    · have := look_some_mem.mpr hx
      rw [pd.look] at this ⊢
      split
      · rw [if_pos ‹_›] at this; cases this
      · rfl
    · rw [filter_map_id]
      exact nd_filter _ pd.nd
  have kn : (ky (innerS p (b :: R'))).Nodup := by
    unfold ky innerS
    rw [List.map_map]
    show (List.map (fun x => x) _).Nodup
    rw [filter_map_id]
    exact nd_filter _ pd.nd
  have il : (innerS p (b :: R')).length ≤ p.length := by
    unfold innerS
    rw [List.length_map]
    have := List.length_filter_le (fun x => !isIn x (b :: R')) (p.map (·.1))
    simpa using this
  have hh : atI (b :: R') (0 : Int) = some b := atI_zero
  have lb := pd.look b
  -- the inner partners
  have inner : Gets (((atI (b :: R') (0 : Int)).bind fun w3 => some ((look p w3).isSome)).bind fun t => if t = true then
      (((atI (b :: R') (0 : Int)).bind fun w5 => look p w5).bind fun w7 => dput (innerS p (b :: R')) w7 n).bind fun (z6 : (List (Int × Int))) =>
      (((atI (b :: R') (0 : Int)).bind fun w8 => look p w8).bind fun w10 => dput z6 n w10).bind fun (z9 : (List (Int × Int))) =>
      (some z9)
     else
      (some (innerS p (b :: R')))) fun s4 => PD (ky d') (nb d') s4 ∧ ∀ v ∈ ky d', mf s4 v = con (mf p) b n v := by
    have key : ∀ s4 : List (Int × Int), (ky s4).Nodup → (∀ v w, look s4 v = some w → w ≠ v ∧ v ∈ ky d') → (∀ v ∈ ky d', mf s4 v = con (mf p) b n v) → PD (ky d') (nb d') s4 ∧ ∀ v ∈ ky d', mf s4 v = con (mf p) b n v := fun s4 h1 h2 h3 => ⟨⟨h1, h2, Mt.congr m1 h3⟩, h3⟩
    have cnv : ∀ v, v ∈ ky d → con (mf p) b n v = if mf p v = b then n else mf p v := fun v hv => by
      unfold con; rw [if_neg (S.out hv)]
    have outV : ∀ v ∈ ky d', v ≠ n → v ∈ ky d ∧ v ∉ b :: R' := fun v h1 h2 => ((S.mem v).mp h1).resolve_left h2
    have inV : ∀ v, mf p v ≠ v → v ∈ ky d := fun v h => by
      have := pd.look v
      rw [if_neg h] at this
      exact (pd.ne v _ this).2
    rw [hh]
    show Gets (if (look p b).isSome = true then _ else _) _
    by_cases q : mf p b = b
    · rw [lb, if_pos q]
      refine gets_some (key _ kn (fun v w e => ?_) fun v hv => ?_)
      · rw [innerS_look pd] at e
        split at e
        · cases e
        · rename_i h
          cases e
          have h' := not_or.mp h
          exact ⟨h'.1, (S.mem v).mpr (.inr ⟨inV v h'.1, h'.2⟩)⟩
      · by_cases z : v = n
        · subst z
          have z0 : mf p v = v := Classical.byContradiction fun z => nn (inV _ z)
          rw [mf_none (by rw [innerS_look pd, if_pos (.inl z0)]), con, if_pos rfl, if_pos q]
        · have hv' := outV v hv z
          rw [cnv v hv'.1, if_neg fun e => ?_]
          · by_cases y : mf p v = v
            · rw [mf_none (by rw [innerS_look pd, if_pos (.inl y)]), y]
            · rw [mf_some (w := mf p v) (by rw [innerS_look pd, if_neg (not_or.mpr ⟨y, hv'.2⟩)])]
          · have := pd.mt.inv v hv'.1
            rw [e, q] at this
            exact hv'.2 (by simp [this])
    · rw [lb, if_neg q]
      have lb' : look p b = some (mf p b) := by rw [lb, if_neg q]
      show Gets (Option.bind (Option.bind (look p b) _) _) _
      rw [lb']
      refine gets_step (dput_ok (by simp [BIG]; omega)) ?_
      show Gets (Option.bind (Option.bind (look p b) _) _) _
      rw [lb']
      refine gets_step (dput_ok (by have := put_len (innerS p (b :: R')) (mf p b) n; simp [BIG]; omega)) (gets_some (key _ (put_nodup (put_nodup kn)) (fun v w e => ?_) fun v hv => ?_))
      · rw [look_put, look_put, innerS_look pd] at e
        have fbV : mf p b ∈ ky d := pd.mt.inn b hb
        have fbn : mf p b ≠ n := S.out fbV
        have fbR : mf p b ∉ b :: R' := fun h => by
          rcases List.mem_cons.mp h with y | y
          · exact q y
          · have := (cl _ y).1
            rw [pd.mt.inv b hb] at this
            exact (List.nodup_cons.mp rg.nd).1 this
        split at e
        · cases e
          subst v
          exact ⟨fbn, (S.mem _).mpr (.inl rfl)⟩
        · split at e
          · cases e
            subst v
            exact ⟨Ne.symm fbn, (S.mem _).mpr (.inr ⟨fbV, fbR⟩)⟩
          · split at e
            · cases e
            · rename_i h
              cases e
              have h' := not_or.mp h
              exact ⟨h'.1, (S.mem v).mpr (.inr ⟨inV v h'.1, h'.2⟩)⟩
      · have L : ∀ v, look (put (put (innerS p (b :: R')) (mf p b) n) n (mf p b)) v = if v = n then some (mf p b) else if v = mf p b then some n else if mf p v = v ∨ v ∈ b :: R' then none else some (mf p v) := fun v => by rw [look_put, look_put, innerS_look pd]
        by_cases z : v = n
        · rw [mf_some (w := mf p b) (by rw [L, if_pos z]), con, if_pos z, if_neg q]
        · have hv' := outV v hv z
          rw [cnv v hv'.1]
          by_cases y : v = mf p b
          · rw [mf_some (w := n) (by rw [L, if_neg z, if_pos y]), if_pos (by rw [y]; exact pd.mt.inv b hb)]
          · rw [if_neg fun e => y (by rw [← e]; exact (pd.mt.inv v hv'.1).symm)]
            by_cases x : mf p v = v
            · rw [mf_none (by rw [L, if_neg z, if_neg y, if_pos (.inl x)]), x]
            · rw [mf_some (w := mf p v) (by rw [L, if_neg z, if_neg y, if_neg (not_or.mpr ⟨x, hv'.2⟩)])]
  unfold m_through_ring mb_through_ring
  refine gets_bind ?_
  show Gets (Option.bind (dcB _ _ _ (p.map (·.1))) _) _
  refine gets_step e1 ?_
  refine gets_bind (gets_mono inner ?_)
  intro s4 ⟨pd', hc⟩
  show Gets (Option.bind (Option.bind (b2 (Option.bind _ m_shrunk) _ _) bet) _) _
  refine gets_bind ?_
  have hsh : b2 (b2 (some (DK.mk d)) (b2 (some (b :: R')) (b2 (some n) (some ()) fun x t => some (x, t)) fun x t => some (x, t)) fun x t => some (x, t) |>.bind m_shrunk) (b2 (some (DK.mk s4)) (b2 (some (n + (1 : Int))) (some ()) fun x t => some (x, t)) fun x t => some (x, t)) (fun x t => some (x, t)) = some (DK.mk d', DK.mk s4, n + 1, ()) := by
    show (Option.bind (m_shrunk (DK.mk d, b :: R', n, ())) _) = _
    rw [es]
    rfl
  refine gets_step hsh ?_
  refine gets_mono (hB d' s4 (n + 1) D' pd' (fun v hv => ?_) (by omega)) ?_
  · rcases (S.mem v).mp hv with q | q
    · omega
    · have := hn v q.1
      omega
  intro r hr
  cases r with
  | none =>
    obtain ⟨A, c, Ls, C⟩ := hr
    refine gets_flb ?_
    refine gets_some ?_
    refine ⟨_, rfl, ?_⟩
    have C' := Cert.congr (f := mf s4) (g := con (mf p) b n) (fun v hv => (hc v hv).symm) C
    exact ⟨_, _, _, C'.lift S D.gk pd.mt rg m0 d0 b0 k0⟩
  | some P =>
    have hP := Aug.congr (f := mf s4) (g := con (mf p) b n) (fun v hv => (hc v hv).symm) hr
    refine gets_flb ?_
    by_cases q : n ∈ P
    · have hi : isIn n P = true := by simp [isIn, q]
      have hl' := aug_len hP
      simp at hl'
      obtain ⟨Q, e, hQ⟩ := m_opened_ok D pd rg S hP q (by omega) (by omega)
      show Gets (Option.bind (some (!isIn n P)) _) _
      rw [hi]
      refine gets_some ?_
      show Gets (Option.bind (Option.bind (m_opened (DK.mk d, DK.mk p, b :: R', P, n, ())) _) _) _
      rw [e]
      exact gets_some ⟨_, rfl, hQ⟩
    · have hi : isIn n P = false := by simp [isIn, q]
      show Gets (Option.bind (some (!isIn n P)) _) _
      rw [hi]
      exact gets_some ⟨_, rfl, hP.shr_out S q⟩
end Sim

set_option autoImplicit false
set_option linter.all false
set_option maxRecDepth 100000
namespace Sim
open PySem L2 Bl
/-! ### the forest of a search -/
structure FI (V : List Int) (E : Int → Int → Prop) (f : Int → Int) (W : List Int) (up : List (Int × Option Int)) (rt : List (Int × Int)) (ou : List (Int × Bool)) : Prop where
  nW : W.Nodup
  sW : ∀ v ∈ W, v ∈ V
  all : ∀ v ∈ V, f v = v → v ∈ W
  far : ∀ v ∈ W, f v ≠ v → f v ∉ W
  lo : ∀ v ∈ V, look ou v = if v ∈ W then some true else if f v ∈ W then some false else none
  lr : ∀ v ∈ V, (look rt v).isSome = true ↔ v ∈ W ∨ f v ∈ W
  way : ∀ v ∈ W, ∃ P D z, v :: P = D ++ [z] ∧ (v :: P).Nodup ∧ D.length % 2 = 0 ∧ Alt E f 1 (v :: P) ∧ f z = z ∧ Chain (look up) (v :: P) ∧ ∀ x ∈ v :: P, x ∈ V ∧ look rt x = some z
  lu : up.length ≤ 2 * W.length
  lt : rt.length ≤ 2 * W.length
  ll : ou.length ≤ 2 * W.length
theorem FI.lenW {V : List Int} {E : Int → Int → Prop} {f : Int → Int} {W : List Int} {up : List (Int × Option Int)} {rt : List (Int × Int)} {ou : List (Int × Bool)} (h : FI V E f W up rt ou) : W.length ≤ V.length := h.nW.length_le_of_subset h.sW
/-- a node that is not in the forest comes into it, with its partner -/
theorem FI.grow {V : List Int} {E : Int → Int → Prop} {f : Int → Int} (G : Gk V E) (m : Mt V E f) {W : List Int} {up : List (Int × Option Int)} {rt : List (Int × Int)} {ou : List (Int × Bool)} (h : FI V E f W up rt ou) {v x r : Int} (hv : v ∈ W) (e : E v x) (hr : look rt v = some r) (n1 : x ∉ W) (n2 : f x ∉ W) :
    FI V E f (W ++ [f x]) (put (put up x (some v)) (f x) (some x)) (put (put rt x r) (f x) r) (put (put ou x false) (f x) true) := by
  have xV : x ∈ V := G.inn x v (G.sym _ _ e)
  have fxx : f (f x) = x := m.inv x xV
  have mx : f x ≠ x := fun q => n1 (h.all x xV q)
  have mV : f x ∈ V := m.inn x xV
  have keep : ∀ y, (look rt y).isSome = true → y ∈ V → y ≠ x ∧ y ≠ f x := fun y hy yV => by
    have := (h.lr y yV).mp hy
    constructor
    · intro q
      rw [q] at this
      exact this.elim n1 n2
    · intro q
      rw [q, fxx] at this
      exact this.elim n2 n1
  refine ⟨?_, fun w hw => ?_, fun w hw q => ?_, fun w hw q hm => ?_, fun w hw => ?_, fun w hw => ?_, fun w hw => ?_, ?_, ?_, ?_⟩
  · rw [List.nodup_append]
    exact ⟨h.nW, by simp, fun a ha c hc q => n2 (by simp at hc; rw [← hc, ← q]; exact ha)⟩
  · rcases List.mem_append.mp hw with q | q
    · exact h.sW w q
    · rw [List.mem_singleton.mp q]; exact mV
  · exact List.mem_append_left _ (h.all w hw q)
  · rcases List.mem_append.mp hw with z | z <;> rcases List.mem_append.mp hm with y | y
    · exact h.far w z q y
    · have y' := List.mem_singleton.mp y
      have : f (f w) = x := by rw [y', fxx]
      rw [m.inv w (h.sW w z)] at this
      exact n1 (this ▸ z)
    · rw [List.mem_singleton.mp z, fxx] at y
      exact n1 y
    · rw [List.mem_singleton.mp z, fxx] at y
      exact mx (List.mem_singleton.mp y).symm
  · rw [look_put, look_put]
    by_cases q1 : w = f x
    · rw [if_pos q1, if_pos (by simp [q1])]
    · rw [if_neg q1]
      by_cases q2 : w = x
      · subst q2
        rw [if_pos rfl, if_neg (by simp [n1, q1]), if_pos (by simp)]
      · rw [if_neg q2, h.lo w hw]
        have e1 : w ∈ W ++ [f x] ↔ w ∈ W := by simp [q1]
        have e2 : f w ∈ W ++ [f x] ↔ f w ∈ W := by
          have : f w ≠ f x := fun z => q2 (by rw [← m.inv w hw, z, fxx])
          simp [this]
        simp only [e1, e2]
  · rw [look_put, look_put]
    by_cases q1 : w = f x
    · rw [if_pos q1]; simp [q1]
    · rw [if_neg q1]
      by_cases q2 : w = x
      · subst q2
        rw [if_pos rfl]; simp
      · rw [if_neg q2, h.lr w hw]
        have : f w ≠ f x := fun z => q2 (by rw [← m.inv w hw, z, fxx])
        simp [q1, this]
  · rcases List.mem_append.mp hw with q | q
    · obtain ⟨P, D, z, h1, h2, h3, h4, h5, h6, h7⟩ := h.way w q
      have kk : ∀ y ∈ w :: P, y ≠ x ∧ y ≠ f x := fun y hy => keep y (by rw [(h7 y hy).2]; rfl) (h7 y hy).1
      refine ⟨P, D, z, h1, h2, h3, h4, h5, h6.mono fun y hy => ?_, fun y hy => ⟨(h7 y hy).1, ?_⟩⟩
      · rw [look_put, look_put, if_neg (kk y hy).2, if_neg (kk y hy).1]
      · rw [look_put, look_put, if_neg (kk y hy).2, if_neg (kk y hy).1]
        exact (h7 y hy).2
    · rw [List.mem_singleton.mp q]
      obtain ⟨P, D, z, h1, h2, h3, h4, h5, h6, h7⟩ := h.way v hv
      have kk : ∀ y ∈ v :: P, y ≠ x ∧ y ≠ f x := fun y hy => keep y (by rw [(h7 y hy).2]; rfl) (h7 y hy).1
      have rz : r = z := by
        have := (h7 v (by simp)).2
        rw [hr] at this
        exact Option.some.inj this
      subst rz
      refine ⟨x :: v :: P, f x :: x :: D, r, by rw [h1]; rfl, ?_, by simp; omega, ⟨?_, ?_, Alt.par (k := 1) (by omega) h4⟩, h5, ⟨?_, ?_, h6.mono fun y hy => ?_⟩, fun y hy => ?_⟩
      · rw [List.nodup_cons, List.nodup_cons]
        refine ⟨fun hm => ?_, fun hm => (kk x hm).1 rfl, h2⟩
        rcases List.mem_cons.mp hm with y | y
        · exact mx y
        · exact (kk _ y).2 rfl
      · unfold Stp
        rw [if_neg (by omega)]
        exact fxx
      · unfold Stp
        rw [if_pos (by omega)]
        exact G.sym _ _ e
      · rw [look_put, if_pos rfl]
      · rw [look_put, if_neg (Ne.symm mx), look_put, if_pos rfl]
      · rw [look_put, look_put, if_neg (kk y hy).2, if_neg (kk y hy).1]
      · rcases List.mem_cons.mp hy with y1 | y1
        · subst y1
          exact ⟨mV, by rw [look_put, if_pos rfl]⟩
        · rcases List.mem_cons.mp y1 with y2 | y2
          · subst y2
            exact ⟨xV, by rw [look_put, if_neg (Ne.symm mx), look_put, if_pos rfl]⟩
          · exact ⟨(h7 y y2).1, by rw [look_put, look_put, if_neg (kk y y2).2, if_neg (kk y y2).1]; exact (h7 y y2).2⟩
  · have a := put_len (put up x (some v)) (f x) (some x)
    have b := put_len up x (some v)
    have := h.lu
    simp; omega
  · have a := put_len (put rt x r) (f x) r
    have b := put_len rt x r
    have := h.lt
    simp; omega
  · have a := put_len (put ou x false) (f x) true
    have b := put_len ou x false
    have := h.ll
    simp; omega
/-- the first of a list that is in another -/
theorem first_in {P Q : List Int} (h : ∃ x ∈ P, x ∈ Q) : ∃ P1 b S, P = P1 ++ b :: S ∧ b ∈ Q ∧ ∀ x ∈ P1, x ∉ Q := by
  induction P with
  | nil => obtain ⟨x, hx, _⟩ := h; simp at hx
  | cons a r ih =>
    by_cases q : a ∈ Q
    · exact ⟨[], a, r, rfl, q, by simp⟩
    · obtain ⟨x, hx, hq⟩ := h
      have hx' : x ∈ r := by
        rcases List.mem_cons.mp hx with e | e
        · exact absurd (e ▸ hq) q
        · exact e
      obtain ⟨P1, b, S, e, h1, h2⟩ := ih ⟨x, hx', hq⟩
      exact ⟨a :: P1, b, S, by rw [e]; rfl, h1, fun y hy => by
        rcases List.mem_cons.mp hy with e | e
        · rw [e]; exact q
        · exact h2 y e⟩
/-- a node that the search has gone through: all next to it are inner -/
def Done (E : Int → Int → Prop) (f : Int → Int) (W : List Int) (v : Int) : Prop := ∀ o, E v o → o ∉ W ∧ f o ∈ W
theorem m_better_ok {thr : (DK Int (List Int)) × (DK Int Int) × (List Int) × Int × Unit → Option (Option (List Int))} {d : List (Int × List Int)} {p : List (Int × Int)} {n : Int} (D : ND d) (pd : PD (ky d) (nb d) p) (hn : ∀ v ∈ ky d, v < n) (hl : d.length < 300)
    (hT : ∀ b R', Ring (ky d) (nb d) (mf p) b R' → (∃ g, Mt (ky d) (nb d) g ∧ df (ky d) g = df (ky d) (mf p) ∧ g b = b ∧ ∀ w ∈ R', g w = mf p w) → Gets (thr (DK.mk d, DK.mk p, b :: R', n, ())) (Res d p)) :
    Gets (m_better thr (DK.mk d, DK.mk p, n, ())) (Res d p) := by
  have G := D.gk
  have m := pd.mt
  have nn : n ∉ ky d := fun h => absurd (hn n h) (by omega)
  have kl : (ky d).length = d.length := by simp
  let W0 := (ky d).filter (fun x => !(look p x).isSome)
  have hW0 : ∀ v, v ∈ W0 ↔ v ∈ ky d ∧ mf p v = v := fun v => by
    simp only [W0, List.mem_filter, pd.look]
    by_cases q : mf p v = v <;> simp [q]
  have l0 : W0.length ≤ d.length := by
    have := List.length_filter_le (fun x => !(look p x).isSome) (ky d)
    rw [kl] at this
    exact this
  have n0 : W0.Nodup := nd_filter _ G.nd
  have e1 : lcB (fun (x2 : Int) => (some (!(look p x2).isSome))) (fun (x2 : Int) => (some x2)) (ky d) = some W0 := by
    rw [lcB_ok (fun x => !(look p x).isSome) (fun x => x) (by rw [kl]; simp [BIG]; omega) (fun _ _ => rfl) (fun _ _ _ => rfl), filter_map_id]
  have dc : ∀ {γ : Type} (v' : Int → γ) (fv : Int → Option γ), (∀ x, fv x = some (v' x)) → dcB (fun (x4 : Int) => (some true)) (fun (x4 : Int) => (some x4)) fv W0 = some (W0.map fun x => (x, v' x)) := fun v' fv hv => by
    have := dcB_ok (t := fun (x4 : Int) => (some true)) (fk := fun (x4 : Int) => (some x4)) (fv := fv) (xs := W0) (fun _ => true) (fun x => x) v' (by simp [BIG]; omega) (fun _ _ => rfl) (fun x _ _ => ⟨rfl, hv x⟩) (by
      rw [List.filter_eq_self.mpr fun _ _ => rfl]
      show (List.map (fun x => x) _).Nodup
      simpa using n0)
    rw [this, List.filter_eq_self.mpr fun _ _ => rfl]
  have F0 : FI (ky d) (nb d) (mf p) W0 (W0.map fun x => (x, none)) (W0.map fun x => (x, x)) (W0.map fun x => (x, true)) := by
    refine ⟨n0, fun v hv => ((hW0 v).mp hv).1, fun v hv q => (hW0 v).mpr ⟨hv, q⟩, fun v hv q => absurd ((hW0 v).mp hv).2 q, fun v hv => ?_, fun v hv => ?_, fun v hv => ?_, by simp; omega, by simp; omega, by simp; omega⟩
    · rw [look_map_self]
      by_cases q : v ∈ W0
      · rw [if_pos q, if_pos q]
      · rw [if_neg q, if_neg q, if_neg fun z => ?_]
        have := ((hW0 _).mp z).2
        rw [m.inv v hv] at this
        exact q ((hW0 v).mpr ⟨hv, this.symm⟩)
    · rw [look_map_self]
      by_cases q : v ∈ W0
      · simp [q]
      · rw [if_neg q]
        simp [q]
        intro z
        have := ((hW0 _).mp z).2
        rw [m.inv v hv] at this
        exact q ((hW0 v).mpr ⟨hv, this.symm⟩)
    · have hv' := (hW0 v).mp hv
      refine ⟨[], [], v, rfl, by simp, rfl, trivial, hv'.2, ?_, fun x hx => ?_⟩
      · show look _ v = some none
        rw [look_map_self, if_pos hv]
      · have : x = v := by simpa using hx
        subst this
        exact ⟨hv'.1, by rw [look_map_self, if_pos hv]⟩
  unfold m_better mb_better
  refine gets_bind ?_
  refine gets_step e1 ?_
  refine gets_step (dc (fun _ => (none : Option Int)) _ fun _ => rfl) ?_
  refine gets_step (dc (fun x => x) _ fun _ => rfl) ?_
  refine gets_step (dc (fun _ => true) _ fun _ => rfl) ?_
  refine gets_step rfl ?_
  refine gets_flb ?_
  refine gets_whileF (fun s => ∃ k : Nat, s.2.2.2.2 = (k : Int) ∧ k ≤ s.1.length ∧ FI (ky d) (nb d) (mf p) s.1 s.2.1 s.2.2.1 s.2.2.2.1 ∧ ∀ v ∈ s.1.take k, Done (nb d) (mf p) s.1 v) (fun s => d.length + 1 - s.2.2.2.2.toNat)
    ⟨0, rfl, Nat.zero_le _, F0, by simp⟩ (by show d.length + 1 - 0 < 1000; omega) ?_
  rintro ⟨W, up, rt, ou, pl⟩ ⟨k, hk, hkl, F, dn⟩
  simp only at hk hkl F dn
  subst hk
  have wl := F.lenW
  rw [kl] at wl
  refine gets_some ⟨fun hc => ?_, fun hc => ?_⟩
  · -- a node is gone through
    have hlt : k < W.length := by
      have := of_decide_eq_true hc
      simp only at this
      omega
    obtain ⟨v, hv⟩ : ∃ v, W[k]? = some v := ⟨W[k], List.getElem?_eq_getElem hlt⟩
    have vW : v ∈ W := List.mem_of_getElem? hv
    have vV := F.sW v vW
    obtain ⟨row, hrow⟩ := D.row vV
    refine gets_step (atI_nat hv) ?_
    refine gets_flb ?_
    refine gets_step hrow ?_
    refine gets_forF (fun dr s => FI (ky d) (nb d) (mf p) s.1 s.2.1 s.2.2.1 s.2.2.2 ∧ (∃ t, s.1 = W ++ t) ∧ (∀ u ∈ W.take k, Done (nb d) (mf p) s.1 u) ∧ ∀ o ∈ dr, o ∉ s.1 ∧ mf p o ∈ s.1) ⟨F, ⟨[], by simp⟩, dn, by simp⟩ ?_ ?_
    · rintro dr x rs ⟨W1, up1, rt1, ou1⟩ hdr ⟨F1, ⟨t, ht⟩, dn1, dr1⟩
      simp only at F1 ht dn1 dr1
      have vW1 : v ∈ W1 := by rw [ht]; simp [vW]
      have evx : nb d v x := ⟨row, hrow, by rw [hdr]; simp⟩
      have xV : x ∈ ky d := G.inn x v (G.sym _ _ evx)
      obtain ⟨P, DP, zP, p1, p2, p3, p4, p5, p6, p7⟩ := F1.way v vW1
      have rv := (p7 v (by simp)).2
      have wl1 := F1.lenW
      rw [kl] at wl1
      refine gets_flb ?_
      show Gets (if (!(look rt1 x).isSome) = true then _ else _) _
      by_cases hx : (look rt1 x).isSome = true
      · rw [hx]
        show Gets (flb _ _) _
        refine gets_flb ?_
        have xin := (F1.lr x xV).mp hx
        have lo := F1.lo x xV
        by_cases xo : x ∈ W1
        · rw [if_pos xo] at lo
          obtain ⟨Q, DQ, zQ, q1, q2, q3, q4, q5, q6, q7⟩ := F1.way x xo
          have rx := (q7 x (by simp)).2
          have hPl : P.length < 900 := by
            have := p2.length_le_of_subset (l₂ := ky d) fun y hy => (p7 y hy).1
            simp at this
            omega
          have hQl : Q.length < 900 := by
            have := q2.length_le_of_subset (l₂ := ky d) fun y hy => (q7 y hy).1
            simp at this
            omega
          have w1 := m_way_ok p6 hPl
          have w2 := m_way_ok q6 hQl
          by_cases same : zQ = zP
          · -- one tree: a ring
            subst same
            have ha : andM (look ou1 x) ((look rt1 x).bind fun w23 => (look rt1 v).bind fun w24 => some (!decide (w23 = w24))) = some false := by
              rw [lo, rx, rv]
              simp [andM]
            refine gets_step ha ?_
            show Gets (flb _ _) _
            refine gets_flb ?_
            refine gets_step lo ?_
            show Gets (Option.bind _ _) _
            obtain ⟨P1, b, S, s1, s2, s3⟩ := first_in (P := v :: P) (Q := x :: Q) ⟨zQ, by rw [p1]; simp, by rw [q1]; simp⟩
            obtain ⟨Q1, S', s4⟩ := List.append_of_mem s2
            have c1 : Chain (look up1) (b :: S) := by rw [s1] at p6; exact p6.suf
            have c2 : Chain (look up1) (b :: S') := by rw [s4] at q6; exact q6.suf
            have eS := Chain.det c2 c1
            subst eS
            have bQ : b ∉ Q1 := fun h => by
              rw [s4] at q2
              exact (List.nodup_append.mp q2).2.2 b h b (by simp) rfl
            have lenq := congrArg List.length q1
            simp at lenq
            obtain ⟨rg, hg⟩ := ring_ok G m s1 s4 (s1 ▸ p2) (s4 ▸ q2) (fun y hy => (p7 y (s1 ▸ hy)).1) (fun y hy => (q7 y (s4 ▸ hy)).1) (s1 ▸ p4) (s4 ▸ q4) (s4 ▸ s3) (s1.symm.trans p1) p3 p5 (by rw [← s4]; simp; omega) evx
            have hr : m_ring_of (v :: P, x :: Q, ()) = some (b :: (P1.reverse ++ Q1)) := by
              have l1 := congrArg List.length s1
              have l2 := congrArg List.length s4
              simp at l1 l2
              rw [s1, s4]
              refine m_ring_of_ok (s4 ▸ s3) bQ ?_
              have a1 := p2.length_le_of_subset (l₂ := ky d) fun y hy => (p7 y hy).1
              have a2 := q2.length_le_of_subset (l₂ := ky d) fun y hy => (q7 y hy).1
              simp at a1 a2
              omega
            show Gets (Option.bind (Option.bind (b2 (some (DK.mk d)) (b2 (some (DK.mk p)) (b2 (Option.bind (b2 (Option.bind _ m_way) (b2 (Option.bind _ m_way) _ _) _) m_ring_of) _ _) _) _) thr) _) _
            refine gets_bind ?_
            have harg : (b2 (some (DK.mk d)) (b2 (some (DK.mk p)) (b2 ((b2 ((b2 (some (DK.mk up1)) (b2 (some v) (some ()) fun x t => some (x, t)) fun x t => some (x, t)).bind m_way) (b2 ((b2 (some (DK.mk up1)) (b2 (some x) (some ()) fun x t => some (x, t)) fun x t => some (x, t)).bind m_way) (some ()) fun x t => some (x, t)) fun x t => some (x, t)).bind m_ring_of) (b2 (some n) (some ()) fun x t => some (x, t)) fun x t => some (x, t)) fun x t => some (x, t)) fun x t => some (x, t)) = some (DK.mk d, DK.mk p, b :: (P1.reverse ++ Q1), n, ()) := by
              simp only [b2, Option.bind_some, w1, w2, hr]
            refine gets_step harg ?_
            refine gets_mono (hT _ _ rg hg) fun r hr => gets_some ⟨r, rfl, hr⟩
          · -- two trees: a path
            have ha : andM (look ou1 x) ((look rt1 x).bind fun w23 => (look rt1 v).bind fun w24 => some (!decide (w23 = w24))) = some true := by
              rw [lo, rx, rv]
              simp [andM, same]
            refine gets_step ha ?_
            show Gets (Option.bind _ _) _
            have dj : ∀ y ∈ v :: P, y ∉ x :: Q := fun y h1 h2 => same (by
              have a := (p7 y h1).2
              rw [(q7 y h2).2] at a
              exact Option.some.inj a)
            have hA := join_ok G m p1 q1 p2 q2 (fun y hy => (p7 y hy).1) (fun y hy => (q7 y hy).1) p4 q4 dj p3 q3 p5 q5 evx
            have hval : ((((b2 (some (DK.mk up1)) (b2 (some v) (some ()) fun x t => some (x, t)) fun x t => some (x, t)).bind m_way).bind fun w26 => some (List.reverse w26)).bind fun w27 => ((b2 (some (DK.mk up1)) (b2 (some x) (some ()) fun x t => some (x, t)) fun x t => some (x, t)).bind m_way).bind fun w28 => pcat w27 w28).bind (fun w29 => some (some w29)) = some (some ((v :: P).reverse ++ x :: Q)) := by
              show Option.bind (Option.bind (Option.bind (m_way (DK.mk up1, v, ())) _) _) _ = _
              rw [w1]
              show Option.bind (Option.bind (m_way (DK.mk up1, x, ())) _) _ = _
              rw [w2]
              show Option.bind (pcat _ _) _ = _
              rw [pcat_ok (by simp [BIG]; omega)]
              rfl
            refine gets_step hval ?_
            exact gets_some ⟨_, rfl, hA⟩
        · -- an inner node
          have fo := xin.resolve_left xo
          rw [if_neg xo, if_pos fo] at lo
          have ha : andM (look ou1 x) ((look rt1 x).bind fun w23 => (look rt1 v).bind fun w24 => some (!decide (w23 = w24))) = some false := by
            rw [lo]
            rfl
          refine gets_step ha ?_
          show Gets (flb _ _) _
          refine gets_flb ?_
          refine gets_step lo ?_
          refine gets_some ?_
          show Gets (some _) _
          refine gets_some ?_
          show Gets (some _) _
          refine gets_some ?_
          show Gets (some _) _
          refine gets_some ?_
          refine ⟨F1, ⟨t, ht⟩, dn1, fun o ho => ?_⟩
          rcases List.mem_append.mp ho with y | y
          · exact dr1 o y
          · rw [List.mem_singleton.mp y]; exact ⟨xo, fo⟩
      · -- a new node
        have hx' : (look rt1 x).isSome = false := by simpa using hx
        rw [hx']
        have xo : x ∉ W1 ∧ mf p x ∉ W1 := by
          have := fun h => hx ((F1.lr x xV).mpr h)
          exact ⟨fun h => this (.inl h), fun h => this (.inr h)⟩
        have mx : mf p x ≠ x := fun q => xo.1 (F1.all x xV q)
        have lx : look p x = some (mf p x) := by rw [pd.look, if_neg mx]
        have vx : v ≠ x := fun e => G.irr v (by rw [← e] at evx; exact evx)
        have vm : v ≠ mf p x := fun e => xo.2 (e ▸ vW1)
        have F2 := F1.grow G m vW1 evx rv xo.1 xo.2
        have hlu := F1.lu
        have hlt2 := F1.lt
        have hll := F1.ll
        show Gets (Option.bind (look p x) _) _
        refine gets_step lx ?_
        have hfp : forP (fun (s16 : (List (Int × (Option Int))) × (List (Int × Int)) × (List (Int × Bool))) (x17 : (T3 Int Int Bool)) =>
            (dput s16.1 x17.a (some x17.b)).bind fun (z18 : (List (Int × (Option Int)))) =>
            ((look s16.2.1 v).bind fun w20 => dput s16.2.1 x17.a w20).bind fun (z19 : (List (Int × Int))) =>
            (dput s16.2.2 x17.a x17.c).bind fun (z21 : (List (Int × Bool))) =>
            (some (z18, z19, z21))) (up1, rt1, ou1) [(T3.mk x v false), (T3.mk (mf p x) x true)] = some (put (put up1 x (some v)) (mf p x) (some x), put (put rt1 x zP) (mf p x) zP, put (put ou1 x false) (mf p x) true) := by
          have a1 := put_len up1 x (some v)
          have a2 := put_len rt1 x zP
          have a3 := put_len ou1 x false
          have big : BIG = 1000000 := rfl
          have b1 : dput up1 x (some v) = some (put up1 x (some v)) := dput_ok (by omega)
          have b2' : dput rt1 x zP = some (put rt1 x zP) := dput_ok (by omega)
          have b3 : dput ou1 x false = some (put ou1 x false) := dput_ok (by omega)
          have b4 : dput (put up1 x (some v)) (mf p x) (some x) = some (put (put up1 x (some v)) (mf p x) (some x)) := dput_ok (by omega)
          have b5 : dput (put rt1 x zP) (mf p x) zP = some (put (put rt1 x zP) (mf p x) zP) := dput_ok (by omega)
          have b6 : dput (put ou1 x false) (mf p x) true = some (put (put ou1 x false) (mf p x) true) := dput_ok (by omega)
          have c1 : look (put rt1 x zP) v = some zP := by rw [look_put, if_neg vx, rv]
          simp only [forP, b1, b2', b3, b4, b5, b6, rv, c1, Option.bind_some]
        refine gets_step hfp ?_
        refine gets_step (push_ok (by simp [BIG]; omega)) ?_
        refine gets_some ?_
        show Gets (some _) _
        refine gets_some ?_
        have fxx : mf p (mf p x) = x := m.inv x xV
        -- what is inner stays so
        have st : ∀ o, o ∈ ky d → o ∉ W1 → mf p o ∈ W1 → o ∉ W1 ++ [mf p x] ∧ mf p o ∈ W1 ++ [mf p x] := fun o oV h1 h2 => ⟨fun h => by
          rcases List.mem_append.mp h with y | y
          · exact h1 y
          · rw [List.mem_singleton.mp y, fxx] at h2
            exact xo.1 h2, List.mem_append_left _ h2⟩
        refine ⟨F2, ⟨t ++ [mf p x], by rw [ht]; simp⟩, fun u hu o ho => ?_, fun o ho => ?_⟩
        · have := dn1 u hu o ho
          exact st o (G.inn o u (G.sym _ _ ho)) this.1 this.2
        · rcases List.mem_append.mp ho with y | y
          · have := dr1 o y
            exact st o (G.inn o v (G.sym _ _ ⟨row, hrow, by rw [hdr]; simp [y]⟩)) this.1 this.2
          · rw [List.mem_singleton.mp y]
            refine ⟨fun h => ?_, by simp⟩
            rcases List.mem_append.mp h with z | z
            · exact xo.1 z
            · exact mx (List.mem_singleton.mp z).symm
    · rintro ⟨W1, up1, rt1, ou1⟩ ⟨F1, ⟨t, ht⟩, dn1, dr1⟩
      simp only at F1 ht dn1 dr1
      show Gets _ _
      refine gets_step rfl ?_
      refine gets_some ?_
      have hlW1 : W.length ≤ W1.length := by rw [ht]; simp
      refine ⟨⟨k + 1, by simp, by show k + 1 ≤ W1.length; omega, F1, ?_⟩, ?_⟩
      · show ∀ u ∈ W1.take (k + 1), Done (nb d) (mf p) W1 u
        have e4 : W1.take (k + 1) = W.take k ++ [v] := by
          rw [ht, List.take_append_of_le_length (by omega), List.take_succ, hv]
          rfl
        rw [e4]
        intro u hu
        rcases List.mem_append.mp hu with y | y
        · exact dn1 u y
        · rw [List.mem_singleton.mp y]
          intro o ⟨r2, h1, h2⟩
          rw [hrow] at h1
          cases h1
          exact dr1 o h2
      · show d.length + 1 - ((k : Int) + 1).toNat < d.length + 1 - (k : Int).toNat
        omega
  · have hge : k = W.length := by
      have := of_decide_eq_false hc
      simp only at this
      omega
    subst hge
    rw [List.take_length] at dn
    show Gets _ _
    refine gets_step rfl ?_
    refine gets_some ⟨none, rfl, ?_⟩
    refine ⟨_, _, _, base_cert G m nn F.nW F.sW F.all F.far (fun v hv => ?_) fun v hv o ho => dn v hv o ho⟩
    obtain ⟨P, D', z, h1, h2, h3, h4, h5, h6, h7⟩ := F.way v hv
    exact ⟨P, D', z, h1, h2, fun x hx => (h7 x hx).1, h3, h4, h5⟩
theorem x_better_ok : ∀ k, k ≤ 12 → BetOk (x_better k) (2 * k)
  | 0, _ => fun d p n D pd hn hl => absurd hl (Nat.not_lt_zero _)
  | k + 1, hk => fun d p n D pd hn hl => by
    show Gets (m_better (m_through_ring (x_better k)) _) _
    refine m_better_ok D pd hn (by omega) fun b R' rg ⟨g, g1, g2, g3, g4⟩ => ?_
    exact m_through_ring_ok (x_better_ok k (by omega)) D pd hn (by omega) (by omega) rg g1 g2 g3 g4
end Sim

set_option autoImplicit false
set_option linter.all false
set_option maxRecDepth 100000
namespace Sim
open PySem L2 Bl
/-! ### the web of lists that a list of edges makes -/
theorem mem_rangeL {lo hi x : Int} : x ∈ rangeL lo hi ↔ lo ≤ x ∧ x < hi := by
  unfold rangeL
  rw [List.mem_map]
  constructor
  · rintro ⟨i, h1, h2⟩
    have := List.mem_range.mp h1
    omega
  · rintro ⟨h1, h2⟩
    exact ⟨(x - lo).toNat, List.mem_range.mpr (by omega), by omega⟩
theorem rangeL_nodup (lo hi : Int) : (rangeL lo hi).Nodup := by
  unfold rangeL
  have : ∀ L : List Nat, L.Nodup → (L.map fun (i : Nat) => lo + (i : Int)).Nodup := by
    intro L
    induction L with
    | nil => intro _; exact List.nodup_nil
    | cons a r ih =>
      intro h
      rw [List.map_cons, List.nodup_cons]
      refine ⟨fun hm => ?_, ih (List.nodup_cons.mp h).2⟩
      obtain ⟨b, hb, e⟩ := List.mem_map.mp hm
      have : b = a := by omega
      exact (List.nodup_cons.mp h).1 (this ▸ hb)
  exact this _ List.nodup_range
/-- a list of edges as point 1.1 has it -/
structure EdOk (n : Int) (es : List (Int × Int)) : Prop where
  nd : es.Nodup
  ok : ∀ e ∈ es, 0 ≤ e.1 ∧ e.1 < e.2 ∧ e.2 < n
/-- joined by an edge, w taken out -/
def Ej (es : List (Int × Int)) (w : Option Int) (u v : Int) : Prop := some u ≠ w ∧ some v ≠ w ∧ ((u, v) ∈ es ∨ (v, u) ∈ es)
theorem nearM_ok {t : Int → Option Bool} {t' : Int → Bool} : ∀ {xs : List Int} (d : List (Int × List Int)), (∀ x ∈ xs, t x = some (t' x)) → xs.Nodup → (∀ x ∈ xs, x ∉ ky d) → nearM t d xs = some (d ++ (xs.filter t').map fun x => (x, []))
  | [], d, _, _, _ => by simp [nearM]
  | x :: r, d, ht, nd, hd => by
    have nd' := List.nodup_cons.mp nd
    unfold nearM
    rw [ht x (by simp)]
    show (if t' x = true then _ else _) = _
    by_cases h : t' x = true
    · have hx : isIn x (d.map fun q : Int × List Int => q.1) = false := by simpa [isIn] using hd x (by simp)
      rw [if_pos h, if_neg (by rw [hx]; simp), nearM_ok (d ++ [(x, [])]) (fun y hy => ht y (by simp [hy])) nd'.2 fun y hy hm => ?_]
      · simp [h]
      · simp only [ky, List.map_append, List.mem_append] at hm
        rcases hm with q | q
        · exact hd y (by simp [hy]) q
        · simp at q
          exact nd'.1 (q ▸ hy)
    · rw [if_neg h, nearM_ok d (fun y hy => ht y (by simp [hy])) nd'.2 fun y hy => hd y (by simp [hy])]
      simp [h]
theorem m_neighbours_ok {n : Int} {es : List (Int × Int)} (h : EdOk n es) (hn : n ≤ 200) (hn0 : 0 ≤ n) (w : Option Int) :
    ∃ d, m_neighbours (n, es, w, ()) = some (DK.mk d) ∧ ND d ∧ ky d = (rangeL 0 n).filter (fun x => !decide (some x = w)) ∧ ∀ u v, nb d u v ↔ Ej es w u v := by
  let K := (rangeL 0 n).filter (fun x => !decide (some x = w))
  have hK : ∀ x, x ∈ K ↔ (0 ≤ x ∧ x < n) ∧ some x ≠ w := fun x => by simp [K, mem_rangeL]
  have nK : K.Nodup := nd_filter _ (rangeL_nodup 0 n)
  have lr : (rangeL 0 n).length ≤ 200 := by rw [rangeL_length]; omega
  have lK : K.length ≤ 200 := Nat.le_trans (List.length_filter_le _ _) lr
  have big : BIG = 1000000 := rfl
  have goal : Gets (m_neighbours (n, es, w, ())) fun r => ∃ d, r = DK.mk d ∧ ky d = K ∧ ∀ u ∈ K, ∃ row, look d u = some row ∧ row.Nodup ∧ ∀ v, v ∈ row ↔ Ej es w u v := by
    unfold m_neighbours mb_neighbours
    refine gets_bind ?_
    have hneg : n.natAbs < 2 ^ 62 := by omega
    · have e1 : nearB (fun (x2 : Int) => (some (!decide ((some x2) = w)))) (rangeL 0 n) = some (K.map fun x => (x, [])) := by
        unfold nearB
        rw [if_pos (by omega), nearM_ok (t' := fun x => !decide (some x = w)) [] (fun _ _ => rfl) (rangeL_nodup 0 n) (fun _ _ => by simp [ky])]
        rfl
      refine gets_step (x := K.map fun x => (x, [])) (by rw [prange_ok (by decide) hneg]; exact e1) ?_
      refine gets_bind ?_
      refine gets_step rfl ?_
      refine gets_forP (fun dn d => ky d = K ∧ ∀ u ∈ K, ∃ row, look d u = some row ∧ row.Nodup ∧ ∀ v, v ∈ row ↔ Ej dn w u v) ⟨?_, fun u hu => ⟨[], by rw [look_map_self, if_pos hu], List.nodup_nil, fun v => by simp [Ej]⟩⟩ ?_ ?_
      · show (K.map _).map _ = K
        rw [List.map_map]
        exact List.map_id _
      · rintro dn ⟨a, b⟩ rs d hs ⟨h1, h2⟩
        have hs : es = dn ++ (a, b) :: rs := hs
        have hab := h.ok (a, b) (by rw [hs]; simp)
        simp only at hab
        have nd := h.nd
        rw [hs] at nd
        have nd1 := List.nodup_append.mp nd
        have ndn : (a, b) ∉ dn := fun q => nd1.2.2 _ q (a, b) (by simp) rfl
        have ndn2 : (b, a) ∉ dn := fun q => by
          have := h.ok (b, a) (by rw [hs]; simp [q])
          simp only at this
          omega
        -- the rows grow by one edge
        have mem : ∀ u v, Ej (dn ++ [(a, b)]) w u v ↔ Ej dn w u v ∨ (some u ≠ w ∧ some v ≠ w ∧ ((u = a ∧ v = b) ∨ (u = b ∧ v = a))) := fun u v => by
          unfold Ej
          simp only [List.mem_append, List.mem_singleton, Prod.mk.injEq]
          constructor
          · rintro ⟨x1, x2, (x3 | x3) | (x3 | x3)⟩
            · exact .inl ⟨x1, x2, .inl x3⟩
            · exact .inr ⟨x1, x2, .inl x3⟩
            · exact .inl ⟨x1, x2, .inr x3⟩
            · exact .inr ⟨x1, x2, .inr ⟨x3.2, x3.1⟩⟩
          · rintro (⟨x1, x2, x3⟩ | ⟨x1, x2, x3⟩)
            · exact ⟨x1, x2, x3.elim (fun y => .inl (.inl y)) fun y => .inr (.inl y)⟩
            · exact ⟨x1, x2, x3.elim (fun y => .inl (.inr y)) fun y => .inr (.inr ⟨y.2, y.1⟩)⟩
        have rl : ∀ u ∈ K, ∀ row, look d u = some row → row.length ≤ 200 := fun u hu row e => by
          obtain ⟨row', e', r1, r2⟩ := h2 u hu
          rw [e] at e'
          cases e'
          refine Nat.le_trans (r1.length_le_of_subset (l₂ := K) fun v hv => ?_) lK
          have := (r2 v).mp hv
          rw [hK]
          refine ⟨?_, this.2.1⟩
          rcases this.2.2 with q | q
          · have := h.ok _ (by rw [hs]; exact List.mem_append_left _ q); simp only at this; omega
          · have := h.ok _ (by rw [hs]; exact List.mem_append_left _ q); simp only at this; omega
        refine gets_bind (gets_bind ?_)
        by_cases q : some a ≠ w ∧ some b ≠ w
        · have ht : andM (some (!decide ((some a) = w))) (some (!decide ((some b) = w))) = some true := by simp [andM, q.1, q.2]
          refine gets_eq ht ?_
          have aK : a ∈ K := (hK a).mpr ⟨by omega, q.1⟩
          have bK : b ∈ K := (hK b).mpr ⟨by omega, q.2⟩
          obtain ⟨ra, ea, na, ma⟩ := h2 a aK
          obtain ⟨rb, eb, nb', mb⟩ := h2 b bK
          have la := rl a aK ra ea
          have lb := rl b bK rb eb
          have ab : a ≠ b := by omega
          have e2 : nearApp d a b = some (put d a (ra ++ [b])) := by
            unfold nearApp
            rw [ea]
            show (push ra b).bind _ = _
            rw [push_ok (by omega)]
            rfl
          have e3 : nearApp (put d a (ra ++ [b])) b a = some (put (put d a (ra ++ [b])) b (rb ++ [a])) := by
            unfold nearApp
            rw [look_put, if_neg (Ne.symm ab), eb]
            show (push rb a).bind _ = _
            rw [push_ok (by omega)]
            rfl
          show Gets ((nearApp d a b).bind _) _
          refine gets_step e2 (gets_step e3 (gets_some (gets_some ⟨?_, fun u hu => ?_⟩)))
          · show (put _ b _).map (·.1) = K
            rw [put_keys', if_pos (put_mem.mpr (.inr (by rw [show d.map (·.1) = K from h1]; exact bK))), put_keys', if_pos (by rw [show d.map (·.1) = K from h1]; exact aK)]
            exact h1
          · rw [look_put, look_put]
            by_cases z1 : u = b
            · subst z1
              refine ⟨_, if_pos rfl, ?_, fun v => ?_⟩
              · rw [List.nodup_append]
                exact ⟨nb', by simp, fun x hx y hy e => by
                  simp at hy
                  subst hy
                  subst e
                  have := (mb x).mp hx
                  rcases this.2.2 with y | y
                  · exact ndn2 y
                  · exact ndn y⟩
              · rw [mem, List.mem_append, mb]
                constructor
                · rintro (y | y)
                  · exact .inl y
                  · simp at y; exact .inr ⟨q.2, y ▸ q.1, .inr ⟨rfl, y⟩⟩
                · rintro (y | ⟨_, _, y | y⟩)
                  · exact .inl y
                  · exact absurd y.1.symm ab
                  · exact .inr (by simp [y.2])
            · rw [if_neg z1]
              by_cases z2 : u = a
              · subst z2
                refine ⟨_, if_pos rfl, ?_, fun v => ?_⟩
                · rw [List.nodup_append]
                  exact ⟨na, by simp, fun x hx y hy e => by
                    simp at hy
                    subst hy
                    subst e
                    have := (ma x).mp hx
                    rcases this.2.2 with y | y
                    · exact ndn y
                    · exact ndn2 y⟩
                · rw [mem, List.mem_append, ma]
                  constructor
                  · rintro (y | y)
                    · exact .inl y
                    · simp at y; exact .inr ⟨q.1, y ▸ q.2, .inl ⟨rfl, y⟩⟩
                  · rintro (y | ⟨_, _, y | y⟩)
                    · exact .inl y
                    · exact .inr (by simp [y.2])
                    · exact absurd y.1 ab
              · rw [if_neg z2]
                obtain ⟨row, r1, r2, r3⟩ := h2 u hu
                refine ⟨row, r1, r2, fun v => ?_⟩
                rw [mem, r3]
                constructor
                · exact .inl
                · rintro (y | ⟨_, _, y | y⟩)
                  · exact y
                  · exact absurd y.1 z2
                  · exact absurd y.1 z1
        · have ht : andM (some (!decide ((some a) = w))) (some (!decide ((some b) = w))) = some false := by
            by_cases z : some a = w
            · simp [andM, z]
            · have : some b = w := Classical.byContradiction fun y => q ⟨z, y⟩
              simp [andM, z, this]
          refine gets_eq ht (gets_some (gets_some ⟨h1, fun u hu => ?_⟩))
          obtain ⟨row, r1, r2, r3⟩ := h2 u hu
          refine ⟨row, r1, r2, fun v => ?_⟩
          rw [mem, r3]
          constructor
          · exact .inl
          · rintro (y | ⟨y1, y2, y | y⟩)
            · exact y
            · rw [y.1] at y1; rw [y.2] at y2; exact absurd ⟨y1, y2⟩ q
            · rw [y.1] at y1; rw [y.2] at y2; exact absurd ⟨y2, y1⟩ q
      · rintro d ⟨h1, h2⟩
        exact gets_some ⟨_, rfl, d, rfl, h1, h2⟩
  obtain ⟨r, e, d, hr, h1, h2⟩ := goal
  subst hr
  have hnb : ∀ u v, nb d u v ↔ Ej es w u v := fun u v => by
    unfold nb
    constructor
    · rintro ⟨row, e, hv⟩
      have hu : u ∈ K := by rw [← h1]; exact look_some_mem.mp (by rw [e]; rfl)
      obtain ⟨row', e', _, r3⟩ := h2 u hu
      rw [e] at e'
      cases e'
      exact (r3 v).mp hv
    · intro hE
      have hu : u ∈ K := by
        rw [hK]
        refine ⟨?_, hE.1⟩
        rcases hE.2.2 with q | q
        · have := h.ok _ q; simp only at this; omega
        · have := h.ok _ q; simp only at this; omega
      obtain ⟨row, e', _, r3⟩ := h2 u hu
      exact ⟨row, e', (r3 v).mpr hE⟩
  refine ⟨d, e, ⟨fun v row e => ?_, ⟨?_, fun u v q => ?_, fun u q => ?_, fun u v q => ?_⟩⟩, h1, hnb⟩
  · have hu : v ∈ K := by rw [← h1]; exact look_some_mem.mp (by rw [e]; rfl)
    obtain ⟨row', e', r2, _⟩ := h2 v hu
    rw [e] at e'
    cases e'
    exact r2
  · show (ky d).Nodup
    rw [h1]; exact nK
  · rw [hnb] at q ⊢
    exact ⟨q.2.1, q.1, q.2.2.symm⟩
  · rw [hnb] at q
    rcases q.2.2 with y | y <;> (have := h.ok _ y; simp only at this; omega)
  · obtain ⟨row, e, _⟩ := q
    exact look_some_mem.mp (by rw [e]; rfl)
end Sim

set_option autoImplicit false
set_option linter.all false
set_option maxRecDepth 100000
namespace Sim
open PySem L2 Bl
/-! ### a path turned over in the dict of partners -/
theorem prs_at : ∀ {A C : List Int} {a b : Int}, A.length % 2 = 0 → (A ++ a :: b :: C).Nodup → prs (A ++ a :: b :: C) a = b ∧ prs (A ++ a :: b :: C) b = a
  | [], C, a, b, _, nd => by
    have h := (List.nodup_cons.mp nd).1
    have : b ≠ a := fun e => h (by simp [e])
    simp [prs, this]
  | [_], _, _, _, h, _ => by simp at h
  | x :: y :: A, C, a, b, h, nd => by
    have h1 := List.nodup_cons.mp nd
    have h2 := List.nodup_cons.mp h1.2
    have ih := prs_at (A := A) (C := C) (a := a) (b := b) (by simp at h; omega) h2.2
    have ax : a ≠ x := fun e => h1.1 (by simp [← e])
    have bx : b ≠ x := fun e => h1.1 (by simp [← e])
    have ay : a ≠ y := fun e => h2.1 (by simp [← e])
    have b_y : b ≠ y := fun e => h2.1 (by simp [← e])
    have e1 : prs (x :: y :: A ++ a :: b :: C) a = prs (A ++ a :: b :: C) a := by simp [prs, ax, ay]
    have e2 : prs (x :: y :: A ++ a :: b :: C) b = prs (A ++ a :: b :: C) b := by simp [prs, bx, b_y]
    rw [e1, e2]
    exact ih
theorem range_at {lo hi x : Int} {dn rs : List Int} (h : rangeL lo hi = dn ++ x :: rs) : x = lo + (dn.length : Int) ∧ dn.length < (hi - lo).toNat := by
  have hl := congrArg List.length h
  rw [rangeL_length] at hl
  simp at hl
  have e : (rangeL lo hi)[dn.length]? = some x := by rw [h]; simp
  unfold rangeL at e
  rw [List.getElem?_map, List.getElem?_range (by omega)] at e
  exact ⟨(Option.some.inj e).symm, by omega⟩
theorem two_at {P : List Int} {k : Nat} (h : 2 * k + 1 < P.length) : ∃ a b C, P = P.take (2 * k) ++ a :: b :: C ∧ P[2 * k]? = some a ∧ P[2 * k + 1]? = some b ∧ P.take (2 * (k + 1)) = P.take (2 * k) ++ [a, b] := by
  refine ⟨P[2 * k], P[2 * k + 1], P.drop (2 * k + 2), ?_, List.getElem?_eq_getElem _, List.getElem?_eq_getElem _, ?_⟩
  · conv => lhs; rw [← List.take_append_drop (2 * k) P]
    congr 1
    rw [List.drop_eq_getElem_cons (by omega), List.drop_eq_getElem_cons (by omega)]
  · have e : 2 * (k + 1) = 2 * k + 1 + 1 := by omega
    rw [e, List.take_succ, List.take_succ, List.getElem?_eq_getElem (by omega : 2 * k < P.length), List.getElem?_eq_getElem (by omega : 2 * k + 1 < P.length), List.append_assoc]
    rfl
theorem m_is_number_ok (v m : Int) : m_is_numberJ (v, m, ()) = some (decide (0 ≤ v ∧ v ≤ m)) := by
  unfold m_is_numberJ mb_is_numberJ
  by_cases h : 0 ≤ v
  · by_cases h2 : v ≤ m <;> simp [andM, h, h2, retP]
  · simp [andM, h, retP]
theorem m_check_web_ok {n : Int} {es : List (Int × Int)} (h : EdOk n es) (h0 : 0 ≤ n) (h1 : n ≤ 20) (hl : es.length ≤ 1000) : m_check_webJ (n, es, ()) = some (.ok ()) := by
  have big : BIG = 1000000 := rfl
  have goal : Gets (m_check_webJ (n, es, ())) fun r => r = .ok () := by
    unfold m_check_webJ mb_check_webJ
    refine gets_bind (gets_flb ?_)
    have e1 : m_is_numberJ (n, k_MOST_NODES, ()) = some true := by
      rw [m_is_number_ok]
      have : 0 ≤ n ∧ n ≤ k_MOST_NODES := ⟨h0, h1⟩
      simp [this]
    show Gets (Option.bind (Option.bind (m_is_numberJ (n, k_MOST_NODES, ())) _) _) _
    rw [e1]
    refine gets_some ?_
    refine gets_step rfl ?_
    refine gets_flb ?_
    refine gets_step rfl ?_
    refine gets_forF (fun dn s => s.length ≤ dn.length ∧ ∀ e, (look s e).isSome = true ↔ e ∈ dn) ⟨Nat.le_refl _, fun e => by simp [look]⟩ ?_ ?_
    · rintro dn ⟨a, b⟩ rs s hs ⟨i1, i2⟩
      have hs : es = dn ++ (a, b) :: rs := hs
      have hab := h.ok (a, b) (by rw [hs]; simp)
      simp only at hab
      have nd := h.nd
      rw [hs] at nd
      have ndn : (a, b) ∉ dn := fun q => (List.nodup_append.mp nd).2.2 _ q (a, b) (by simp) rfl
      have ln := congrArg List.length hs
      simp at ln
      refine gets_flb (gets_some ?_)
      refine gets_flb ?_
      have e2 : ∀ x : Int, 0 ≤ x → x < n → m_is_numberJ (x, n - 1, ()) = some true := fun x g1 g2 => by
        rw [m_is_number_ok]
        have : 0 ≤ x ∧ x ≤ n - 1 := ⟨g1, by omega⟩
        simp [this]
      have e3 : (orM (((b2 (some a) (b2 (some (n - (1 : Int))) (some ()) fun x t => some (x, t)) fun x t => some (x, t)).bind m_is_numberJ).bind fun w7 => some (!w7)) (((b2 (some b) (b2 (some (n - (1 : Int))) (some ()) fun x t => some (x, t)) fun x t => some (x, t)).bind m_is_numberJ).bind fun w8 => some (!w8))) = some false := by
        simp only [b2, Option.bind_some, e2 a (by omega) (by omega), e2 b (by omega) (by omega), orM]
        rfl
      refine gets_step e3 (gets_some ?_)
      refine gets_flb ?_
      have e4 : (look s (a, b)).isSome = false := by
        cases q : (look s (a, b)).isSome with
        | false => rfl
        | true => exact absurd ((i2 _).mp q) ndn
      have e5 : orM (some (decide (b ≤ a))) (some ((look s (a, b)).isSome)) = some false := by
        have : ¬ b ≤ a := by omega
        simp [orM, this, e4]
      refine gets_step e5 (gets_some ?_)
      refine gets_step (dput_ok (by omega)) (gets_some ⟨?_, fun e => ?_⟩)
      · have := put_len s (a, b) true
        simp
        omega
      · rw [look_put, List.mem_append, List.mem_singleton]
        by_cases z : e = (a, b)
        · simp [z]
        · simp [z, i2]
    · intro s _
      exact gets_some ⟨_, rfl, rfl⟩
  obtain ⟨r, e, hr⟩ := goal
  rw [e, hr]
/-- partners of a greatest pairing -/
def GrOk (n : Int) (es : List (Int × Int)) (p : List (Int × Int)) : Prop := PD (rangeL 0 n) (Ej es none) p ∧ ∃ A c Ls, Cert (rangeL 0 n) (Ej es none) (mf p) A c Ls
theorem nb_eq {d : List (Int × List Int)} {es : List (Int × Int)} {w : Option Int} (h : ∀ u v, nb d u v ↔ Ej es w u v) : nb d = Ej es w := by
  funext u v
  exact propext (h u v)
theorem PD.nil (V : List Int) (E : Int → Int → Prop) : PD V E [] :=
  ⟨List.nodup_nil, fun v w e => (by cases e), ⟨fun v _ => rfl, fun v hv => hv, fun v _ e => absurd rfl e⟩⟩
theorem turn_ok {V : List Int} {E : Int → Int → Prop} {p : List (Int × Int)} {P : List Int} (G : Gk V E) (pd : PD V E p) (h : Aug V E (mf p) P) (hV : V.length ≤ 300) :
    Gets ((((some P).bind fun w8 => some ((w8).length : Int)).bind fun w9 => pdiv w9 (2 : Int)).bind fun w10 => prange 0 w10) fun xs => Gets (forP (fun (s11 : (List (Int × Int))) (x12 : Int) =>
  (((some P).bind fun w14 => ((pmul (2 : Int) x12).bind fun w13 => some (w13 + (1 : Int))).bind fun w15 => atI w14 w15).bind fun w19 => ((some P).bind fun w16 => (pmul (2 : Int) x12).bind fun w17 => atI w16 w17).bind fun w20 => dput s11 w20 w19).bind fun (z18 : (List (Int × Int))) =>
  (((some P).bind fun w21 => (pmul (2 : Int) x12).bind fun w22 => atI w21 w22).bind fun w27 => ((some P).bind fun w24 => ((pmul (2 : Int) x12).bind fun w23 => some (w23 + (1 : Int))).bind fun w25 => atI w24 w25).bind fun w28 => dput z18 w28 w27).bind fun (z26 : (List (Int × Int))) =>
  (some z26)) p xs) fun p' => PD V E p' ∧ df V (mf p') + 2 = df V (mf p) := by
  have big : BIG = 1000000 := rfl
  have lP := aug_len h
  have lp := pd.len
  obtain ⟨F1, F2⟩ := h.flip G pd.mt
  have e1 : (((some P).bind fun w8 => some ((w8).length : Int)).bind fun w9 => pdiv w9 (2 : Int)).bind (fun w10 => prange 0 w10) = some (rangeL 0 ((P.length : Int) / 2)) := by
    show ((pdiv (P.length : Int) 2).bind fun w10 => prange 0 w10) = _
    rw [pdiv_ok (by omega) (by omega)]
    show prange 0 _ = _
    rw [prange_ok (by omega) (by omega)]
  refine gets_eq e1 ?_
  refine gets_forP (fun dn s => (ky s).Nodup ∧ s.length ≤ p.length + 2 * dn.length ∧ ∀ v, look s v = if v ∈ P.take (2 * dn.length) then some (prs P v) else look p v) ⟨pd.nd, Nat.le_refl _, fun v => by simp⟩ ?_ ?_
  · rintro dn x rs s hs ⟨i1, i2, i3⟩
    obtain ⟨hx, hd⟩ := range_at hs
    have hk : 2 * dn.length + 1 < P.length := by omega
    obtain ⟨a, b, C, t1, t2, t3, t4⟩ := two_at hk
    have nd := h.nd
    rw [t1] at nd
    have pe := prs_at (by rw [List.length_take]; omega) nd
    rw [← t1] at pe
    have hx' : x = ((dn.length : Nat) : Int) := by omega
    have m2 : pmul 2 x = some ((2 * dn.length : Nat) : Int) := by rw [pmul_ok (.inl (by decide)), hx']; simp
    have a1 : atI P ((2 * dn.length : Nat) : Int) = some a := atI_nat t2
    have a2 : atI P (((2 * dn.length : Nat) : Int) + 1) = some b := by
      have := atI_nat (i := 2 * dn.length + 1) t3
      simpa using this
    have l1 := put_len s a b
    have l2 := put_len (put s a b) b a
    have d1 : dput s a b = some (put s a b) := dput_ok (by omega)
    have d2 : dput (put s a b) b a = some (put (put s a b) b a) := dput_ok (by omega)
    refine gets_eq (x := put (put s a b) b a) ?_ ⟨put_nodup (put_nodup i1), ?_, fun v => ?_⟩
    · simp only [m2, a1, a2, d1, d2, Option.bind_some]
    · simp; omega
    · rw [look_put, look_put, i3]
      have e4 : (dn ++ [x]).length = dn.length + 1 := by simp
      rw [e4, t4]
      by_cases z1 : v = b
      · subst z1
        rw [if_pos rfl, if_pos (by simp), pe.2]
      · rw [if_neg z1]
        by_cases z2 : v = a
        · subst z2
          rw [if_pos rfl, if_pos (by simp), pe.1]
        · rw [if_neg z2]
          have : v ∈ P.take (2 * dn.length) ++ [a, b] ↔ v ∈ P.take (2 * dn.length) := by simp [z1, z2]
          simp only [this]
  · rintro s ⟨i1, i2, i3⟩
    have ht : P.take (2 * (rangeL 0 ((P.length : Int) / 2)).length) = P := by
      refine List.take_of_length_le ?_
      rw [rangeL_length]
      have := h.ev
      omega
    rw [ht] at i3
    have hm : ∀ v, mf s v = if v ∈ P then prs P v else mf p v := fun v => by
      by_cases q : v ∈ P
      · rw [if_pos q, mf_some (by rw [i3, if_pos q])]
      · rw [if_neg q]
        unfold mf
        rw [i3, if_neg q]
    have hf : mf s = fun v => if v ∈ P then prs P v else mf p v := funext hm
    refine ⟨⟨i1, fun v w e => ?_, by rw [hf]; exact F1⟩, by rw [hf]; exact F2⟩
    rw [i3] at e
    by_cases q : v ∈ P
    · rw [if_pos q] at e
      cases e
      exact ⟨prs_ne h.nd h.ev q, h.sub v q⟩
    · rw [if_neg q] at e
      exact pd.ne v w e
theorem m_greatest_of_ok {n : Int} {es : List (Int × Int)} (h : EdOk n es) (h0 : 0 ≤ n) (h1 : n ≤ 20) : Gets (m_greatest_of (n, es, ())) fun r => ∃ p, r = DK.mk p ∧ GrOk n es p := by
  obtain ⟨d, e1, D, hk, hn⟩ := m_neighbours_ok h (by omega) h0 none
  have hk : ky d = rangeL 0 n := by rw [hk, List.filter_eq_self.mpr fun x _ => by simp]
  have ld : d.length ≤ 20 := by
    have := congrArg List.length hk
    rw [rangeL_length] at this
    simp at this
    omega
  have lk : (ky d).length = d.length := by simp
  have ltn : ∀ v ∈ ky d, v < n := fun v hv => by rw [hk] at hv; exact (mem_rangeL.mp hv).2
  have bet := x_better_ok 12 (Nat.le_refl _)
  unfold m_greatest_of mb_greatest_of
  refine gets_bind ?_
  refine gets_step (x := DK.mk d) e1 ?_
  refine gets_step rfl ?_
  refine gets_bind (gets_mono (bet d [] n D (PD.nil _ _) ltn (by omega)) ?_)
  intro r0 hr0
  refine gets_bind ?_
  refine gets_whileP (fun s => PD (ky d) (nb d) s.1 ∧ Res d s.1 s.2) (fun s => df (ky d) (mf s.1)) ⟨PD.nil _ _, hr0⟩ ?_ ?_
  · have : df (ky d) (mf []) ≤ (ky d).length := List.countP_le_length
    show df (ky d) (mf []) < 1000
    omega
  · rintro ⟨p, o⟩ ⟨pd, hr⟩
    simp only at pd hr
    refine gets_some ⟨fun ho => ?_, fun ho => ?_⟩
    · cases o with
      | none => cases ho
      | some P =>
        refine gets_bind (gets_bind (gets_mono (turn_ok D.gk pd hr (by rw [List.length_map]; omega)) ?_))
        intro xs hxs
        refine gets_mono hxs ?_
        intro p' ⟨pd', hdf⟩
        have hdf : df (ky d) (mf p') + 2 = df (ky d) (mf p) := hdf
        refine gets_bind (gets_mono (bet d p' n D pd' ltn (by omega)) ?_)
        intro r1 hr1
        refine gets_some ⟨⟨pd', hr1⟩, ?_⟩
        show df (ky d) (mf p') < df (ky d) (mf p)
        omega
    · cases o with
      | some P => cases ho
      | none =>
        refine gets_step rfl (gets_some ⟨_, rfl, p, rfl, ?_⟩)
        unfold GrOk
        rw [← hk, ← nb_eq hn]
        exact ⟨pd, hr⟩
theorem m_greatest_ok {n : Int} {es : List (Int × Int)} (h : EdOk n es) (h0 : 0 ≤ n) (h1 : n ≤ 20) (hl : es.length ≤ 1000) : Gets (m_greatestJ (n, es, ())) fun r => ∃ p, r = .ok ((rangeL 0 n).map fun v => look p v) ∧ GrOk n es p := by
  unfold m_greatestJ mb_greatestJ
  refine gets_bind (gets_flb ?_)
  have e1 := m_check_web_ok h h0 h1 hl
  show Gets (Option.bind (Option.bind (m_check_webJ (n, es, ())) _) _) _
  rw [e1]
  refine gets_some ?_
  refine gets_bind (gets_mono (m_greatest_of_ok h h0 h1) ?_)
  rintro r ⟨p, hr, hp⟩
  subst hr
  have e2 : prange 0 n = some (rangeL 0 n) := prange_ok (by omega) (by omega)
  have e3 : lcB (fun (x2 : Int) => (some true)) (fun (x2 : Int) => (some (look p x2))) (rangeL 0 n) = some ((rangeL 0 n).map fun v => look p v) := by
    rw [lcB_ok (fun _ => true) (fun v => look p v) (by rw [rangeL_length]; simp [BIG]; omega) (fun _ _ => rfl) (fun _ _ _ => rfl), List.filter_eq_self.mpr fun _ _ => rfl]
  refine gets_bind (gets_step e2 ?_)
  refine gets_eq e3 ?_
  exact gets_some ⟨_, rfl, p, rfl, hp⟩
end Sim

set_option autoImplicit false
set_option linter.all false
set_option maxRecDepth 100000
namespace Sim
open PySem L2 Bl
/-! ### nodes that are missed by some -/
/-- f is a greatest pairing -/
def Gt (V : List Int) (E : Int → Int → Prop) (f : Int → Int) : Prop := Mt V E f ∧ ∀ g, Mt V E g → df V f ≤ df V g
def Ms (V : List Int) (E : Int → Int → Prop) (v : Int) : Prop := ∃ g, Gt V E g ∧ g v = v
noncomputable def msB (V : List Int) (E : Int → Int → Prop) (v : Int) : Bool := @decide (Ms V E v) (Classical.propDecidable _)
theorem msB_t {V : List Int} {E : Int → Int → Prop} {v : Int} : msB V E v = true ↔ Ms V E v := by unfold msB; simp
theorem Mt.mem {V V' : List Int} {E E' : Int → Int → Prop} {f : Int → Int} (m : Mt V E f) (h : ∀ x, x ∈ V' ↔ x ∈ V) (hE : ∀ u v, u ∈ V' → v ∈ V' → E u v → E' u v) : Mt V' E' f :=
  ⟨fun v hv => m.inv v ((h v).mp hv), fun v hv => (h _).mpr (m.inn v ((h v).mp hv)), fun v hv q => hE _ _ hv ((h _).mpr (m.inn v ((h v).mp hv))) (m.ed v ((h v).mp hv) q)⟩
theorem less_perm {V : List Int} (nd : V.Nodup) {x : Int} (hx : x ∈ V) : V.Perm (x :: V.filter fun v => !decide (v = x)) := by
  refine (List.perm_ext_iff_of_nodup nd ?_).mpr fun a => ?_
  · exact List.nodup_cons.mpr ⟨by simp, nd_filter _ nd⟩
  · rw [List.mem_cons, List.mem_filter]
    constructor
    · intro h
      by_cases q : a = x
      · exact .inl q
      · exact .inr ⟨h, by simp [q]⟩
    · rintro (h | h)
      · rw [h]; exact hx
      · exact h.1
/-- the pairings of a web without a node, and those of the web that leave the node -/
theorem mt_ext {V : List Int} {E : Int → Int → Prop} (nd : V.Nodup) {x : Int} (hx : x ∈ V) {f : Int → Int} (m : Mt (V.filter fun v => !decide (v = x)) E f) : Mt V E (fun v => if v = x then x else f v) ∧ df V (fun v => if v = x then x else f v) = df (V.filter fun v => !decide (v = x)) f + 1 := by
  have p := less_perm nd hx
  obtain ⟨a, b⟩ := mt_skip (x := x) (r := V.filter fun v => !decide (v = x)) (by simp) m
  exact ⟨Mt.mem a (fun y => p.mem_iff) fun _ _ _ _ h => h, by unfold df at b ⊢; rw [p.countP_eq]; exact b⟩
theorem mt_res {V : List Int} {E : Int → Int → Prop} (nd : V.Nodup) {x : Int} (hx : x ∈ V) {f : Int → Int} (m : Mt V E f) (h : f x = x) : Mt (V.filter fun v => !decide (v = x)) E f ∧ df V f = df (V.filter fun v => !decide (v = x)) f + 1 := by
  have p := less_perm nd hx
  obtain ⟨a, b⟩ := mt_less1 (x := x) (r := V.filter fun v => !decide (v = x)) (by simp) (Mt.mem m (fun y => p.mem_iff.symm) fun _ _ _ _ h => h) h
  exact ⟨a, by unfold df at b ⊢; rw [p.countP_eq]; exact b⟩
theorem GrOk.gt {n : Int} {es p : _} (h : GrOk n es p) : Gt (rangeL 0 n) (Ej es none) (mf p) := by
  obtain ⟨pd, A, c, Ls, C⟩ := h
  exact ⟨pd.mt, fun g mg => C.le (rangeL_nodup 0 n) mg⟩
theorem m_missed_ok {n : Int} {es : List (Int × Int)} (h : EdOk n es) (h0 : 0 ≤ n) (h1 : n ≤ 20) (hl : es.length ≤ 1000) :
    Gets (m_missed_by_someJ (n, es, ())) fun r => r = .ok ((rangeL 0 n).filter (msB (rangeL 0 n) (Ej es none))) := by
  have big : BIG = 1000000 := rfl
  have nV := rangeL_nodup 0 n
  have lV : (rangeL 0 n).length ≤ 20 := by rw [rangeL_length]; omega
  unfold m_missed_by_someJ mb_missed_by_someJ
  refine gets_bind (gets_flb ?_)
  have e1 := m_check_web_ok h h0 h1 hl
  show Gets (Option.bind (Option.bind (m_check_webJ (n, es, ())) _) _) _
  rw [e1]
  refine gets_some ?_
  refine gets_bind (gets_mono (m_greatest_of_ok h h0 h1) ?_)
  rintro r ⟨p, hr, hp⟩
  subst hr
  have hp : GrOk n es p := hp
  have gt := GrOk.gt hp
  have pd := hp.1
  have lp := pd.len
  refine gets_step rfl ?_
  have e2 : prange 0 n = some (rangeL 0 n) := prange_ok (by omega) (by omega)
  refine gets_bind (gets_step e2 ?_)
  refine gets_forP (fun dn s => s = dn.filter (msB (rangeL 0 n) (Ej es none))) rfl ?_ ?_
  · rintro dn x rs s hs hi
    subst hi
    have xV : x ∈ rangeL 0 n := by rw [hs]; simp
    have xB := mem_rangeL.mp xV
    have ld := congrArg List.length hs
    simp at ld
    have ls : (dn.filter (msB (rangeL 0 n) (Ej es none))).length ≤ dn.length := List.length_filter_le _ _
    have yes : Ms (rangeL 0 n) (Ej es none) x → push (dn.filter (msB (rangeL 0 n) (Ej es none))) x = some ((dn ++ [x]).filter (msB (rangeL 0 n) (Ej es none))) := fun q => by
      rw [push_ok (by omega), List.filter_append]
      simp [msB_t.mpr q]
    have no : ¬ Ms (rangeL 0 n) (Ej es none) x → dn.filter (msB (rangeL 0 n) (Ej es none)) = (dn ++ [x]).filter (msB (rangeL 0 n) (Ej es none)) := fun q => by
      have : msB (rangeL 0 n) (Ej es none) x = false := by
        cases z : msB (rangeL 0 n) (Ej es none) x with
        | false => rfl
        | true => exact absurd (msB_t.mp z) q
      rw [List.filter_append]
      simp [this]
    refine gets_bind ?_
    cases q : look p x with
    | none =>
      refine gets_step rfl ?_
      have hm : Ms (rangeL 0 n) (Ej es none) x := ⟨mf p, gt, mf_none q⟩
      refine gets_step (yes hm) ?_
      exact gets_some (gets_some rfl)
    | some w =>
      refine gets_step rfl ?_
      have hw := pd.ne x w q
      have fx : mf p x = w := mf_some q
      have fw : mf p w = x := by rw [← fx]; exact pd.mt.inv x xV
      have wV : w ∈ rangeL 0 n := by rw [← fx]; exact pd.mt.inn x xV
      -- the partners less these two
      let rest := ((p.map (·.1)).filter fun v => !decide (v = x) && !decide (v = w)).map fun v => (v, mf p v)
      have e3 : dcB (fun (x8 : Int) => ((andM (some (!decide (x8 = x))) ((some w).bind fun w9 => some (!decide (x8 = w9)))))) (fun (x8 : Int) => (some x8)) (fun (x8 : Int) => (look p x8)) (p.map (·.1)) = some rest := by
        refine dcB_ok (fun v => !decide (v = x) && !decide (v = w)) (fun v => v) (mf p) (by rw [List.length_map]; omega) (fun v _ => ?_) (fun v hv _ => ⟨rfl, ?_⟩) ?_
        · by_cases z : v = x <;> simp [andM, z]
        · have := look_some_mem.mpr hv
          rw [pd.look] at this ⊢
          split
          · rw [if_pos ‹_›] at this; cases this
          · rfl
        · rw [filter_map_id]
          exact nd_filter _ pd.nd
      have lkr : ∀ v, look rest v = if mf p v = v ∨ v = x ∨ v = w then none else some (mf p v) := fun v => by
        show look (List.map _ _) v = _
        rw [look_map_self]
        have hm : v ∈ (p.map (·.1)).filter (fun v => !decide (v = x) && !decide (v = w)) ↔ ¬ (mf p v = v ∨ v = x ∨ v = w) := by
          rw [List.mem_filter, ← look_some_mem, pd.look]
          by_cases z : mf p v = v
          · simp [z]
          · simp [z]
        by_cases z : mf p v = v ∨ v = x ∨ v = w
        · rw [if_pos z, if_neg fun y => hm.mp y z]
        · rw [if_neg z, if_pos (hm.mpr z)]
      obtain ⟨d, e4, D, hk, hn⟩ := m_neighbours_ok h (by omega) h0 (some x)
      have hk' : ky d = (rangeL 0 n).filter fun v => !decide (v = x) := by
        rw [hk]
        refine List.filter_congr fun v _ => ?_
        simp
      have memV' : ∀ v, v ∈ ky d ↔ v ∈ rangeL 0 n ∧ v ≠ x := fun v => by rw [hk']; simp
      have nbE : ∀ u v, nb d u v ↔ Ej es none u v ∧ u ≠ x ∧ v ≠ x := fun u v => by
        rw [hn]
        unfold Ej
        constructor
        · rintro ⟨a, b, c⟩
          exact ⟨⟨by simp, by simp, c⟩, fun z => a (by rw [z]), fun z => b (by rw [z])⟩
        · rintro ⟨⟨_, _, c⟩, a, b⟩
          exact ⟨fun z => a (Option.some.inj z), fun z => b (Option.some.inj z), c⟩
      have mfr : ∀ v ∈ ky d, mf rest v = if v = w then w else mf p v := fun v hv => by
        have hv' := (memV' v).mp hv
        by_cases z : v = w
        · rw [if_pos z, mf_none (by rw [lkr, if_pos (.inr (.inr z))]), z]
        · rw [if_neg z]
          by_cases y : mf p v = v
          · rw [mf_none (by rw [lkr, if_pos (.inl y)]), y]
          · rw [mf_some (w := mf p v) (by rw [lkr, if_neg (by simp [y, hv'.2, z])])]
      have fne : ∀ v ∈ ky d, v ≠ w → mf p v ≠ x ∧ mf p v ≠ w := fun v hv z => by
        have hv' := (memV' v).mp hv
        have inv := pd.mt.inv v hv'.1
        constructor
        · intro y; rw [y, fx] at inv; exact z inv.symm
        · intro y; rw [y, fw] at inv; exact hv'.2 inv.symm
      have mr : Mt (ky d) (nb d) (mf rest) := by
        refine Mt.congr (f := fun v => if v = w then w else mf p v) ⟨fun v hv => ?_, fun v hv => ?_, fun v hv => ?_⟩ mfr
        · have hv' := (memV' v).mp hv
          by_cases z : v = w
          · simp [z]
          · simp [z, (fne v hv z).2, pd.mt.inv v hv'.1]
        · have hv' := (memV' v).mp hv
          by_cases z : v = w
          · rw [if_pos z]; exact (memV' w).mpr ⟨wV, hw.1⟩
          · rw [if_neg z]; exact (memV' _).mpr ⟨pd.mt.inn v hv'.1, (fne v hv z).1⟩
        · have hv' := (memV' v).mp hv
          by_cases z : v = w
          · simp [z]
          · simp only [z, if_false]
            exact fun y => (nbE _ _).mpr ⟨pd.mt.ed v hv'.1 y, hv'.2, (fne v hv z).1⟩
      have hdf : df (ky d) (mf rest) = df (rangeL 0 n) (mf p) + 1 := by
        have p1 := less_perm nV xV
        rw [← hk'] at p1
        have ndK : (ky d).Nodup := D.gk.nd
        have p2 := less_perm ndK ((memV' w).mpr ⟨wV, hw.1⟩)
        unfold df
        rw [p1.countP_eq, List.countP_cons, if_neg (by rw [un_t, fx]; exact hw.1), p2.countP_eq, p2.countP_eq, List.countP_cons, List.countP_cons, if_pos (by rw [un_t, mfr w ((memV' w).mpr ⟨wV, hw.1⟩), if_pos rfl]), if_neg (by rw [un_t, fw]; exact Ne.symm hw.1)]
        have : ((ky d).filter fun v => !decide (v = w)).countP (un (mf rest)) = ((ky d).filter fun v => !decide (v = w)).countP (un (mf p)) := List.countP_congr fun v hv => by
          have hv' := List.mem_filter.mp hv
          have z : v ≠ w := by simpa using hv'.2
          rw [un_t, un_t, mfr v hv'.1, if_neg z]
        rw [this]
      have pdr : PD (ky d) (nb d) rest := by
        refine ⟨?_, fun v u e => ?_, mr⟩
        · show (List.map _ (List.map _ _)).Nodup
          rw [List.map_map]
          show (List.map (fun x => x) _).Nodup
          rw [filter_map_id]
          exact nd_filter _ pd.nd
        · rw [lkr] at e
          by_cases z : mf p v = v ∨ v = x ∨ v = w
          · rw [if_pos z] at e; cases e
          · rw [if_neg z] at e
            cases e
            have z' := not_or.mp z
            have z2 := not_or.mp z'.2
            refine ⟨z'.1, (memV' v).mpr ⟨?_, z2.1⟩⟩
            have := pd.look v
            rw [if_neg z'.1] at this
            exact (pd.ne v _ this).2
      have ld' : d.length ≤ 20 := by
        have := congrArg List.length hk'
        have l2 := List.length_filter_le (fun v => !decide (v = x)) (rangeL 0 n)
        simp at this
        omega
      have ltn : ∀ v ∈ ky d, v < n := fun v hv => (mem_rangeL.mp ((memV' v).mp hv).1).2
      refine gets_step e3 ?_
      refine gets_bind (gets_bind (gets_bind (gets_step (x := (DK.mk d, DK.mk rest, n, ())) ?_ ?_)))
      · simp only [b2, Option.bind_some, e4]
      refine gets_mono (x_better_ok 12 (Nat.le_refl _) d rest n D pdr ltn (by omega)) ?_
      intro o ho
      refine gets_some ?_
      have toE : ∀ g, Mt (ky d) (nb d) g → Mt ((rangeL 0 n).filter fun v => !decide (v = x)) (Ej es none) g := fun g mg => Mt.mem mg (fun y => by rw [hk']) fun u v _ _ e => ((nbE u v).mp e).1
      cases o with
      | none =>
        obtain ⟨A, c, Ls, C⟩ := ho
        have hno : ¬ Ms (rangeL 0 n) (Ej es none) x := fun ⟨g, hg, gx⟩ => by
          obtain ⟨a, b⟩ := mt_res nV xV hg.1 gx
          have mg : Mt (ky d) (nb d) g := Mt.mem a (fun y => by rw [hk']) fun u v hu hv e => (nbE u v).mpr ⟨e, ((memV' u).mp hu).2, ((memV' v).mp hv).2⟩
          have c1 := C.le D.gk.nd mg
          rw [hdf] at c1
          rw [← hk'] at b
          have c2 := hg.2 (mf p) pd.mt
          have c1 : df (rangeL 0 n) (mf p) + 1 ≤ df (ky d) g := c1
          omega
        refine gets_some (gets_some (gets_some ?_))
        exact no hno
      | some P =>
        obtain ⟨f1, f2⟩ := ho.flip D.gk pdr.mt
        obtain ⟨a, b⟩ := mt_ext nV xV (toE _ f1)
        rw [← hk'] at b
        have f2 : df (ky d) (fun v => if v ∈ P then prs P v else mf rest v) + 2 = df (ky d) (mf rest) := f2
        have hyes : Ms (rangeL 0 n) (Ej es none) x := ⟨_, ⟨a, fun g mg => by
          have := gt.2 g mg
          rw [b]
          omega⟩, by simp⟩
        refine gets_step (yes hyes) ?_
        exact gets_some (gets_some (gets_some rfl))
  · rintro s hi
    subst hi
    exact gets_some ⟨_, rfl, rfl⟩
end Sim

set_option autoImplicit false
set_option linter.all false
set_option maxRecDepth 100000
namespace Sim
open PySem L2 Bl
/-! ### what the law draws -/
theorem cell_ok (ns : List Int) {k : Int} (h0 : 0 ≤ k) (h1 : k < 100000) : ∃ c, m__law_cell (⟨ns⟩, k, ()) = some c := by
  unfold m__law_cell mb__law_cell
  by_cases h : k < (ns.length : Int)
  · obtain ⟨x, hx⟩ : ∃ x, ns[k.toNat]? = some x := ⟨ns[k.toNat]'(by omega), List.getElem?_eq_getElem _⟩
    have e : atI ns k = some x := by
      have := atI_nat hx
      rwa [Int.toNat_of_nonneg h0] at this
    refine ⟨x, ?_⟩
    simp only [h, decide_true, Option.bind_some, if_true, e, flb]
    rfl
  · refine ⟨23 * k + 1, ?_⟩
    simp only [h, decide_false, Option.bind_some, Bool.false_eq_true, if_false, flb]
    rw [pmul_ok (.inl (by decide))]
    rfl
theorem pairs_nodup {es : List (Int × Int)} {n : Int} (nd : es.Nodup) (h : ∀ e ∈ es, 0 ≤ e.1 ∧ e.1 < n ∧ 0 ≤ e.2 ∧ e.2 < n) (hn : n ≤ 200) : es.length ≤ 40000 := by
  have hm : (es.map fun e => e.1 * 200 + e.2).Nodup := by
    have : ∀ L : List (Int × Int), (∀ e ∈ L, e ∈ es) → L.Nodup → (L.map fun e => e.1 * 200 + e.2).Nodup := by
      intro L
      induction L with
      | nil => intro _ _; exact List.nodup_nil
      | cons a r ih =>
        intro h1 h2
        rw [List.map_cons, List.nodup_cons]
        refine ⟨fun hx => ?_, ih (fun e he => h1 e (by simp [he])) (List.nodup_cons.mp h2).2⟩
        obtain ⟨b, hb, q⟩ := List.mem_map.mp hx
        have ha := h a (h1 a (by simp))
        have hb2 := h b (h1 b (by simp [hb]))
        have e1 : a.1 = b.1 := by omega
        have e2 : a.2 = b.2 := by omega
        exact (List.nodup_cons.mp h2).1 (by rw [show a = b from Prod.ext e1 e2]; exact hb)
    exact this es (fun _ h => h) nd
  have := hm.length_le_of_subset (l₂ := rangeL 0 40000) fun x hx => by
    obtain ⟨e, he, q⟩ := List.mem_map.mp hx
    have := h e he
    rw [mem_rangeL]
    omega
  rw [rangeL_length] at this
  simpa using this
theorem EdOk.len {n : Int} {es : List (Int × Int)} (h : EdOk n es) (hn : n ≤ 200) : es.length ≤ 40000 := pairs_nodup h.nd (fun e he => by have := h.ok e he; omega) hn
theorem m_law_edges_ok (ns : List Int) {at' n dn : Int} (ha : 0 ≤ at') (ha2 : at' ≤ 1000) (h0 : 0 ≤ n) (h1 : n ≤ 20) (hd : 0 < dn) (hd2 : dn < 1000) : Gets (m__law_edges (⟨ns⟩, at', n, dn, ())) (EdOk n) := by
  have big : BIG = 1000000 := rfl
  unfold m__law_edges mb__law_edges
  refine gets_bind (gets_step rfl ?_)
  refine gets_bind ?_
  have e1 : prange 0 n = some (rangeL 0 n) := prange_ok (by omega) (by omega)
  refine gets_step e1 ?_
  refine gets_forP (fun done es => es.Nodup ∧ ∀ e ∈ es, (0 ≤ e.1 ∧ e.1 < e.2 ∧ e.2 < n) ∧ e.1 ∈ done) ⟨List.nodup_nil, by simp⟩ ?_ ?_
  · rintro done x rs es hs ⟨i1, i2⟩
    obtain ⟨hx, hx2⟩ := range_at hs
    have nr := rangeL_nodup 0 n
    rw [hs] at nr
    have xd : x ∉ done := fun q => (List.nodup_append.mp nr).2.2 x q x (by simp) rfl
    have hxn : x < n := by omega
    obtain ⟨c, hc⟩ := cell_ok ns (k := at' + x) (by omega) (by omega)
    refine gets_step (x := c) hc ?_
    have e2 : prange (x + 1) n = some (rangeL (x + 1) n) := prange_ok (by omega) (by omega)
    refine gets_bind (gets_step e2 ?_)
    refine gets_forP (fun done2 s => s.1.Nodup ∧ ∀ e ∈ s.1, (0 ≤ e.1 ∧ e.1 < e.2 ∧ e.2 < n) ∧ (e.1 ∈ done ∨ (e.1 = x ∧ e.2 ∈ done2))) ⟨i1, fun e he => ⟨(i2 e he).1, .inl (i2 e he).2⟩⟩ ?_ ?_
    · rintro done2 y rs2 ⟨es2, rest⟩ hs2 ⟨j1, j2⟩
      simp only at j1 j2
      obtain ⟨hy, hy2⟩ := range_at hs2
      have nr2 := rangeL_nodup (x + 1) n
      rw [hs2] at nr2
      have yd : y ∉ done2 := fun q => (List.nodup_append.mp nr2).2.2 y q y (by simp) rfl
      have ll : es2.length ≤ 40000 := EdOk.len (n := n) ⟨j1, fun e he => (j2 e he).1⟩ (by omega)
      have m1 : pmul x y = some (x * y) := pmul_ok (.inl (by omega))
      have m2 : ∀ z, pmod z dn = some (z % dn) := fun z => pmod_ok hd
      have m3 : pdiv rest dn = some (rest / dn) := pdiv_ok hd (by omega)
      show Gets (Option.bind (Option.bind (Option.bind (Option.bind (Option.bind (pmul x y) _) _) _) _) _) _
      rw [m1]
      show Gets (Option.bind (Option.bind (Option.bind (pmod _ dn) _) _) _) _
      rw [m2]
      show Gets (Option.bind (if _ = true then _ else _) _) _
      have fin : ∀ q : List (Int × Int), q.Nodup → (∀ e ∈ q, (0 ≤ e.1 ∧ e.1 < e.2 ∧ e.2 < n) ∧ (e.1 ∈ done ∨ (e.1 = x ∧ e.2 ∈ done2 ++ [y]))) → Gets (((pdiv rest dn).bind fun w13 => some (w13 + y)).bind fun (z12 : Int) => some (q, z12)) fun s => s.1.Nodup ∧ ∀ e ∈ s.1, (0 ≤ e.1 ∧ e.1 < e.2 ∧ e.2 < n) ∧ (e.1 ∈ done ∨ (e.1 = x ∧ e.2 ∈ done2 ++ [y])) := fun q q1 q2 => by
        rw [m3]
        exact gets_some ⟨q1, q2⟩
      have keep : ∀ e ∈ es2, (0 ≤ e.1 ∧ e.1 < e.2 ∧ e.2 < n) ∧ (e.1 ∈ done ∨ (e.1 = x ∧ e.2 ∈ done2 ++ [y])) := fun e he => ⟨(j2 e he).1, (j2 e he).2.imp_right fun q => ⟨q.1, by simp [q.2]⟩⟩
      split
      · rw [push_ok (by show es2.length + 1 ≤ BIG; omega)]
        refine fin _ ?_ ?_
        · rw [List.nodup_append]
          exact ⟨j1, by simp, fun a ha b hb e => by
            simp at hb
            subst hb
            subst e
            rcases (j2 _ ha).2 with q | q
            · exact xd q
            · exact yd q.2⟩
        · intro e he
          rcases List.mem_append.mp he with q | q
          · exact keep e q
          · have : e = (x, y) := by simpa using q
            subst this
            exact ⟨⟨by show 0 ≤ x; omega, by show x < y; omega, by show y < n; omega⟩, .inr ⟨rfl, by simp⟩⟩
      · exact fin _ j1 keep
    · rintro ⟨es2, rest⟩ ⟨j1, j2⟩
      simp only at j1 j2
      refine gets_some ⟨j1, fun e he => ⟨(j2 e he).1, ?_⟩⟩
      rcases (j2 e he).2 with q | q
      · simp [q]
      · simp [q.1]
  · rintro es ⟨i1, i2⟩
    exact gets_some ⟨es, rfl, ⟨i1, fun e he => (i2 e he).1⟩⟩
theorem getElem_eraseIdx_perm {α : Type} : ∀ {l : List α} {j : Nat} (h : j < l.length), (l[j] :: l.eraseIdx j).Perm l
  | [], _, h => absurd h (Nat.not_lt_zero _)
  | a :: r, 0, h => .refl _
  | a :: r, j + 1, h => by
    have hj : j < r.length := by simpa using h
    have ih := getElem_eraseIdx_perm (l := r) (j := j) hj
    show (r[j] :: a :: r.eraseIdx j).Perm (a :: r)
    exact (List.Perm.swap _ _ _).trans (List.Perm.cons a ih)
theorem m_law_turned_ok {es : List TT} (c : Int) (hl : es.length ≤ 40000) : Gets (m__law_turned (es, c, ())) fun r => r.Perm es := by
  have big : BIG = 1000000 := rfl
  unfold m__law_turned mb__law_turned
  refine gets_bind (gets_step rfl (gets_step rfl ?_))
  have e1 : prange 0 (es.length : Int) = some (rangeL 0 (es.length : Int)) := prange_ok (by omega) (by omega)
  refine gets_bind (gets_step e1 ?_)
  refine gets_forP (fun done s => (s.2 ++ s.1).Perm es ∧ s.2.length = done.length) ⟨.refl _, rfl⟩ ?_ ?_
  · rintro done k rs ⟨left, turned⟩ hs ⟨i1, i2⟩
    simp only at i1 i2
    obtain ⟨hk, hk2⟩ := range_at hs
    have ln := i1.length_eq
    simp at ln
    have hk3 : 0 < left.length := by omega
    have d1 : pdiv c (k + 1) = some (c / (k + 1)) := pdiv_ok (by omega) (by omega)
    have d2 : pmod (c / (k + 1)) (left.length : Int) = some ((c / (k + 1)) % (left.length : Int)) := pmod_ok (by omega)
    have j0 : 0 ≤ (c / (k + 1)) % (left.length : Int) := Int.emod_nonneg _ (by omega)
    have j1 : (c / (k + 1)) % (left.length : Int) < (left.length : Int) := Int.emod_lt_of_pos _ (by omega)
    obtain ⟨j, hj⟩ : ∃ j : Nat, (c / (k + 1)) % (left.length : Int) = (j : Int) := ⟨_, (Int.toNat_of_nonneg j0).symm⟩
    have hjl : j < left.length := by omega
    have p1 : ppopAt left (j : Int) = some (left[j], left.eraseIdx j) := ppopAt_ok (by omega) (List.getElem?_eq_getElem hjl)
    show Gets (Option.bind (Option.bind (Option.bind (Option.bind (pdiv c (k + 1)) _) _) _) _) _
    rw [d1]
    show Gets (Option.bind (Option.bind (Option.bind (pmod _ (left.length : Int)) _) _) _) _
    rw [d2, hj]
    show Gets (Option.bind (Option.bind (ppopAt left (j : Int)) _) _) _
    rw [p1]
    show Gets (Option.bind (Option.bind (push turned left[j]) _) _) _
    rw [push_ok (by omega)]
    refine gets_some ⟨?_, by simp [i2]⟩
    refine List.Perm.trans ?_ i1
    show (turned ++ [left[j]] ++ left.eraseIdx j).Perm (turned ++ left)
    rw [List.append_assoc]
    exact List.Perm.append_left turned (getElem_eraseIdx_perm hjl)
  · rintro ⟨left, turned⟩ ⟨i1, i2⟩
    simp only at i1 i2
    rw [rangeL_length] at i2
    have ln := i1.length_eq
    simp at ln i2
    have : left = [] := List.length_eq_zero_iff.mp (by omega)
    subst this
    rw [List.append_nil] at i1
    exact gets_some ⟨turned, rfl, i1⟩
theorem EdOk.perm {n : Int} {es es' : List (Int × Int)} (h : EdOk n es) (p : es'.Perm es) : EdOk n es' := ⟨p.nodup_iff.mpr h.nd, fun e he => h.ok e (p.mem_iff.mp he)⟩
theorem Ej.perm {es es' : List (Int × Int)} (p : es'.Perm es) (w : Option Int) : Ej es' w = Ej es w := by
  funext u v
  unfold Ej
  rw [p.mem_iff, p.mem_iff]
end Sim

set_option autoImplicit false
set_option linter.all false
set_option maxRecDepth 100000
namespace Sim
open PySem L2 Bl
theorem rangeL_sorted' (lo hi : Int) : (rangeL lo hi).Pairwise (· < ·) := by
  unfold rangeL
  rw [List.pairwise_map]
  exact List.pairwise_lt_range.imp fun {a b} h => by omega
theorem EdOk.len20 {n : Int} {es : List (Int × Int)} (h : EdOk n es) (hn : n ≤ 20) : es.length ≤ 400 := by
  have nd : (es.map fun e => e.1 * 20 + e.2).Nodup := by
    have : ∀ L : List (Int × Int), (∀ e ∈ L, e ∈ es) → L.Nodup → (L.map fun e => e.1 * 20 + e.2).Nodup := by
      intro L
      induction L with
      | nil => intro _ _; exact List.nodup_nil
      | cons a r ih =>
        intro g1 g2
        rw [List.map_cons, List.nodup_cons]
        refine ⟨fun hx => ?_, ih (fun e he => g1 e (by simp [he])) (List.nodup_cons.mp g2).2⟩
        obtain ⟨b, hb, q⟩ := List.mem_map.mp hx
        have ha := h.ok a (g1 a (by simp))
        have hb2 := h.ok b (g1 b (by simp [hb]))
        have x1 : a.1 = b.1 := by omega
        have x2 : a.2 = b.2 := by omega
        exact (List.nodup_cons.mp g2).1 (by rw [show a = b from Prod.ext x1 x2]; exact hb)
    exact this es (fun _ h => h) h.nd
  have := nd.length_le_of_subset (l₂ := rangeL 0 400) fun x hx => by
    obtain ⟨e, he, q⟩ := List.mem_map.mp hx
    have := h.ok e he
    rw [mem_rangeL]
    omega
  rw [rangeL_length] at this
  simpa using this
theorem gr_count {n : Int} {es p : _} (h : GrOk n es p) : ((rangeL 0 n).map fun v => look p v).countP (fun y => decide (y = none)) = df (rangeL 0 n) (mf p) := by
  rw [List.countP_map]
  refine List.countP_congr fun v _ => ?_
  show decide (look p v = none) = true ↔ _
  have := h.1.look v
  by_cases q : mf p v = v
  · rw [this, if_pos q]; simp [un, q]
  · rw [this, if_neg q]; simp [un, q]
theorem Gt.best {V : List Int} {E : Int → Int → Prop} (nd : V.Nodup) {f : Int → Int} (g : Gt V E f) : ∃ m, Best E V m ∧ V.length = df V f + 2 * m := by
  obtain ⟨k, hk⟩ := mt_par nd g.1
  exact ⟨k, ⟨⟨f, g.1, hk⟩, fun h mh => by have := g.2 h mh; omega⟩, hk⟩
theorem ms_best {V : List Int} {E : Int → Int → Prop} {m : Nat} (b : Best E V m) {x : Int} : Ms V E x ↔ ∃ f, Mt V E f ∧ V.length = df V f + 2 * m ∧ f x = x := by
  constructor
  · rintro ⟨f, g, q⟩
    obtain ⟨h, h1, h2⟩ := b.1
    have := g.2 h h1
    have := b.2 f g.1
    exact ⟨f, g.1, by omega, q⟩
  · rintro ⟨f, f1, f2, q⟩
    exact ⟨f, ⟨f1, fun h mh => by have := b.2 h mh; omega⟩, q⟩
theorem EdOk.best {n : Int} {es : List (Int × Int)} (h : EdOk n es) (h0 : 0 ≤ n) (h1 : n ≤ 20) : ∃ m, Best (Ej es none) (rangeL 0 n) m := by
  obtain ⟨r, _, p, _, hp⟩ := m_greatest_of_ok h h0 h1
  obtain ⟨m, hm, _⟩ := (GrOk.gt hp).best (rangeL_nodup 0 n)
  exact ⟨m, hm⟩
end Sim

set_option autoImplicit false
set_option linter.all false
set_option maxRecDepth 100000
namespace Sim
open PySem L2 Bl
def up (e : Int × Int) : Dy × Dy := (.i e.1, .i e.2)
theorem up_inj {a b : Int × Int} (h : up a = up b) : a = b := by
  obtain ⟨a1, a2⟩ := a
  obtain ⟨b1, b2⟩ := b
  have h1 := congrArg Prod.fst h
  have h2 := congrArg Prod.snd h
  have e1 : a1 = b1 := Dy.i.inj h1
  have e2 : a2 = b2 := Dy.i.inj h2
  rw [e1, e2]
theorem cst_up : ∀ es : List (Int × Int), cstL (Int × Int) (es.map up) = some es
  | [] => rfl
  | e :: r => by
    have ih := cst_up r
    show ((cst (Int × Int) (up e)).bind fun b => (cstL (Int × Int) (r.map up)).bind fun t => some (b :: t)) = some (e :: r)
    rw [ih]
    rfl
theorem cst_dn : ∀ es : List (Int × Int), cstL (Dy × Dy) es = some (es.map up)
  | [] => rfl
  | e :: r => by
    have ih := cst_dn r
    show ((cst (Dy × Dy) e).bind fun b => (cstL (Dy × Dy) r).bind fun t => some (b :: t)) = some (up e :: r.map up)
    rw [ih]
    rfl
def isNum (y : Dy) (m : Int) : Bool := match y with
  | .i n => decide (0 ≤ n ∧ n ≤ m)
  | _ => false
theorem is_num (y : Dy) (m : Int) : m_is_number (y, m, ()) = some (isNum y m) := by
  cases y with
  | i n =>
    show m_is_number (.i n, m, ()) = some (decide (0 ≤ n ∧ n ≤ m))
    unfold m_is_number mb_is_number
    by_cases h : (0 : Int) ≤ n
    · have e : andM (some (Dy.isI (.i n))) (andM (some (!(Dy.isB (.i n)))) ((cst Int (Dy.i n)).bind fun w1 => if decide ((0 : Int) ≤ w1) = true then some (decide (w1 ≤ m)) else some false)) = some (decide (n ≤ m)) := by
        show (if decide ((0 : Int) ≤ n) = true then some (decide (n ≤ m)) else some false) = _
        rw [if_pos (by simpa using h)]
      show Option.bind (Option.bind (andM _ _) _) _ = _
      rw [e]
      show some (decide (n ≤ m)) = _
      simp [h]
    · have e : andM (some (Dy.isI (.i n))) (andM (some (!(Dy.isB (.i n)))) ((cst Int (Dy.i n)).bind fun w1 => if decide ((0 : Int) ≤ w1) = true then some (decide (w1 ≤ m)) else some false)) = some false := by
        show (if decide ((0 : Int) ≤ n) = true then some (decide (n ≤ m)) else some false) = _
        rw [if_neg (by simpa using h)]
      show Option.bind (Option.bind (andM _ _) _) _ = _
      rw [e]
      show some false = _
      simp [h]
  | _ => rfl
def Good (c : Dy) (L : List (Dy × Dy)) : Prop := ∃ n es, c = .i n ∧ 0 ≤ n ∧ n ≤ 20 ∧ L = es.map up ∧ EdOk n es
theorem isNum_t {y : Dy} {m : Int} (h : isNum y m = true) : ∃ n, y = .i n ∧ 0 ≤ n ∧ n ≤ m := by
  cases y with
  | i n =>
    have h : decide (0 ≤ n ∧ n ≤ m) = true := h
    simp at h
    exact ⟨n, rfl, h.1, h.2⟩
  | _ => cases h
theorem check_ok (c : Dy) (L : List (Dy × Dy)) (hl : L.length ≤ 1000) : Gets (m_check_web (c, L, ())) fun r => (Good c L ∧ r = .ok ()) ∨ (¬ Good c L ∧ r = .error ⟨1, 0⟩) := by
  have big : BIG = 1000000 := rfl
  unfold m_check_web mb_check_web
  refine gets_bind (gets_flb ?_)
  show Gets (Option.bind (Option.bind (m_is_number (c, k_MOST_NODES, ())) _) _) _
  rw [is_num]
  refine gets_if (fun hb => ?_) (fun hb => ?_)
  · refine gets_some ⟨_, rfl, .inr ⟨?_, rfl⟩⟩
    rintro ⟨n, es, rfl, h0, h1, _⟩
    have : isNum (.i n) k_MOST_NODES = true := by
      show decide (0 ≤ n ∧ n ≤ k_MOST_NODES) = true
      have : n ≤ k_MOST_NODES := h1
      simp [h0, this]
    rw [this] at hb
    cases hb
  · have hb : isNum c k_MOST_NODES = true := by simpa using hb
    obtain ⟨n, rfl, h0, h1⟩ := isNum_t hb
    have h1 : n ≤ 20 := h1
    refine gets_some (gets_step rfl ?_)
    refine gets_flb (gets_step rfl ?_)
    refine gets_forF (fun dn s => ∃ es : List (Int × Int), dn = es.map up ∧ EdOk n es ∧ s.length ≤ dn.length ∧ ∀ e, (look s e).isSome = true ↔ e ∈ es) ⟨[], rfl, ⟨List.nodup_nil, by simp⟩, Nat.le_refl _, fun e => by simp [look]⟩ ?_ ?_
    · rintro dn ⟨p, q⟩ rs s hs ⟨es, rfl, i1, i2, i3⟩
      have hs : L = es.map up ++ (p, q) :: rs := hs
      have ln := congrArg List.length hs
      simp at ln
      -- a web that is good has here an edge that is new
      have good : Good (.i n) L → ∃ a b, p = .i a ∧ q = .i b ∧ (0 ≤ a ∧ a < b ∧ b < n) ∧ (a, b) ∉ es := by
        rintro ⟨n', es', e1, _, _, e2, e3⟩
        cases e1
        rw [hs] at e2
        have hm : (p, q) ∈ es'.map up := by rw [← e2]; simp
        obtain ⟨⟨a, b⟩, hab, e4⟩ := List.mem_map.mp hm
        cases e4
        refine ⟨a, b, rfl, rfl, e3.ok _ hab, fun hin => ?_⟩
        -- twice
        obtain ⟨l1, l2, e5, e6, e7⟩ := List.map_eq_append_iff.mp e2.symm
        obtain ⟨x, l3, e8, e9, e10⟩ := List.map_eq_cons_iff.mp e7
        have nd := e3.nd
        rw [e5, e8] at nd
        have ex : x = (a, b) := up_inj e9
        have e1l : l1 = es := (List.map_inj_right fun _ _ h => up_inj h).mp e6
        rw [ex, e1l] at nd
        exact (List.nodup_append.mp nd).2.2 _ hin (a, b) (by simp) rfl
      refine gets_flb (gets_some ?_)
      refine gets_flb ?_
      have e3 : orM (((b2 (some p) (b2 ((cst Int (Dy.i n)).bind fun w7 => some (w7 - (1 : Int))) (some ()) fun x t => some (x, t)) fun x t => some (x, t)).bind m_is_number).bind fun w8 => some (!w8)) (((b2 (some q) (b2 ((cst Int (Dy.i n)).bind fun w9 => some (w9 - (1 : Int))) (some ()) fun x t => some (x, t)) fun x t => some (x, t)).bind m_is_number).bind fun w10 => some (!w10)) = some (!isNum p (n - 1) || !isNum q (n - 1)) := by
        show orM (Option.bind (m_is_number (p, n - 1, ())) _) (Option.bind (m_is_number (q, n - 1, ())) _) = _
        rw [is_num, is_num]
        cases isNum p (n - 1) <;> rfl
      refine gets_step e3 ?_
      refine gets_if (fun hb => ?_) (fun hb => ?_)
      · refine gets_some ⟨_, rfl, .inr ⟨fun hg => ?_, rfl⟩⟩
        obtain ⟨a, b, rfl, rfl, hab, _⟩ := good hg
        have z1 : isNum (.i a) (n - 1) = true := by
          show decide (0 ≤ a ∧ a ≤ n - 1) = true
          rw [decide_eq_true_eq]; omega
        have z2 : isNum (.i b) (n - 1) = true := by
          show decide (0 ≤ b ∧ b ≤ n - 1) = true
          rw [decide_eq_true_eq]; omega
        rw [z1, z2] at hb
        cases hb
      · have hb : isNum p (n - 1) = true ∧ isNum q (n - 1) = true := by simpa using hb
        obtain ⟨a, rfl, a0, a1⟩ := isNum_t hb.1
        obtain ⟨b, rfl, b0, b1⟩ := isNum_t hb.2
        refine gets_some (gets_flb ?_)
        have e4 : orM ((cst Int (Dy.i a)).bind fun w12 => (cst Int (Dy.i b)).bind fun w13 => some (decide (w13 ≤ w12))) ((cst (Int × Int) (Dy.i a, Dy.i b)).bind fun w14 => some ((look s w14).isSome)) = some (decide (b ≤ a) || (look s (a, b)).isSome) := by
          show orM (some (decide (b ≤ a))) (some ((look s (a, b)).isSome)) = _
          by_cases z : b ≤ a <;> simp [orM, z]
        refine gets_step e4 ?_
        refine gets_if (fun hb => ?_) (fun hb => ?_)
        · refine gets_some ⟨_, rfl, .inr ⟨fun hg => ?_, rfl⟩⟩
          obtain ⟨a', b', e5, e6, hab, hn⟩ := good hg
          cases e5
          cases e6
          simp only [Bool.or_eq_true, decide_eq_true_eq] at hb
          rcases hb with z | z
          · omega
          · exact hn ((i3 _).mp z)
        · have hb : ¬ b ≤ a ∧ (look s (a, b)).isSome = false := by simpa using hb
          refine gets_some ?_
          refine gets_step (x := put s (a, b) true) (by
            show dput s (a, b) true = _
            refine dput_ok ?_
            rw [List.length_map] at i2
            omega) (gets_some ⟨es ++ [(a, b)], by simp [up], ⟨?_, ?_⟩, ?_, fun e => ?_⟩)
          · rw [List.nodup_append]
            refine ⟨i1.nd, by simp, fun x hx y hy e => ?_⟩
            simp at hy
            subst hy
            subst e
            rw [(i3 _).mpr hx] at hb
            cases hb.2
          · intro e he
            rcases List.mem_append.mp he with z | z
            · exact i1.ok e z
            · have : e = (a, b) := by simpa using z
              subst this
              exact ⟨a0, by show a < b; omega, by show b < n; omega⟩
          · have := put_len s (a, b) true
            simp at i2 ⊢
            omega
          · rw [look_put, List.mem_append, List.mem_singleton]
            by_cases z : e = (a, b)
            · simp [z]
            · simp [z, i3]
    · rintro s ⟨es, e1, i1, _⟩
      exact gets_some ⟨_, rfl, .inl ⟨⟨n, es, rfl, h0, h1, e1, i1⟩, rfl⟩⟩
theorem bad_gr {c : Dy} {L : List (Dy × Dy)} (hl : L.length ≤ 1000) (h : ¬ Good c L) : m_greatest (c, L, ()) = some (.error ⟨1, 0⟩) ∧ m_missed_by_some (c, L, ()) = some (.error ⟨1, 0⟩) := by
  obtain ⟨r, e, ⟨hg, _⟩ | ⟨_, hr⟩⟩ := check_ok c L hl
  · exact absurd hg h
  · subst hr
    constructor
    · unfold m_greatest mb_greatest
      show Option.bind (flb (Option.bind (Option.bind (m_check_web (c, L, ())) _) _) _) _ = _
      rw [e]
      rfl
    · unfold m_missed_by_some mb_missed_by_some
      show Option.bind (flb (Option.bind (Option.bind (m_check_web (c, L, ())) _) _) _) _ = _
      rw [e]
      rfl
theorem good_gr {c : Dy} {L : List (Dy × Dy)} (hl : L.length ≤ 1000) (h : Good c L) : (∃ r, m_greatest (c, L, ()) = some (.ok r)) ∧ ∃ r, m_missed_by_some (c, L, ()) = some (.ok r) := by
  obtain ⟨r, e, ⟨hg, hr⟩ | ⟨h', _⟩⟩ := check_ok c L hl
  · subst hr
    obtain ⟨n, es, rfl, h0, h1, rfl, he⟩ := hg
    have hle : es.length ≤ 1000 := by simpa using hl
    have eJ := m_check_web_ok he h0 h1 hle
    constructor
    · obtain ⟨r, er, p, hr, _⟩ := m_greatest_ok he h0 h1 hle
      refine ⟨_, (?_ : _ = m_greatestJ (n, es, ())).trans (er.trans (by rw [hr]))⟩
      unfold m_greatest mb_greatest m_greatestJ mb_greatestJ
      show Option.bind (flb (Option.bind (Option.bind (m_check_web (.i n, es.map up, ())) _) _) _) _ = Option.bind (flb (Option.bind (Option.bind (m_check_webJ (n, es, ())) _) _) _) _
      rw [e, eJ]
      have e1 : cst (List (Int × Int)) (es.map up) = some es := cst_up es
      show Option.bind (Option.bind (Option.bind (b2 (some n) (b2 (cst (List (Int × Int)) (es.map up)) (some ()) fun x t => some (x, t)) fun x t => some (x, t)) _) _) _ = _
      rw [e1]
      rfl
    · obtain ⟨r, er, hr⟩ := m_missed_ok he h0 h1 hle
      refine ⟨_, (?_ : _ = m_missed_by_someJ (n, es, ())).trans (er.trans (by rw [hr]))⟩
      unfold m_missed_by_some mb_missed_by_some m_missed_by_someJ mb_missed_by_someJ
      show Option.bind (flb (Option.bind (Option.bind (m_check_web (.i n, es.map up, ())) _) _) _) _ = Option.bind (flb (Option.bind (Option.bind (m_check_webJ (n, es, ())) _) _) _) _
      rw [e, eJ]
      have e1 : cst (List (Int × Int)) (es.map up) = some es := cst_up es
      simp only [e1]
      rfl
  · exact absurd h h'
theorem raises_ok {w : Int} {c : Dy} {L : List (Dy × Dy)} (hl : L.length ≤ 1000) : (Good c L → m__law_raises (w, c, L, ()) = some false) ∧ (¬ Good c L → m__law_raises (w, c, L, ()) = some true) := by
  constructor
  · intro h
    obtain ⟨⟨r1, e1⟩, ⟨r2, e2⟩⟩ := good_gr hl h
    unfold m__law_raises mb__law_raises
    by_cases hw : w = 0
    · have e0 : decide (w = 0) = true := by simp [hw]
      show Option.bind (flb (tryM _ (flb (if decide (w = 0) = true then flb (Option.bind (Option.bind (m_greatest (c, L, ())) _) _) _ else _) _) _) _) _ = _
      rw [if_pos e0, e1]
      rfl
    · have e0 : ¬ decide (w = 0) = true := by simp [hw]
      show Option.bind (flb (tryM _ (flb (if decide (w = 0) = true then _ else flb (Option.bind (Option.bind (m_missed_by_some (c, L, ())) _) _) _) _) _) _) _ = _
      rw [if_neg e0, e2]
      rfl
  · intro h
    obtain ⟨e1, e2⟩ := bad_gr hl h
    unfold m__law_raises mb__law_raises
    by_cases hw : w = 0
    · have e0 : decide (w = 0) = true := by simp [hw]
      show Option.bind (flb (tryM _ (flb (if decide (w = 0) = true then flb (Option.bind (Option.bind (m_greatest (c, L, ())) _) _) _ else _) _) _) _) _ = _
      rw [if_pos e0, e1]
      rfl
    · have e0 : ¬ decide (w = 0) = true := by simp [hw]
      show Option.bind (flb (tryM _ (flb (if decide (w = 0) = true then _ else flb (Option.bind (Option.bind (m_missed_by_some (c, L, ())) _) _) _) _) _) _) _ = _
      rw [if_neg e0, e2]
      rfl
/-- no edge that could be put in -/
def Bd (n : Int) (es : List (Int × Int)) (x : Dy × Dy) : Prop := ∀ b : Int × Int, x = up b → ¬ (0 ≤ b.1 ∧ b.1 < b.2 ∧ b.2 < n) ∨ b ∈ es
theorem bad_list {n : Int} {A C : List (Int × Int)} {x : Dy × Dy} (h : Bd n (A ++ C) x) : ¬ Good (.i n) (A.map up ++ [x] ++ C.map up) := by
  rintro ⟨n', es', e1, _, _, e2, e3⟩
  cases e1
  have hm : x ∈ es'.map up := by rw [← e2]; simp
  obtain ⟨b, hb, rfl⟩ := List.mem_map.mp hm
  rcases h b rfl with z | z
  · exact z (e3.ok b hb)
  · have : es' = A ++ [b] ++ C := by
      refine (List.map_inj_right (f := up) fun _ _ h => up_inj h).mp ?_
      rw [← e2]
      simp
    have nd := e3.nd
    rw [this] at nd
    have nd2 : (A ++ ([b] ++ C)).Nodup := by rwa [List.append_assoc] at nd
    rcases List.mem_append.mp z with q | q
    · exact (List.nodup_append.mp nd2).2.2 _ q b (by simp) rfl
    · exact (List.nodup_cons.mp (List.nodup_append.mp nd2).2.1).1 q
theorem bad_num {c : Dy} {L : List (Dy × Dy)} (h : ∀ n, c = .i n → n < 0 ∨ 20 < n) : ¬ Good c L := by
  rintro ⟨n, es, rfl, h0, h1, _⟩
  rcases h n rfl with z | z <;> omega
theorem law_true (ns : List Int) (_ : ns.length ≤ 63) : m_law (⟨ns⟩, ()) = some true := by
  have big : BIG = 1000000 := rfl
  have goal : Gets (m_law (⟨ns⟩, ())) fun r => r = true := by
    unfold m_law mb_law
    refine gets_bind ?_
    obtain ⟨c0, e0⟩ := cell_ok ns (k := 0) (by omega) (by omega)
    obtain ⟨c1, e1⟩ := cell_ok ns (k := 1) (by omega) (by omega)
    obtain ⟨c2, e2⟩ := cell_ok ns (k := 2) (by omega) (by omega)
    have h0 : 0 ≤ c0 % 19 := Int.emod_nonneg _ (by omega)
    have h1 : c0 % 19 < 19 := Int.emod_lt_of_pos _ (by omega)
    have p0 : pmod c0 19 = some (c0 % 19) := pmod_ok (by omega)
    refine gets_step (x := 2 + c0 % 19) (by simp only [b2, Option.bind_some, e0, p0]) ?_
    generalize hn : 2 + c0 % 19 = n
    have n0 : 2 ≤ n := by omega
    have n1 : n ≤ 20 := by omega
    have q0 : 0 ≤ c1 % 9 := Int.emod_nonneg _ (by omega)
    have q1 : c1 % 9 < 9 := Int.emod_lt_of_pos _ (by omega)
    have p1 : pmod c1 9 = some (c1 % 9) := pmod_ok (by omega)
    obtain ⟨es, ee, he⟩ := m_law_edges_ok ns (at' := 3) (n := n) (dn := 2 + c1 % 9) (by omega) (by omega) (by omega) (by omega) (by omega) (by omega)
    refine gets_step (x := es) (by simp only [b2, Option.bind_some, e1, p1, ee]) ?_
    have lE := he.len20 (by omega)
    refine gets_step (x := c2) (by simp only [b2, Option.bind_some, e2]) ?_
    have a0 : 0 ≤ c2 % ((es.length : Int) + 1) := Int.emod_nonneg _ (by omega)
    have a1 : c2 % ((es.length : Int) + 1) < (es.length : Int) + 1 := Int.emod_lt_of_pos _ (by omega)
    refine gets_step (pmod_ok (by omega)) ?_
    obtain ⟨k, hk⟩ : ∃ k : Nat, c2 % ((es.length : Int) + 1) = (k : Int) := ⟨_, (Int.toNat_of_nonneg a0).symm⟩
    rw [hk]
    rw [hk] at a1
    have hkl : k ≤ es.length := by omega
    -- how far
    have far : ∃ f, ((pdiv c2 (20 : Int)).bind fun w12 => (((pdiv c2 (3 : Int)).bind fun w10 => pmod w10 (2 : Int)).bind fun w11 => atI [(50 : Int), (1000000000000000000 : Int)] w11).bind fun w13 => pmod w12 w13) = some f ∧ 0 ≤ f := by
      have d20 : pdiv c2 20 = some (c2 / 20) := pdiv_ok (by omega) (by omega)
      have d3 : pdiv c2 3 = some (c2 / 3) := pdiv_ok (by omega) (by omega)
      have m2 : pmod (c2 / 3) 2 = some (c2 / 3 % 2) := pmod_ok (by omega)
      have z0 : 0 ≤ c2 / 3 % 2 := Int.emod_nonneg _ (by omega)
      have z1 : c2 / 3 % 2 < 2 := Int.emod_lt_of_pos _ (by omega)
      rw [d20]
      show ∃ f, (Option.bind (Option.bind (Option.bind (pdiv c2 3) _) _) _) = some f ∧ 0 ≤ f
      rw [d3]
      show ∃ f, (Option.bind (Option.bind (pmod (c2 / 3) 2) _) _) = some f ∧ 0 ≤ f
      rw [m2]
      have : c2 / 3 % 2 = ((0 : Nat) : Int) ∨ c2 / 3 % 2 = ((1 : Nat) : Int) := by omega
      rcases this with z | z
      · rw [z]
        refine ⟨c2 / 20 % 50, ?_, Int.emod_nonneg _ (by omega)⟩
        show Option.bind (atI [(50 : Int), (1000000000000000000 : Int)] ((0 : Nat) : Int)) _ = _
        rw [atI_nat (i := 0) (x := (50 : Int)) rfl]
        exact pmod_ok (by omega)
      · rw [z]
        refine ⟨c2 / 20 % 1000000000000000000, ?_, Int.emod_nonneg _ (by omega)⟩
        show Option.bind (atI [(50 : Int), (1000000000000000000 : Int)] ((1 : Nat) : Int)) _ = _
        rw [atI_nat (i := 1) (x := (1000000000000000000 : Int)) rfl]
        exact pmod_ok (by omega)
    obtain ⟨f, ef, f0⟩ := far
    refine gets_step ef ?_
    refine gets_step rfl ?_
    -- all that is put in is bad
    have nb : ∀ {x y : Dy}, (∀ a b, x = .i a → y = .i b → ¬ (0 ≤ a ∧ a < b ∧ b < n) ∨ (a, b) ∈ es) → Bd n es (x, y) := fun {x y} h b hb => by
      obtain ⟨b1, b2⟩ := b
      exact h b1 b2 (congrArg Prod.fst hb) (congrArg Prod.snd hb)
    have twoI : ∀ {a b : Int}, ¬ (0 ≤ a ∧ a < b ∧ b < n) ∨ (a, b) ∈ es → Bd n es (.i a, .i b) := fun {a b} h => nb fun a' b' x y => by
      cases x
      cases y
      exact h
    have noL : ∀ {x y : Dy}, (∀ a, x ≠ .i a) → Bd n es (x, y) := fun {x y} h => nb fun a b z _ => absurd z (h a)
    have noR : ∀ {x y : Dy}, (∀ a, y ≠ .i a) → Bd n es (x, y) := fun {x y} h => nb fun a b _ z => absurd z (h b)
    refine gets_bind (gets_step rfl ?_)
    refine gets_forP (fun dn s => (∀ x ∈ s, Bd n es x) ∧ s.length ≤ 9 + 2 * dn.length) ⟨?_, ?_⟩ ?_ ?_
    · intro x hx
      simp only [List.mem_cons, List.not_mem_nil, or_false] at hx
      rcases hx with rfl | rfl | rfl | rfl | rfl | rfl | rfl | rfl | rfl
      · exact twoI (.inl (by omega))
      · exact twoI (.inl (by omega))
      · exact twoI (.inl (by omega))
      · exact twoI (.inl (by omega))
      · exact twoI (.inl (by omega))
      · exact twoI (.inl (by omega))
      · exact noR fun a z => by cases z
      · exact noL fun a z => by cases z
      · exact noR fun a z => by cases z
    · exact Nat.le_refl 9
    · rintro dn x rs s hs ⟨i1, i2⟩
      have hs : [Dy.t (Tt.mk "1" (by decide +kernel)), Dy.t (Tt.mk "" (by decide +kernel)), Dy.u, Dy.b true, Dy.b false, Dy.tp, Dy.ls] = dn ++ x :: rs := hs
      have ln := congrArg List.length hs
      simp at ln
      have hx : x ∈ [Dy.t (Tt.mk "1" (by decide +kernel)), Dy.t (Tt.mk "" (by decide +kernel)), Dy.u, Dy.b true, Dy.b false, Dy.tp, Dy.ls] := by rw [hs]; simp
      have no : ∀ a, x ≠ .i a := fun a z => by
        subst z
        simp at hx
      refine gets_step (x := s ++ [(Dy.i 0, x), (x, Dy.i 1)]) (by
        show pcat s [(Dy.i 0, x), (x, Dy.i 1)] = _
        refine pcat_ok ?_
        simp
        omega) (gets_some ⟨fun y hy => ?_, ?_⟩)
      · rcases List.mem_append.mp hy with q | q
        · exact i1 y q
        · simp only [List.mem_cons, List.not_mem_nil, or_false] at q
          rcases q with rfl | rfl
          · exact noR no
          · exact noL no
      · simp
        omega
    · rintro s ⟨i1, i2⟩
      have i2 : s.length ≤ 9 + 2 * 7 := i2
      -- edges that are there
      refine gets_bind (gets_step rfl ?_)
      have hif : Gets (if (!decide (es = ([] : List (Int × Int)))) = true then
          (seqO [((((pdiv c2 (7 : Int)).bind fun w42 => pmod w42 ((es).length : Int)).bind fun w43 => atI es w43).bind fun w44 => cst (Dy × Dy) w44), ((((atI es (0 : Int)).bind fun w45 => some (w45).2).bind fun w46 => cst Dy w46).bind fun w49 => (((atI es (0 : Int)).bind fun w47 => some (w47).1).bind fun w48 => cst Dy w48).bind fun w50 => some (w49, w50))]).bind fun w51 => pcat s w51
          else some s) fun s => (∀ x ∈ s, Bd n es x) ∧ s.length ≤ 30 := by
        refine gets_if (fun hb => ?_) (fun _ => gets_some ⟨i1, by omega⟩)
        have hne : es ≠ [] := by simpa using hb
        have hp : 0 < es.length := List.length_pos_iff.mpr hne
        have d7 : pdiv c2 7 = some (c2 / 7) := pdiv_ok (by omega) (by omega)
        have m7 : pmod (c2 / 7) (es.length : Int) = some (c2 / 7 % (es.length : Int)) := pmod_ok (by omega)
        have z0 : 0 ≤ c2 / 7 % (es.length : Int) := Int.emod_nonneg _ (by omega)
        have z1 : c2 / 7 % (es.length : Int) < (es.length : Int) := Int.emod_lt_of_pos _ (by omega)
        obtain ⟨j, hj⟩ : ∃ j : Nat, c2 / 7 % (es.length : Int) = (j : Int) := ⟨_, (Int.toNat_of_nonneg z0).symm⟩
        have hjl : j < es.length := by omega
        have g1 : atI es (j : Int) = some es[j] := atI_nat (List.getElem?_eq_getElem hjl)
        have g2 : atI es (0 : Int) = some es[0] := atI_nat (i := 0) (List.getElem?_eq_getElem hp)
        have ok0 := he.ok es[0] (List.getElem_mem hp)
        have e5 : (seqO [((((pdiv c2 (7 : Int)).bind fun w42 => pmod w42 ((es).length : Int)).bind fun w43 => atI es w43).bind fun w44 => cst (Dy × Dy) w44), ((((atI es (0 : Int)).bind fun w45 => some (w45).2).bind fun w46 => cst Dy w46).bind fun w49 => (((atI es (0 : Int)).bind fun w47 => some (w47).1).bind fun w48 => cst Dy w48).bind fun w50 => some (w49, w50))]) = some [up es[j], (Dy.i es[0].2, Dy.i es[0].1)] := by
          rw [g2, d7]
          show (seqO [Option.bind (Option.bind (pmod (c2 / 7) (es.length : Int)) _) _, _]) = _
          rw [m7]
          show (seqO [Option.bind (atI es (c2 / 7 % (es.length : Int))) _, _]) = _
          rw [hj, g1]
          rfl
        refine gets_step e5 ?_
        rw [pcat_ok (by simp; omega)]
        refine gets_some ⟨fun x hx => ?_, by simp; omega⟩
        rcases List.mem_append.mp hx with q | q
        · exact i1 x q
        · simp only [List.mem_cons, List.not_mem_nil, or_false] at q
          rcases q with rfl | rfl
          · exact twoI (.inr (List.getElem_mem hjl))
          · exact twoI (.inl (by omega))
      have hif2 : Gets (if (!decide (es = ([] : List (Int × Int)))) = true then
          ((seqO [((((pdiv c2 (7 : Int)).bind fun w42 => pmod w42 ((es).length : Int)).bind fun w43 => atI es w43).bind fun w44 => cst (Dy × Dy) w44), ((((atI es (0 : Int)).bind fun w45 => some (w45).2).bind fun w46 => cst Dy w46).bind fun w49 => (((atI es (0 : Int)).bind fun w47 => some (w47).1).bind fun w48 => cst Dy w48).bind fun w50 => some (w49, w50))]).bind fun w51 => pcat s w51).bind fun z => some z
          else some s) fun s => (∀ x ∈ s, Bd n es x) ∧ s.length ≤ 30 := by
        split
        · rename_i hb
          rw [if_pos hb] at hif
          obtain ⟨z, ez, hz⟩ := hif
          exact gets_step ez (gets_some hz)
        · rename_i hb
          rw [if_neg hb] at hif
          exact hif
      refine gets_mono hif2 fun bad ⟨j1, j2⟩ => ?_
      refine gets_flb (gets_step rfl ?_)
      have goodE : Good (.i n) (es.map up) := ⟨n, es, rfl, by omega, n1, rfl, he⟩
      have lU : (es.map up).length ≤ 1000 := by simp; omega
      have good0 : Good (.i 0) [] := ⟨0, [], rfl, by omega, by omega, rfl, ⟨List.nodup_nil, by simp⟩⟩
      have good20 : Good (.i 20) [(.i 18, .i 19), (.i 0, .i 19)] := ⟨20, [(18, 19), (0, 19)], rfl, by omega, by omega, rfl, ⟨by decide, by simp⟩⟩
      refine gets_forF (fun _ _ => True) trivial ?_ ?_
      · rintro dn x rs _ hs _
        have hs : [Dy.i 0, Dy.i 1] = dn ++ x :: rs := hs
        have hx : x ∈ [Dy.i 0, Dy.i 1] := by rw [hs]; simp
        obtain ⟨w, rfl⟩ : ∃ w, x = .i w := by
          simp only [List.mem_cons, List.not_mem_nil, or_false] at hx
          rcases hx with rfl | rfl
          · exact ⟨_, rfl⟩
          · exact ⟨_, rfl⟩
        have ec : cst (List (Dy × Dy)) es = some (es.map up) := cst_dn es
        refine gets_flb ?_
        have e6 : orM ((b2 (cst Int (Dy.i w)) (b2 (cst Dy n) (b2 (cst (List (Dy × Dy)) es) (some ()) fun x t => some (x, t)) fun x t => some (x, t)) fun x t => some (x, t)).bind m__law_raises) (orM ((b2 (cst Int (Dy.i w)) (b2 (cst Dy (0 : Int)) (b2 (some ([] : (List (Dy × Dy)))) (some ()) fun x t => some (x, t)) fun x t => some (x, t)) fun x t => some (x, t)).bind m__law_raises) ((b2 (cst Int (Dy.i w)) (b2 (cst Dy (20 : Int)) (b2 (seqO [((cst Dy (18 : Int)).bind fun w55 => (cst Dy (19 : Int)).bind fun w56 => some (w55, w56)), ((cst Dy (0 : Int)).bind fun w57 => (cst Dy (19 : Int)).bind fun w58 => some (w57, w58))]) (some ()) fun x t => some (x, t)) fun x t => some (x, t)) fun x t => some (x, t)).bind m__law_raises)) = some false := by
          rw [ec]
          show orM (m__law_raises (w, .i n, es.map up, ())) (orM (m__law_raises (w, .i 0, [], ())) (m__law_raises (w, .i 20, [(.i 18, .i 19), (.i 0, .i 19)], ()))) = _
          rw [(raises_ok lU).1 goodE, (raises_ok (by simp)).1 good0, (raises_ok (by simp)).1 good20]
          rfl
        refine gets_step e6 (gets_some ?_)
        refine gets_flb (gets_step rfl ?_)
        refine gets_forF (fun _ _ => True) trivial ?_ ?_
        · rintro dn2 y rs2 _ hs2 _
          have hy : y ∈ bad := by
            have hs2 : bad = dn2 ++ y :: rs2 := hs2
            rw [hs2]; simp
          have hby := j1 y hy
          refine gets_flb ?_
          have es2 : es = es.take k ++ es.drop k := (List.take_append_drop k es).symm
          have lk : (es.take k).length = k := by simp; omega
          have c1 : cut es none (some (k : Int)) = es.take k := by
            have := cut_pre (xs := es.take k) (ys := es.drop k)
            rwa [List.take_append_drop, lk] at this
          have c2 : cut es (some (k : Int)) none = es.drop k := by
            have := cut_suf (xs := es.take k) (ys := es.drop k)
            rwa [List.take_append_drop, lk] at this
          have lt : (es.take k).length ≤ 400 := by omega
          have ld : (es.drop k).length ≤ 400 := by simp; omega
          have e7 : (((cstL (Dy × Dy) (cut es none (some (k : Int)))).bind fun w62 => pcat w62 [y]).bind fun w63 => (cstL (Dy × Dy) (cut es (some (k : Int)) none)).bind fun w64 => pcat w63 w64) = some ((es.take k).map up ++ [y] ++ (es.drop k).map up) := by
            rw [c1, c2, cst_dn, cst_dn]
            show Option.bind (pcat ((es.take k).map up) [y]) _ = _
            rw [pcat_ok (by simp; omega)]
            show pcat _ _ = _
            exact pcat_ok (by simp; omega)
          have hbad : ¬ Good (.i n) ((es.take k).map up ++ [y] ++ (es.drop k).map up) := bad_list (by rw [List.take_append_drop]; exact hby)
          have e8 : ((b2 (cst Int (Dy.i w)) (b2 (cst Dy n) (b2 (((cstL (Dy × Dy) (cut es none (some (k : Int)))).bind fun w62 => pcat w62 [y]).bind fun w63 => (cstL (Dy × Dy) (cut es (some (k : Int)) none)).bind fun w64 => pcat w63 w64) (some ()) fun x t => some (x, t)) fun x t => some (x, t)) fun x t => some (x, t)).bind m__law_raises).bind (fun w65 => some (!w65)) = some false := by
            rw [e7]
            show Option.bind (m__law_raises (w, .i n, _, ())) _ = _
            rw [(raises_ok (by simp; omega)).2 hbad]
            rfl
          exact gets_step e8 (gets_some (gets_some trivial))
        · intro _ _
          refine gets_flb (gets_step rfl ?_)
          refine gets_forF (fun _ _ => True) trivial ?_ ?_
          · rintro dn2 y rs2 _ hs2 _
            have hs2 : [Dy.i ((0 - 1) - f), Dy.i (21 + f), Dy.b true, Dy.b false, Dy.u, Dy.t (Tt.mk "2" (by decide +kernel))] = dn2 ++ y :: rs2 := hs2
            have hy : y ∈ [Dy.i ((0 - 1) - f), Dy.i (21 + f), Dy.b true, Dy.b false, Dy.u, Dy.t (Tt.mk "2" (by decide +kernel))] := by rw [hs2]; simp
            have hbad : ∀ L, ¬ Good y L := fun L => bad_num fun m hm => by
              subst hm
              simp at hy
              rcases hy with z | z
              · left; omega
              · right; omega
            refine gets_flb ?_
            have e9 : orM (((b2 (cst Int (Dy.i w)) (b2 (some y) (b2 (some ([] : (List (Dy × Dy)))) (some ()) fun x t => some (x, t)) fun x t => some (x, t)) fun x t => some (x, t)).bind m__law_raises).bind fun w70 => some (!w70)) (orM (((b2 (cst Int (Dy.i w)) (b2 (some y) (b2 (cst (List (Dy × Dy)) es) (some ()) fun x t => some (x, t)) fun x t => some (x, t)) fun x t => some (x, t)).bind m__law_raises).bind fun w71 => some (!w71)) (((b2 (cst Int (Dy.i w)) (b2 (some y) (b2 (seqO [((cst Dy (0 : Int)).bind fun w72 => (cst Dy (1 : Int)).bind fun w73 => some (w72, w73))]) (some ()) fun x t => some (x, t)) fun x t => some (x, t)) fun x t => some (x, t)).bind m__law_raises).bind fun w74 => some (!w74))) = some false := by
              rw [ec]
              show orM (Option.bind (m__law_raises (w, y, [], ())) _) (orM (Option.bind (m__law_raises (w, y, es.map up, ())) _) (Option.bind (m__law_raises (w, y, [(.i 0, .i 1)], ())) _)) = _
              rw [(raises_ok (by simp)).2 (hbad _), (raises_ok lU).2 (hbad _), (raises_ok (by simp)).2 (hbad _)]
              rfl
            exact gets_step e9 (gets_some (gets_some trivial))
          · intro _ _
            exact gets_some trivial
      · intro _ _
        exact gets_step rfl (gets_some ⟨true, rfl, rfl⟩)
  obtain ⟨r, e, hr⟩ := goal
  rw [e, hr]
end Sim

set_option Elab.async false
set_option autoImplicit false
set_option linter.all false
set_option maxRecDepth 100000
set_option maxHeartbeats 4000000
open PySem PySem.W PySem.Calls PyProof.Rows
theorem PySem.Challenge.cw_pairswap_k14_errors_of_webs_holds : PySem.Challenge.rw_pairswap_k14_errors_of_webs.Holds := by
  w_on; o_law
  refine HandSHeadRun.head_any (r := OpenLaw.row PySem.Challenge.rw_pairswap_k14_errors_of_webs) (q := view (OpenLaw.row PySem.Challenge.rw_pairswap_k14_errors_of_webs).prog [24]) (H := HeadT.hk) (ob := HeadT.ob) (M := 4000) (loose := HeadT.lo) (d := HandSHeadRun.topDef (OpenLaw.row PySem.Challenge.rw_pairswap_k14_errors_of_webs).prog 24) (kwd := []) HeadT.ob_eq
    (by kernel_rfl) (fun s => by kernel_rfl) HeadT.run (by kernel_rfl) (by kernel_rfl) (by kernel_rfl) (by rfl) (by first | assumption | decide +kernel) (by decide +kernel) ⟨rfl, rfl, rfl, rfl, rfl, by decide +kernel⟩ ?hw ?hc
  case hw => w_witness2
  case hc =>
    refine L2.walk_ofE (l := PySem.Challenge.rw_pairswap_k14_errors_of_webs) (n := 63) (k := 31) (x := "_law_script") (CX := L2.CX0) rfl (by decide) (by kernel_rfl) ⟨rfl, by decide, by decide⟩ ?F (fun _ _ _ _ z => z)
    intro w mg fa h Y G hmg0
    obtain ⟨K, KX, c⟩ := Y
    obtain ⟨c, ce⟩ := c
    have hmg : mg ("law" : PySem.Str) = some (.ref fa) := by
      have e : (HandSHeadRun.topDef (OpenLaw.row PySem.Challenge.rw_pairswap_k14_errors_of_webs).prog 24).name = ("law" : PySem.Str) := by kernel_rfl
      rw [← e]
      exact hmg0
    obtain ⟨fd, F⟩ := c.def_ 18 (d := HeadT.D_law) rfl
    have e := hmg.symm.trans (He.glo_ok KX G (c.fact 23 (f := .glo "law") rfl))
    cases e
    have b := L2.FunD.bindsA (ps := ["_law_script"]) F fun _ _ _ _ _ _ us hl => match us, hl with | [_], _ => rfl
    refine ⟨K, fd, Sim.specP ⟨(PySem.Challenge.rw_pairswap_k14_errors_of_webs).prog, w, K, mg, h, Sim.Cn K⟩ false Sim.m_law, KX, fun s v => b s [v] rfl, fun H a ns hl _ hS => Sim.law_start hS (Sim.law_true ns hl), fun base hb1 hb2 => ?_⟩
    exact Sim.f_law (Γ := ⟨(PySem.Challenge.rw_pairswap_k14_errors_of_webs).prog, w, K, mg, base, Sim.Cn K⟩) (Sim.tx_ok KX G c ce) (Sim.fun_of (st := HeadT.top 24) F)
