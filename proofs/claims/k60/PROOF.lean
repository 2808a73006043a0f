import PyProof.Rows.All
import Wide.All
import OpenK.AllK
import Wide.FinOn
import KE.KStateDown
import Lean
import HandS.Base
import HandS.Call
import HandS.Ends
import HandS.More
import HandS.Words
import HandS.WordsExc
import HandS.Defaults
import HandS.ExcIs
import HandS.Head0
import HandS.Head1
import HandS.Head2
import HandS.HeadEnd
import HandS.HeadHook1
import HandS.HeadHook2
import HandS.HeadHook3
import HandS.ForMost
import HandS.Walk
import HandS.Exc
import HandS.ExcOwn
import HandS.TryOnly
import HandS.RaiseMore
import HandS.Deep
import HandS.DictComp
import HandS.Conv
import HandS.Small
import HandS.Rev
import HandS.RevTup
import PyProof.ListNew
import HandS.IsInst
import HandS.TupAny
import HandS.SortInts
import HandS.SortRule
import HandS.Codes
import HandS.Sort
import HandS.SortOrd
import PyProof.Rows.SortKeyStr
import PyProof.Rows.SortShellAny
import PyProof.Rows.StrMeet
import HandS.TupLe
import KE.DataFind
import HandS.Text
import HandS.FStr
import KE.GoesEnum
import HandS.Flow
import PySem.Challenge.RW_pairswap_k60_whole_webs_come_back
set_option Elab.async false
set_option autoImplicit false
set_option linter.all false
set_option maxRecDepth 100000
/-! what is told of the classes of errors, and a Hook with one Bool more -/
namespace He
open PySem PySem.Spec PyProof.Rows L2
def excB (K : PySem.W.Frag) (x : Str) : Bool :=
  eqO (PySem.W.findIn K (.ref (ga K x)) "__getattribute__") (some (some (.builtin "BaseException.__getattribute__"))) && (eqO (PySem.W.findIn K (.ref (ga K x)) "__getattr__") (some none) && (decide (PySem.W.subIn K (.ref (ga K x)) (.type "BaseException") = some true)
  && (PySem.W.hasDictIn K (ga K x) && (eqO (PySem.W.findIn K (.ref (ga K x)) "__class__") (some (some (.builtin "object.__class__"))) && (eqO (PySem.W.specialIn K (.builtin "object.__class__") "__get__") (some (some (.builtin "getset_descriptor.__get__")))
  && (decide (PySem.W.takesIn K (.builtin "object.__class__") = some true) && decide (PySem.W.mroIn K (ga K x) (.type "object") = some true)))))))
theorem excB_ok {K : PySem.W.Frag} {x : Str} (h : excB K x = true) : ExcC K (ga K x) := by
  obtain ⟨h1, h⟩ := ba h
  obtain ⟨h2, h⟩ := ba h
  obtain ⟨h3, h⟩ := ba h
  obtain ⟨h4, h⟩ := ba h
  obtain ⟨h5, h⟩ := ba h
  obtain ⟨h6, h⟩ := ba h
  obtain ⟨h7, h8⟩ := ba h
  exact ⟨eqO_ok h1, eqO_ok h2, of_decide_eq_true h3, h4, eqO_ok h5, eqO_ok h6, of_decide_eq_true h7, of_decide_eq_true h8⟩
/-- which class is under which: the first is above all -/
def subN (i j : Nat) : Bool := i == j || j == 0
def pairB (K : PySem.W.Frag) (p q : Nat × Str) : Bool := decide (PySem.W.kitOne K (.ref (ga K p.2)) (.ref (ga K q.2)) = some (subN p.1 q.1)) && decide (PySem.W.exmOne K (.ref (ga K p.2)) (.ref (ga K q.2)) = some (subN p.1 q.1))
def exsB (xs : List (Nat × Str)) (K : PySem.W.Frag) : Bool := xs.all fun p => excB K p.2 && (decide (PySem.W.kitOne K (.ref (ga K p.2)) (.type "ValueError") = some true) && xs.all fun q => pairB K p q)
abbrev AlQ : Type := AlD × Bool
def obsQ (fa : List Fa) (fn : List DefD) (ex : PySem.W.Frag → Bool) (K : PySem.W.Frag) : AlQ := (obsD fa fn K, ex K)
def obsQG (n : Nat) (fa : List Fa) (fn : List DefD) (ex : PySem.W.Frag → Bool) (g : Addr → Option Obj) : AlQ := obsQ fa fn ex (frG g (asD g n))
structure SaysQ (fa : List Fa) (fn : List DefD) (ex : PySem.W.Frag → Bool) (K : PySem.W.Frag) : Prop where
  d : SaysD fa fn K
  e : ex K = true
def hookQ (n : Nat) (fa : List Fa) (fn : List DefD) (ex : PySem.W.Frag → Bool) : PySem.W.Hook where
  α := AlQ
  obs := fun s => obsQG n fa fn ex s.heap.get?
  val := fun _ => (valD fn, true)
  says := fun _ h => ∃ K : PySem.W.Frag, K.In h ∧ SaysQ fa fn ex K
  of := fun _ _ e => ⟨_, frG_in, ⟨congrArg (fun z : AlQ => z.1) e, congrArg (fun z : AlQ => z.2) e⟩⟩
  keeps := fun _ _ _ ⟨K, hK, c⟩ k => ⟨K, PySem.W.Frag.In.keeps hK k, c⟩
theorem obsQG_eq {n : Nat} {fa : List Fa} {fn : List DefD} {ex : PySem.W.Frag → Bool} {g : Addr → Option Obj} {s : Shared} (h : ∀ a, g a = s.heap.get? a) : obsQG n fa fn ex g = (hookQ n fa fn ex).obs s := by
  have e : g = s.heap.get? := funext h
  rw [e] <;> rfl
end He

set_option Elab.async false
set_option autoImplicit false
set_option linter.all false
set_option maxRecDepth 100000
/-! a Hook with classes of errors and tables with text keys -/
namespace He
open PySem PySem.Spec PyProof.Rows L2
abbrev AlR : Type := AlQ × List (Option (List (Option (Str × Int))))
def obsR (fa : List Fa) (fn : List DefD) (ex : PySem.W.Frag → Bool) (ts : List Tab) (K : PySem.W.Frag) : AlR := (obsQ fa fn ex K, ts.map fun t => dicW K (t.1 K))
def valR (fn : List DefD) (ts : List Tab) (w : World) : AlR := ((valD fn, true), ts.map fun t => some (keysIn w.params t.2))
def obsRG (n : Nat) (fa : List Fa) (fn : List DefD) (ex : PySem.W.Frag → Bool) (ts : List Tab) (g : Addr → Option Obj) : AlR := obsR fa fn ex ts (frG g (asD g n))
def SaysR (fa : List Fa) (fn : List DefD) (ex : PySem.W.Frag → Bool) (ts : List Tab) (w : World) (K : PySem.W.Frag) : Prop := obsR fa fn ex ts K = valR fn ts w
def hookR (n : Nat) (fa : List Fa) (fn : List DefD) (ex : PySem.W.Frag → Bool) (ts : List Tab) : PySem.W.Hook where
  α := AlR
  obs := fun s => obsRG n fa fn ex ts s.heap.get?
  val := fun w => valR fn ts w
  says := fun w h => ∃ K : PySem.W.Frag, K.In h ∧ SaysR fa fn ex ts w K
  of := fun _ _ e => ⟨_, frG_in, e⟩
  keeps := fun _ _ _ ⟨K, hK, c⟩ k => ⟨K, PySem.W.Frag.In.keeps hK k, c⟩
theorem obsRG_eq {n : Nat} {fa : List Fa} {fn : List DefD} {ex : PySem.W.Frag → Bool} {ts : List Tab} {g : Addr → Option Obj} {s : Shared} (h : ∀ a, g a = s.heap.get? a) : obsRG n fa fn ex ts g = (hookR n fa fn ex ts).obs s := by
  have e : g = s.heap.get? := funext h
  rw [e] <;> rfl
section
variable {fa : List Fa} {fn : List DefD} {ex : PySem.W.Frag → Bool} {ts : List Tab} {w : World} {K : PySem.W.Frag}
theorem SaysR.q (c : SaysR fa fn ex ts w K) : SaysQ fa fn ex K := ⟨congrArg (fun z : AlR => z.1.1) c, congrArg (fun z : AlR => z.1.2) c⟩
theorem SaysR.tab (c : SaysR fa fn ex ts w K) (i : Nat) {t : Tab} (h : ts[i]? = some t := by rfl) : dicW K (t.1 K) = some (keysIn w.params t.2) := by
  have e : ts.map (fun t => dicW K (t.1 K)) = ts.map fun t => some (keysIn w.params t.2) := congrArg (fun z : AlR => z.2) c
  have e2 : (ts.map fun t => dicW K (t.1 K))[i]? = (ts.map fun t => some (keysIn w.params t.2))[i]? := by rw [e]
  rw [List.getElem?_map, List.getElem?_map, h] at e2
  exact Option.some.inj e2
end
/-- what is asked at a key that is none of the table's -/
theorem dic_none {P : Params} {K : PySem.W.Frag} {a : Addr} {ks : List Str} {z : Str} (h : dicW K a = some (keysIn P ks)) (hz : z ∉ ks) : PySem.W.nsIn K a z = some none := by
  unfold dicW at h
  cases q : K.lookup a with
  | none => rw [q] at h; cases h
  | some o =>
    obtain ⟨oc, od, dt, osl⟩ := o
    rw [q] at h
    cases oc with
    | type c =>
      cases od with
      | none =>
        cases dt with
        | dict es n =>
          have h1 : (match decide (c = "dict") && (osl.isEmpty && !(a == sysModules)) with
            | true => some (es.toList.map keyOf)
            | false => none) = some (keysIn P ks) := h
          have h2 : es.toList.map keyOf = keysIn P ks := by
            cases hh : decide (c = "dict") && (osl.isEmpty && !(a == sysModules)) with
            | true => rw [hh] at h1; exact Option.some.inj h1
            | false => rw [hh] at h1; cases h1
          have key : ∀ e ∈ es.toList, ∃ x t, e.key = .str x t ∧ x ∈ ks := fun e he => by
            have : keyOf e ∈ keysIn P ks := by rw [← h2]; exact List.mem_map.mpr ⟨e, he, rfl⟩
            obtain ⟨x, hx, ex⟩ := List.mem_map.mp this
            unfold keyOf at ex
            cases hk : e.key with
            | str y t =>
              rw [hk] at ex
              have := Option.some.inj ex
              have := (Prod.mk.inj this).1
              exact ⟨y, t, rfl, this ▸ hx⟩
            | _ => rw [hk] at ex; cases ex
          unfold PySem.W.nsIn
          rw [q]
          have f1 : es.toList.find? (fun e => e.key.isStr z) = none := by
            rw [List.find?_eq_none]
            intro e he hh
            obtain ⟨x, t, e1, e2⟩ := key e he
            rw [e1] at hh
            have : x = z := by
              have hh : (x == z) = true := hh
              exact eq_of_beq hh
            exact hz (this ▸ e2)
          have f2 : es.toList.any (fun e => e.refKey) = false := by
            rw [List.any_eq_false]
            intro e he hh
            obtain ⟨x, t, e1, _⟩ := key e he
            unfold DictEntry.refKey at hh
            rw [e1] at hh
            cases hh
          show (match es.toList.find? (fun e => e.key.isStr z) with
            | some e => some (some e.val)
            | none => if es.toList.any (fun e => e.refKey) then none else some none) = some none
          rw [f1, f2]
          rfl
        | _ => cases h
      | some b => cases dt <;> cases h
    | _ => cases od <;> cases dt <;> cases h
end He

set_option Elab.async false
set_option autoImplicit false
set_option linter.all false
set_option maxRecDepth 100000
set_option maxHeartbeats 1000000
namespace Sim
open PySem L2

/-! ### frozen heaps -/
/-- what is fixed through a law: the written part, the module's names, the program's own classes -/
structure Gm where
  P : Program
  w : World
  K : PySem.W.Frag
  mg : Str → Option Value
  base : Heap
  C : Nat → Addr

def Le (G G' : Hp) : Prop := ∀ a o, G a = some o → G' a = some o
theorem Le.refl (G : Hp) : Le G G := fun _ _ h => h
theorem Le.trans {G G1 G2 : Hp} (a : Le G G1) (b : Le G1 G2) : Le G G2 := fun x o h => b x o (a x o h)
def isDk : HO → Prop
  | .dK _ => True
  | .dT _ => True
  | _ => False
/-- what is frozen stands in the heap (a dict locked) -/
abbrev Sub (G H : Hp) : Prop := Le G H
theorem Sub.lst {G H : Hp} (s : Sub G H) {a : Addr} {xs : List V} (h : G a = some (.lst xs)) : H a = some (.lst xs) := s a _ h
theorem Sub.tup {G H : Hp} (s : Sub G H) {a : Addr} {xs : List V} (h : G a = some (.tup xs)) : H a = some (.tup xs) := s a _ h
theorem Sub.ins {G H : Hp} (s : Sub G H) {a C dx : Addr} {fs : List (Str × V)} (h : G a = some (.ins C dx fs)) : H a = some (.ins C dx fs) := s a _ h
theorem Sub.rd {G H : Hp} (s : Sub G H) {a : Addr} {o : HO} {ob : Obj} (h : G a = some (.frz ob o)) : Rd H a o := .inr ⟨ob, s a _ h⟩
theorem Sub.some {G H : Hp} (s : Sub G H) {a : Addr} {o : HO} (h : G a = some o) : H a ≠ none := by
  rw [s a o h]; simp
theorem Sub.none {G H : Hp} (s : Sub G H) {a : Addr} (h : H a = none) : G a = none := by
  cases q : G a with
  | none => rfl
  | some o => exact absurd h (s.some q)
/-- the dicts at fp locked -/
def lkd (H : Hp) (fp : List Addr) (ob : Addr → Obj) : Hp := fun x => if x ∈ fp then (match H x with | some (.dK k) => some (.frz (ob x) (.dK k)) | some (.dT k) => some (.frz (ob x) (.dT k)) | o => o) else H x
theorem lkd_out {H : Hp} {fp : List Addr} {ob : Addr → Obj} {x : Addr} (h : x ∉ fp) : lkd H fp ob x = H x := if_neg h
theorem lkd_nd {H : Hp} {fp : List Addr} {ob : Addr → Obj} {x : Addr} {o : HO} (h : H x = some o) (n : ¬ isDk o) : lkd H fp ob x = some o := by
  unfold lkd
  by_cases hx : x ∈ fp
  · rw [if_pos hx, h]
    cases o <;> first | rfl | exact absurd trivial n
  · rw [if_neg hx]; exact h
theorem lkd_d {H : Hp} {fp : List Addr} {ob : Addr → Obj} {x : Addr} {o : HO} (hx : x ∈ fp) (h : H x = some o) (n : isDk o) : lkd H fp ob x = some (.frz (ob x) o) := by
  unfold lkd
  rw [if_pos hx, h]
  cases o <;> first | rfl | exact absurd n (fun q => q)
/-- x in xs -/
abbrev isIn {α : Type} [DecidableEq α] (x : α) (xs : List α) : Bool := decide (x ∈ xs)
/-! ### what stands for what -/
class Rp (α : Type) where
  rep : Gm → Hp → V → α → Prop
  mono : ∀ {Γ : Gm} {G G' : Hp} {v : V} {a : α}, Le G G' → rep Γ G v a → rep Γ G' v a
open Rp (rep)

/-- plain values: no heap -/
class At1 (α : Type) where
  toV : α → V
  flat : ∀ a, flatV (toV a) = true
open At1 (toV)
instance (priority := 50) instRpAt1 {α : Type} [At1 α] : Rp α := ⟨fun _ _ v a => v = toV a, fun _ h => h⟩
instance : At1 Int := ⟨V.int, fun _ => rfl⟩
instance : At1 Bool := ⟨V.bl, fun _ => rfl⟩
/-- a text of signs that there are -/
structure Tt where
  s : Str
  ok : PyData.strOk s = true
theorem Tt.ext' {a b : Tt} (h : a.s = b.s) : a = b := by
  cases a; cases b; cases h; rfl
instance : DecidableEq Tt := fun a b => if h : a.s = b.s then isTrue (Tt.ext' h) else isFalse fun e => h (by rw [e])
instance : At1 Tt := ⟨fun t => .str t.s, fun _ => rfl⟩
instance : At1 Unit := ⟨fun _ => .non, fun _ => rfl⟩
theorem rep1 {α : Type} [At1 α] {Γ : Gm} {G : Hp} {v : V} {a : α} (h : rep Γ G v a) : v = toV a := h

/-- lists of what is represented -/
abbrev RpL {α : Type} [Rp α] (Γ : Gm) (G : Hp) : List V → List α → Prop := Paired (rep Γ G)
theorem RpL.mono {α : Type} [Rp α] {Γ : Gm} {G G' : Hp} (e : Le G G') {vs : List V} {xs : List α} (h : RpL Γ G vs xs) : RpL Γ G' vs xs := Paired.mapP h fun _ _ r => Rp.mono e r
theorem RpL.length {α : Type} [Rp α] {Γ : Gm} {G : Hp} {vs : List V} {xs : List α} (h : RpL Γ G vs xs) : vs.length = xs.length := Paired.length h
theorem RpL.append {α : Type} [Rp α] {Γ : Gm} {G : Hp} : ∀ {vs ws : List V} {xs ys : List α}, RpL Γ G vs xs → RpL Γ G ws ys → RpL Γ G (vs ++ ws) (xs ++ ys)
  | _, _, _, _, .nil, s => s
  | _, _, _, _, .cons r t, s => .cons r (RpL.append t s)
theorem RpL.get {α : Type} [Rp α] {Γ : Gm} {G : Hp} : ∀ {vs : List V} {xs : List α} {i : Nat} {x : α}, RpL Γ G vs xs → xs[i]? = some x → ∃ v, vs[i]? = some v ∧ rep Γ G v x
  | _, _, _, _, .nil, e => by simp at e
  | _, _, 0, _, .cons r _, e => by
    have e' := Option.some.inj e
    subst e'
    exact ⟨_, rfl, r⟩
  | _, _, i + 1, x, .cons _ t, e => by
    obtain ⟨u, h1, h2⟩ := RpL.get (i := i) (x := x) t (by simpa using e)
    exact ⟨u, by simpa using h1, h2⟩
theorem RpL.getV {α : Type} [Rp α] {Γ : Gm} {G : Hp} : ∀ {vs : List V} {xs : List α} {i : Nat} {v : V}, RpL Γ G vs xs → vs[i]? = some v → ∃ x, xs[i]? = some x ∧ rep Γ G v x
  | _, _, _, _, .nil, e => by simp at e
  | _, _, 0, _, .cons r _, e => by
    have e' := Option.some.inj e
    subst e'
    exact ⟨_, rfl, r⟩
  | _, _, i + 1, x, .cons _ t, e => by
    obtain ⟨u, h1, h2⟩ := RpL.getV (i := i) (v := x) t (by simpa using e)
    exact ⟨u, by simpa using h1, h2⟩
theorem RpL.take {α : Type} [Rp α] {Γ : Gm} {G : Hp} : ∀ {vs : List V} {xs : List α} (n : Nat), RpL Γ G vs xs → RpL Γ G (vs.take n) (xs.take n)
  | _, _, 0, _ => .nil
  | _, _, _ + 1, .nil => .nil
  | _, _, n + 1, .cons r t => .cons r (RpL.take n t)
theorem RpL.drop {α : Type} [Rp α] {Γ : Gm} {G : Hp} : ∀ {vs : List V} {xs : List α} (n : Nat), RpL Γ G vs xs → RpL Γ G (vs.drop n) (xs.drop n)
  | _, _, 0, r => r
  | _, _, _ + 1, .nil => .nil
  | _, _, n + 1, .cons _ t => RpL.drop n t
theorem RpL.set {α : Type} [Rp α] {Γ : Gm} {G : Hp} {v : V} {x : α} (r : rep Γ G v x) : ∀ {vs : List V} {xs : List α} (i : Nat), RpL Γ G vs xs → RpL Γ G (vs.set i v) (xs.set i x)
  | _, _, _, .nil => .nil
  | _, _, 0, .cons _ t => .cons r t
  | _, _, i + 1, .cons q t => .cons q (RpL.set r i t)
theorem RpL.erase {α : Type} [Rp α] {Γ : Gm} {G : Hp} : ∀ {vs : List V} {xs : List α} (i : Nat), RpL Γ G vs xs → RpL Γ G (vs.eraseIdx i) (xs.eraseIdx i)
  | _, _, _, .nil => .nil
  | _, _, 0, .cons _ t => t
  | _, _, i + 1, .cons q t => .cons q (RpL.erase i t)
theorem RpL.reverse {α : Type} [Rp α] {Γ : Gm} {G : Hp} : ∀ {vs : List V} {xs : List α}, RpL Γ G vs xs → RpL Γ G vs.reverse xs.reverse
  | _, _, .nil => .nil
  | _, _, .cons r t => by
    rw [List.reverse_cons, List.reverse_cons]
    exact (RpL.reverse t).append (.cons r .nil)
theorem RpL.dropLast {α : Type} [Rp α] {Γ : Gm} {G : Hp} {vs : List V} {xs : List α} (h : RpL Γ G vs xs) : RpL Γ G vs.dropLast xs.dropLast := by
  rw [List.dropLast_eq_take, List.dropLast_eq_take, h.length]
  exact h.take _
theorem RpL.toV {α : Type} [At1 α] {Γ : Gm} {G : Hp} : ∀ {vs : List V} {xs : List α}, RpL Γ G vs xs → vs = xs.map At1.toV
  | _, _, .nil => rfl
  | _, _, .cons r t => by
    rw [List.map_cons, RpL.toV t, rep1 r]
theorem RpL.ofV {α : Type} [At1 α] {Γ : Gm} {G : Hp} : ∀ (xs : List α), RpL Γ G (xs.map At1.toV) xs
  | [] => .nil
  | x :: r => .cons rfl (RpL.ofV r)

instance instRpList {α : Type} [Rp α] : Rp (List α) := ⟨fun Γ G v xs => ∃ a vs, v = .ref a ∧ G a = some (.lst vs) ∧ RpL Γ G vs xs, fun e ⟨a, vs, h1, h2, h3⟩ => ⟨a, vs, h1, e _ _ h2, h3.mono e⟩⟩
instance instRpProd {α β : Type} [Rp α] [Rp β] : Rp (α × β) := ⟨fun Γ G v p => ∃ a x y, v = .ref a ∧ G a = some (.tup [x, y]) ∧ rep Γ G x p.1 ∧ rep Γ G y p.2, fun e ⟨a, x, y, h1, h2, h3, h4⟩ => ⟨a, x, y, h1, e _ _ h2, Rp.mono e h3, Rp.mono e h4⟩⟩
/-- three in a tuple -/
structure T3 (α β γ : Type) where
  a : α
  b : β
  c : γ
  deriving DecidableEq
instance instRpT3 {α β γ : Type} [Rp α] [Rp β] [Rp γ] : Rp (T3 α β γ) := ⟨fun Γ G v p => ∃ a x y z, v = .ref a ∧ G a = some (.tup [x, y, z]) ∧ rep Γ G x p.a ∧ rep Γ G y p.b ∧ rep Γ G z p.c, fun e ⟨a, x, y, z, h1, h2, h3, h4, h5⟩ => ⟨a, x, y, z, h1, e _ _ h2, Rp.mono e h3, Rp.mono e h4, Rp.mono e h5⟩⟩
/-- a tuple of any length, its items alike -/
structure TL (α : Type) where
  l : List α
  deriving DecidableEq
instance instRpTL {α : Type} [Rp α] : Rp (TL α) := ⟨fun Γ G v xs => ∃ a vs, v = .ref a ∧ G a = some (.tup vs) ∧ RpL Γ G vs xs.l, fun e ⟨a, vs, h1, h2, h3⟩ => ⟨a, vs, h1, e _ _ h2, h3.mono e⟩⟩
instance instRpOption {α : Type} [Rp α] : Rp (Option α) := ⟨fun Γ G v o => match o with | none => v = .non | some a => v ≠ .non ∧ rep Γ G v a, fun {_ _ _ _ o} e h => by
  cases o with
  | none => exact h
  | some a => exact ⟨h.1, Rp.mono e h.2⟩⟩
/-- the script -/
structure Scr where
  l : List Int
instance : Rp Scr := ⟨fun Γ G v xs => ∃ a, v = .ref a ∧ SqL Γ.K G a (xs.l.map V.int), fun {_ G G' _ _} e ⟨a, h1, h2⟩ => ⟨a, h1, by
  rcases h2 with (h | ⟨o, h⟩) | h
  · exact .inl (.inl (e _ _ h))
  · exact .inl (.inr ⟨o, e _ _ h⟩)
  · exact .inr h⟩⟩

/-! dicts -/
class K1 (κ : Type) where
  key : κ → Key
  inj : ∀ a b, key a = key b → a = b
open K1 (key)
class KT (κ : Type) where
  keys : κ → List Key
  inj : ∀ a b, keys a = keys b → a = b
open KT (keys)
instance : K1 Int := ⟨Sum.inl, fun _ _ h => Sum.inl.inj h⟩
instance : K1 Tt := ⟨fun t => Sum.inr t.s, fun _ _ h => Tt.ext' (Sum.inr.inj h)⟩
instance {α β : Type} [K1 α] [K1 β] : KT (α × β) := ⟨fun p => [key p.1, key p.2], fun a b h => by
  have h1 := List.cons.inj h
  have h2 := List.cons.inj h1.2
  exact Prod.ext (K1.inj _ _ h1.1) (K1.inj _ _ h2.1)⟩
theorem keys_map_inj {α : Type} [K1 α] : ∀ {xs ys : List α}, xs.map (key (κ := α)) = ys.map key → xs = ys
  | [], [], _ => rfl
  | [], _ :: _, h => by cases h
  | _ :: _, [], h => by cases h
  | x :: r, y :: t, h => by
    rw [List.map_cons, List.map_cons] at h
    have h1 := List.cons.inj h
    rw [K1.inj _ _ h1.1, keys_map_inj h1.2]
instance {α : Type} [K1 α] : KT (TL α) := ⟨fun p => p.l.map key, fun ⟨a⟩ ⟨b⟩ h => congrArg TL.mk (keys_map_inj h)⟩
/-- a dict by its pairs, in order; keys ints or texts -/
structure DK (κ α : Type) where
  l : List (κ × α)
/-- .. keys tuples of such -/
structure DT (κ α : Type) where
  l : List (κ × α)
abbrev RpK {κ α : Type} [K1 κ] [Rp α] (Γ : Gm) (G : Hp) : List (Key × V) → List (κ × α) → Prop := Paired fun p q => p.1 = key q.1 ∧ rep Γ G p.2 q.2
abbrev RpT {κ α : Type} [KT κ] [Rp α] (Γ : Gm) (G : Hp) : List (List Key × V) → List (κ × α) → Prop := Paired fun p q => p.1 = keys q.1 ∧ rep Γ G p.2 q.2
theorem RpK.mono {κ α : Type} [K1 κ] [Rp α] {Γ : Gm} {G G' : Hp} (e : Le G G') {vs : List (Key × V)} {xs : List (κ × α)} (h : RpK Γ G vs xs) : RpK Γ G' vs xs := Paired.mapP h fun _ _ r => ⟨r.1, Rp.mono e r.2⟩
theorem RpT.mono {κ α : Type} [KT κ] [Rp α] {Γ : Gm} {G G' : Hp} (e : Le G G') {vs : List (List Key × V)} {xs : List (κ × α)} (h : RpT Γ G vs xs) : RpT Γ G' vs xs := Paired.mapP h fun _ _ r => ⟨r.1, Rp.mono e r.2⟩
instance instRpDK {κ α : Type} [K1 κ] [Rp α] : Rp (DK κ α) := ⟨fun Γ G v d => ∃ a kvs ob, v = .ref a ∧ G a = some (.frz ob (.dK kvs)) ∧ RpK Γ G kvs d.l, fun e ⟨a, vs, ob, h1, h2, h3⟩ => ⟨a, vs, ob, h1, e _ _ h2, h3.mono e⟩⟩
instance instRpDT {κ α : Type} [KT κ] [Rp α] : Rp (DT κ α) := ⟨fun Γ G v d => ∃ a kvs ob, v = .ref a ∧ G a = some (.frz ob (.dT kvs)) ∧ RpT Γ G kvs d.l, fun e ⟨a, vs, ob, h1, h2, h3⟩ => ⟨a, vs, ob, h1, e _ _ h2, h3.mono e⟩⟩

/-! ### objects that the def at hand may change -/
/-- the heap G with what H holds at fp -/
def frzd (G H : Hp) (fp : List Addr) : Hp := fun x => if x ∈ fp then H x else G x
/-- g is not frozen, or it is a tuple, which nobody changes -/
abbrev Th (o g : Option HO) : Prop := g = none ∨ ∃ vs, o = some (.tup vs)
theorem Th.trans {o g g' : Option HO} (h : Th o g) (k : g = none → Th o g') : Th o g' := h.elim k .inr
theorem Th.none {o g : Option HO} (h : Th o g) (n : ∀ vs, o ≠ some (.tup vs)) : g = Option.none := h.elim id fun ⟨vs, e⟩ => absurd e (n vs)
theorem Th.no {o g : Option HO} {u : HO} (h : Th o g) (e : o = some u) (n : ∀ vs, u ≠ .tup vs := by intro vs e; cases e) : g = Option.none := h.none fun ws e2 => by
  rw [e] at e2
  exact n ws (Option.some.inj e2)
class Ow (α : Type) where
  own : Gm → Hp → Hp → V → List Addr → α → Prop
  stay : ∀ {Γ : Gm} {G G' H H' : Hp} {v : V} {fp : List Addr} {a : α}, own Γ G H v fp a → Le G G' → (∀ x ∈ fp, ∀ o, H x = some o → H' x = some o) → own Γ G' H' v fp a
  there : ∀ {Γ : Gm} {G H : Hp} {v : V} {fp : List Addr} {a : α}, own Γ G H v fp a → ∀ x ∈ fp, H x ≠ none
  nt : ∀ {Γ : Gm} {G H : Hp} {v : V} {fp : List Addr} {a : α}, own Γ G H v fp a → ∀ x ∈ fp, ∀ vs, H x ≠ some (.tup vs)
  F : Type
  iF : Rp F
  toF : α → F
  canF : Bool
  fz : canF = true → ∀ {Γ : Gm} {G H : Hp} {v : V} {fp : List Addr} {a : α} (ob : Addr → Obj), own Γ G H v fp a → Le G (frzd G (lkd H fp ob) fp) → rep Γ (frzd G (lkd H fp ob) fp) v (toF a)
open Ow (own)
/-- a list of one's own -/
structure OL (α : Type) where
  l : List α
structure OK (κ α : Type) where
  l : List (κ × α)
structure OT (κ α : Type) where
  l : List (κ × α)
theorem some_ne {α : Type} {x : Option α} {a : α} (h : x = some a) : x ≠ none := by rw [h]; simp
theorem frzd_one {G H : Hp} {a : Addr} : frzd G H [a] a = H a := if_pos (List.mem_singleton.mpr rfl)
instance instOwOL {α : Type} [Rp α] : Ow (OL α) where
  own := fun Γ G H v fp xs => ∃ a vs, v = .ref a ∧ fp = [a] ∧ H a = some (.lst vs) ∧ RpL Γ G vs xs.l
  stay := fun ⟨a, vs, h1, h2, h3, h4⟩ e k => ⟨a, vs, h1, h2, k a (by rw [h2]; exact List.mem_cons_self) _ h3, h4.mono e⟩
  there := fun ⟨a, vs, h1, h2, h3, h4⟩ x hx => by
    rw [h2] at hx
    rw [List.mem_singleton.mp hx]
    exact some_ne h3
  nt := fun ⟨a, vs, h1, h2, h3, h4⟩ x hx ws e => by
    rw [h2] at hx
    rw [List.mem_singleton.mp hx, h3] at e
    cases e
  F := List α
  iF := instRpList
  toF := fun x => x.l
  canF := true
  fz := fun _ _ _ _ _ _ _ ob ⟨a, vs, h1, h2, h3, h4⟩ le => ⟨a, vs, h1, by rw [h2, frzd_one]; exact lkd_nd h3 fun q => q, h4.mono le⟩
instance instOwOK {κ α : Type} [K1 κ] [Rp α] : Ow (OK κ α) where
  own := fun Γ G H v fp d => ∃ a vs, v = .ref a ∧ fp = [a] ∧ H a = some (.dK vs) ∧ RpK Γ G vs d.l
  stay := fun ⟨a, vs, h1, h2, h3, h4⟩ e k => ⟨a, vs, h1, h2, k a (by rw [h2]; exact List.mem_cons_self) _ h3, h4.mono e⟩
  there := fun ⟨a, vs, h1, h2, h3, h4⟩ x hx => by
    rw [h2] at hx
    rw [List.mem_singleton.mp hx]
    exact some_ne h3
  nt := fun ⟨a, vs, h1, h2, h3, h4⟩ x hx ws e => by
    rw [h2] at hx
    rw [List.mem_singleton.mp hx, h3] at e
    cases e
  F := DK κ α
  iF := instRpDK
  toF := fun x => ⟨x.l⟩
  canF := true
  fz := fun _ _ _ _ _ _ _ ob ⟨a, vs, h1, h2, h3, h4⟩ le => ⟨a, vs, ob a, h1, by rw [h2, frzd_one]; exact lkd_d (List.mem_singleton.mpr rfl) h3 trivial, h4.mono le⟩
instance instOwOT {κ α : Type} [KT κ] [Rp α] : Ow (OT κ α) where
  own := fun Γ G H v fp d => ∃ a vs, v = .ref a ∧ fp = [a] ∧ H a = some (.dT vs) ∧ RpT Γ G vs d.l
  stay := fun ⟨a, vs, h1, h2, h3, h4⟩ e k => ⟨a, vs, h1, h2, k a (by rw [h2]; exact List.mem_cons_self) _ h3, h4.mono e⟩
  there := fun ⟨a, vs, h1, h2, h3, h4⟩ x hx => by
    rw [h2] at hx
    rw [List.mem_singleton.mp hx]
    exact some_ne h3
  nt := fun ⟨a, vs, h1, h2, h3, h4⟩ x hx ws e => by
    rw [h2] at hx
    rw [List.mem_singleton.mp hx, h3] at e
    cases e
  F := DT κ α
  iF := instRpDT
  toF := fun x => ⟨x.l⟩
  canF := true
  fz := fun _ _ _ _ _ _ _ ob ⟨a, vs, h1, h2, h3, h4⟩ le => ⟨a, vs, ob a, h1, by rw [h2, frzd_one]; exact lkd_d (List.mem_singleton.mpr rfl) h3 trivial, h4.mono le⟩

/-! ### the abstract store -/
inductive Slot : Type 1
  | dead : Slot
  | val (α : Type) (i : Rp α) (a : α) : Slot
  | own (α : Type) (i : Ow α) (a : α) : Slot
abbrev Sto := List Slot
abbrev vl {α : Type} [i : Rp α] (a : α) : Slot := .val α i a
abbrev ow {α : Type} [i : Ow α] (a : α) : Slot := .own α i a
def SlotOk (Γ : Gm) (G H : Hp) (o : Option V) (s : Slot) (fp : List Addr) : Prop :=
  match s with
  | .dead => fp = []
  | .val _ i a => fp = [] ∧ ∃ v, o = some v ∧ i.rep Γ G v a
  | .own _ i a => ∃ v, o = some v ∧ i.own Γ G H v fp a
/-- every slot holds what the store says; the footprints φ stand apart -/
structure SlotsOk (Γ : Gm) (G H : Hp) (σ : St) (ρ : Sto) (φ : Nat → List Addr) : Prop where
  len : σ.length = ρ.length
  ok : ∀ i s, ρ[i]? = some s → ∃ o, σ[i]? = some o ∧ SlotOk Γ G H o s (φ i)
  apart : ∀ i j x, x ∈ φ i → x ∈ φ j → i = j
  out : ∀ i, ρ.length ≤ i → φ i = []
/-- where a def's body began: what was frozen, the heap, the objects handed in to be changed -/
structure Bs where
  G : Hp
  H : Hp
  M : List Addr
  σ : St
  fx : List Nat
structure At (Γ : Gm) (B : Bs) (ρ : Sto) (G H : Hp) (σ : St) : Prop where
  sub : Sub G H
  le : Le B.G G
  keep : ∀ a o, a ∉ B.M → B.H a = some o → H a = some o
  live : ∀ a, B.H a ≠ none → H a ≠ none
  thin : ∀ a, a ∉ B.M → B.H a ≠ none → B.G a = none → Th (B.H a) (G a)
  slots : ∃ φ, SlotsOk Γ G H σ ρ φ ∧ ∀ i, ∀ a ∈ φ i, G a = none ∧ (B.H a = none ∨ a ∈ B.M)
  fix : ∀ i ∈ B.fx, σ[i]? = B.σ[i]?

/-- the heap grows, nothing tracked changes, the new things may be frozen -/
structure Grow (G H G' H' : Hp) : Prop where
  leG : Le G G'
  leH : Le H H'
  sub : Sub G' H'
  thin : ∀ a, H a ≠ none → G a = none → Th (H a) (G' a)
theorem Grow.refl {G H : Hp} (s : Sub G H) : Grow G H G H := ⟨.refl _, .refl _, s, fun _ _ h => .inl h⟩
theorem Grow.trans {G H G1 H1 G2 H2 : Hp} (a : Grow G H G1 H1) (b : Grow G1 H1 G2 H2) : Grow G H G2 H2 :=
  ⟨a.leG.trans b.leG, a.leH.trans b.leH, b.sub, fun x hx hg => by
    cases q : H x with
    | none => exact absurd q hx
    | some o =>
      have e := a.leH x o q
      rcases a.thin x hx hg with w | w
      · have t := b.thin x (some_ne e) w
        rw [e] at t
        exact t
      · rw [q] at w
        exact .inr w⟩
/-- a new frozen object -/
theorem Grow.new {G H : Hp} (s : Sub G H) {p : Addr} (h : H p = none) (o : HO) : Grow G H (upd G p o) (upd H p o) := by
  have hg := s.none h
  refine ⟨fun a u e => ?_, fun a u e => ?_, fun a u e => ?_, fun a ha e => ?_⟩
  · rw [upd_ne (ne_of_none e hg)]; exact e
  · rw [upd_ne (ne_of_none e h)]; exact e
  · by_cases z : a = p
    · subst z; rw [upd_same] at e ⊢; exact e
    · rw [upd_ne z] at e ⊢; exact s a u e
  · have z : a ≠ p := fun z => ha (z ▸ h)
    rw [upd_ne z]; exact .inl e
/-- a new object that is not frozen -/
theorem Grow.newO {G H : Hp} (s : Sub G H) {p : Addr} (h : H p = none) (o : HO) : Grow G H G (upd H p o) := by
  refine ⟨.refl _, fun a u e => ?_, fun a u e => ?_, fun a ha e => .inl e⟩
  · rw [upd_ne (ne_of_none e h)]; exact e
  · have z : a ≠ p := fun z => s.some e (z ▸ h)
    rw [upd_ne z]; exact s a u e
theorem SlotOk.grow {Γ : Gm} {G H G' H' : Hp} {o : Option V} {s : Slot} {fp : List Addr} (e : Le G G') (k : ∀ x ∈ fp, ∀ o, H x = some o → H' x = some o) (h : SlotOk Γ G H o s fp) : SlotOk Γ G' H' o s fp := by
  cases s with
  | dead => exact h
  | val α i a => obtain ⟨h1, v, h2, h3⟩ := h; exact ⟨h1, v, h2, i.mono e h3⟩
  | own α i a => obtain ⟨v, h2, h3⟩ := h; exact ⟨v, h2, i.stay h3 e k⟩
theorem SlotsOk.grow {Γ : Gm} {G H G' H' : Hp} {σ : St} {ρ : Sto} {φ : Nat → List Addr} (e : Le G G') (h : SlotsOk Γ G H σ ρ φ) (k : ∀ i, ∀ x ∈ φ i, ∀ o, H x = some o → H' x = some o) : SlotsOk Γ G' H' σ ρ φ :=
  ⟨h.len, fun i s hs => by
    obtain ⟨o, h1, h2⟩ := h.ok i s hs
    exact ⟨o, h1, h2.grow e (k i)⟩, h.apart, h.out⟩
theorem SlotOk.there {Γ : Gm} {G H : Hp} {o : Option V} {s : Slot} {fp : List Addr} (h : SlotOk Γ G H o s fp) : ∀ x ∈ fp, H x ≠ none := by
  intro x hx
  cases s with
  | dead => rw [show fp = [] from h] at hx; simp at hx
  | val α i a => rw [h.1] at hx; simp at hx
  | own α i a => obtain ⟨v, _, h3⟩ := h; exact i.there h3 x hx
theorem SlotsOk.there {Γ : Gm} {G H : Hp} {σ : St} {ρ : Sto} {φ : Nat → List Addr} (h : SlotsOk Γ G H σ ρ φ) : ∀ i, ∀ x ∈ φ i, H x ≠ none := by
  intro i x hx
  cases q : ρ[i]? with
  | none =>
    rw [h.out i (List.getElem?_eq_none_iff.mp q)] at hx
    simp at hx
  | some s =>
    obtain ⟨o, _, h2⟩ := h.ok i s q
    exact h2.there x hx
theorem SlotOk.nt {Γ : Gm} {G H : Hp} {o : Option V} {s : Slot} {fp : List Addr} (h : SlotOk Γ G H o s fp) : ∀ x ∈ fp, ∀ vs, H x ≠ some (.tup vs) := by
  intro x hx
  cases s with
  | dead => rw [show fp = [] from h] at hx; simp at hx
  | val α i a => rw [h.1] at hx; simp at hx
  | own α i a => obtain ⟨v, _, h3⟩ := h; exact i.nt h3 x hx
theorem SlotsOk.nt {Γ : Gm} {G H : Hp} {σ : St} {ρ : Sto} {φ : Nat → List Addr} (h : SlotsOk Γ G H σ ρ φ) : ∀ i, ∀ x ∈ φ i, ∀ vs, H x ≠ some (.tup vs) := by
  intro i x hx
  cases q : ρ[i]? with
  | none =>
    rw [h.out i (List.getElem?_eq_none_iff.mp q)] at hx
    simp at hx
  | some s =>
    obtain ⟨o, _, h2⟩ := h.ok i s q
    exact h2.nt x hx
theorem Grow.live {G H G' H' : Hp} (g : Grow G H G' H') {a : Addr} (h : H a ≠ none) : H' a ≠ none := by
  cases q : H a with
  | none => exact absurd q h
  | some o => exact some_ne (g.leH a o q)
theorem At.thinT {Γ : Gm} {B : Bs} {ρ : Sto} {G H G' : Hp} {σ : St} (A : At Γ B ρ G H σ) (t : ∀ a, H a ≠ none → G a = none → Th (H a) (G' a)) : ∀ a, a ∉ B.M → B.H a ≠ none → B.G a = none → Th (B.H a) (G' a) := fun a hm ha hb => (A.thin a hm ha hb).trans fun hg => by
  have t := t a (A.live a ha) hg
  cases q : B.H a with
  | none => exact absurd q ha
  | some o => rw [A.keep a o hm q] at t; exact t
theorem At.grow {Γ : Gm} {B : Bs} {ρ : Sto} {G H G' H' : Hp} {σ : St} (A : At Γ B ρ G H σ) (g : Grow G H G' H') : At Γ B ρ G' H' σ := by
  obtain ⟨φ, h1, h3⟩ := A.slots
  exact ⟨g.sub, A.le.trans g.leG, fun a o ha e => g.leH a o (A.keep a o ha e), fun a ha => g.live (A.live a ha), A.thinT g.thin,
    ⟨φ, h1.grow g.leG fun i x _ o e => g.leH x o e, fun i a ha => ⟨(g.thin a (h1.there i a ha) (h3 i a ha).1).none (h1.nt i a ha), (h3 i a ha).2⟩⟩, A.fix⟩
end Sim

set_option Elab.async false
set_option autoImplicit false
set_option linter.all false
set_option maxRecDepth 100000
set_option maxHeartbeats 1000000
namespace Sim
open PySem L2
open Rp (rep)
open At1 (toV)
open K1 (key)
open KT (keys)
open Ow (own)

/-! ### slots -/
def setφ (φ : Nat → List Addr) (i : Nat) (fp : List Addr) : Nat → List Addr := fun j => if j = i then fp else φ j
theorem setφ_same {φ : Nat → List Addr} {i : Nat} {fp : List Addr} : setφ φ i fp i = fp := if_pos rfl
theorem setφ_ne {φ : Nat → List Addr} {i j : Nat} {fp : List Addr} (h : j ≠ i) : setφ φ i fp j = φ j := if_neg h
theorem mem_setφ {φ : Nat → List Addr} {i j : Nat} {fp : List Addr} {x : Addr} (h : x ∈ setφ φ i fp j) : (j = i ∧ x ∈ fp) ∨ (j ≠ i ∧ x ∈ φ j) := by
  by_cases e : j = i
  · subst e; rw [setφ_same] at h; exact .inl ⟨rfl, h⟩
  · rw [setφ_ne e] at h; exact .inr ⟨e, h⟩
/-- a slot is stored -/
theorem SlotsOk.set {Γ : Gm} {G H : Hp} {σ : St} {ρ : Sto} {φ : Nat → List Addr} (h : SlotsOk Γ G H σ ρ φ) {i : Nat} (hi : i < ρ.length) {o : Option V} {s : Slot} {fp : List Addr} (q : SlotOk Γ G H o s fp) (ap : ∀ j x, j ≠ i → x ∈ fp → x ∉ φ j) :
    SlotsOk Γ G H (σ.set i o) (ρ.set i s) (setφ φ i fp) := by
  refine ⟨by simp [h.len], fun j s' hj => ?_, fun j k x hx hy => ?_, fun j hj => ?_⟩
  · by_cases e : j = i
    · subst e
      rw [List.getElem?_set_self hi] at hj
      cases hj
      exact ⟨o, by rw [List.getElem?_set_self (by rw [h.len]; exact hi)], by rw [setφ_same]; exact q⟩
    · rw [List.getElem?_set_ne (Ne.symm e)] at hj
      obtain ⟨o', h1, h2⟩ := h.ok j s' hj
      exact ⟨o', by rw [List.getElem?_set_ne (Ne.symm e)]; exact h1, by rw [setφ_ne e]; exact h2⟩
  · rcases mem_setφ hx with ⟨e, hx⟩ | ⟨e, hx⟩ <;> rcases mem_setφ hy with ⟨e', hy⟩ | ⟨e', hy⟩
    · rw [e, e']
    · exact absurd hy (ap k x e' hx)
    · exact absurd hx (ap j x e hy)
    · exact h.apart j k x hx hy
  · have z : j ≠ i := by
      intro z
      rw [List.length_set, z] at hj
      omega
    rw [setφ_ne z]
    exact h.out j (by simpa using hj)
/-! ### locks on the way -/
section
variable {Γ : Gm} {B : Bs} {ρ : Sto} {G H : Hp} {σ : St}
/-- a value is stored -/
theorem At.setV {α : Type} [I : Rp α] {v : V} {a : α} {i : Nat} (A : At Γ B ρ G H σ) (hi : i < ρ.length) (r : rep Γ G v a) (nf : i ∉ B.fx) : At Γ B (ρ.set i (vl a)) G H (σ.set i (some v)) := by
  obtain ⟨φ, h1, h3⟩ := A.slots
  refine ⟨A.sub, A.le, A.keep, A.live, A.thin, ⟨setφ φ i [], h1.set hi ⟨rfl, v, rfl, r⟩ fun j x _ hx => by simp at hx, fun j a ha => ?_⟩, fun j hj => by
    rw [List.getElem?_set_ne fun z => nf (by rw [z]; exact hj)]
    exact A.fix j hj⟩
  rcases mem_setφ ha with ⟨_, q⟩ | ⟨_, q⟩
  · simp at q
  · exact h3 j a q
/-- a new object of one's own is stored -/
theorem At.setN {α : Type} [I : Ow α] {p : Addr} {o : HO} {v : V} {a : α} {i : Nat} (A : At Γ B ρ G H σ) (hi : i < ρ.length) (hp : H p = none) (r : own Γ G (upd H p o) v [p] a) (nf : i ∉ B.fx) : At Γ B (ρ.set i (ow a)) G (upd H p o) (σ.set i (some v)) := by
  have g := Grow.newO A.sub hp o
  obtain ⟨φ, h1, h3⟩ := A.slots
  have h1' := h1.grow (.refl G) (H' := upd H p o) fun j x _ u e => g.leH x u e
  have A' := A.grow g
  refine ⟨A'.sub, A'.le, A'.keep, A'.live, A'.thin, ⟨setφ φ i [p], h1'.set hi ⟨v, rfl, r⟩ fun j x hj hx hm => ?_, fun j a ha => ?_⟩, fun j hj => by
    rw [List.getElem?_set_ne fun z => nf (by rw [z]; exact hj)]
    exact A.fix j hj⟩
  · rw [List.mem_singleton.mp hx] at hm
    exact h1.there j p hm hp
  · rcases mem_setφ ha with ⟨_, q⟩ | ⟨_, q⟩
    · rw [List.mem_singleton.mp q]
      refine ⟨A.sub.none hp, .inl ?_⟩
      cases z : B.H p with
      | none => rfl
      | some u => exact absurd hp (A.live p (some_ne z))
    · exact h3 j a q
/-- a list of one's own is changed -/
theorem At.setO {α α' : Type} {I : Ow α} {I' : Ow α'} {p : Addr} {a : α} {a' : α'} {i : Nat} {ob : HO} (A : At Γ B ρ G H σ) (hi : ρ[i]? = some (.own α I a)) (hf : ∀ v fp, I.own Γ G H v fp a → ∃ q, v = .ref q ∧ fp = [q]) (hp : σ[i]? = some (some (.ref p)))
    (r : I'.own Γ G (upd H p ob) (.ref p) [p] a') : At Γ B (ρ.set i (.own α' I' a')) G (upd H p ob) σ := by
  obtain ⟨φ, h1, h3⟩ := A.slots
  have hi' : i < ρ.length := (List.getElem?_eq_some_iff.mp hi).1
  obtain ⟨o, e1, v, e2, ow'⟩ := h1.ok i _ hi
  obtain ⟨q, e3, e4⟩ := hf v _ ow'
  rw [e2, e3, hp] at e1
  have e1' : p = q := by injection e1 with e1; injection e1 with e1; injection e1
  subst e1'
  have hm : p ∈ φ i := by rw [e4]; exact List.mem_singleton.mpr rfl
  have hne : ∀ j x, j ≠ i → x ∈ φ j → x ≠ p := fun j x hj hx z => hj (h1.apart j i p (z ▸ hx) hm)
  have hs : i < σ.length := by rw [h1.len]; exact hi'
  have eσ : σ.set i (some (.ref p)) = σ := by
    have := List.getElem?_eq_getElem hs
    rw [this] at hp
    rw [← Option.some.inj hp]; simp
  have hpB := h3 i p hm
  refine ⟨fun x u e => ?_, A.le, fun x u hx e => ?_, fun x hx => ?_, A.thin, ⟨setφ φ i [p], ?_, fun j a ha => ?_⟩, A.fix⟩
  · have z : x ≠ p := fun z => by rw [z, hpB.1] at e; cases e
    rw [upd_ne z]; exact A.sub x u e
  · have z : x ≠ p := fun z => by
      rcases hpB.2 with w | w
      · rw [z, w] at e; cases e
      · exact hx (z ▸ w)
    rw [upd_ne z]; exact A.keep x u hx e
  · by_cases z : x = p
    · rw [z, upd_same]; simp
    · rw [upd_ne z]; exact A.live x hx
  · refine ⟨by simp [h1.len], fun j s hj => ?_, fun j k x hx hy => ?_, fun j hj => ?_⟩
    · by_cases z : j = i
      · subst z
        rw [List.getElem?_set_self hi'] at hj
        cases hj
        exact ⟨some (.ref p), hp, .ref p, rfl, by rw [setφ_same]; exact r⟩
      · rw [List.getElem?_set_ne (Ne.symm z)] at hj
        obtain ⟨o', q1, q2⟩ := h1.ok j s hj
        refine ⟨o', q1, ?_⟩
        rw [setφ_ne z]
        exact q2.grow (.refl _) fun x hx u e => by rw [upd_ne (hne j x z hx)]; exact e
    · rcases mem_setφ hx with ⟨e, hx⟩ | ⟨e, hx⟩ <;> rcases mem_setφ hy with ⟨e', hy⟩ | ⟨e', hy⟩
      · rw [e, e']
      · exact absurd (List.mem_singleton.mp hx) (hne k x e' hy)
      · exact absurd (List.mem_singleton.mp hy) (hne j x e hx)
      · exact h1.apart j k x hx hy
    · have z : j ≠ i := by
        intro z
        rw [List.length_set, z] at hj
        omega
      rw [setφ_ne z]
      exact h1.out j (by simpa using hj)
  · rcases mem_setφ ha with ⟨_, q⟩ | ⟨_, q⟩
    · rw [List.mem_singleton.mp q]; exact hpB
    · exact h3 j a q
theorem At.setL {α : Type} [Rp α] {p : Addr} {ws : List V} {xs ys : List α} {i : Nat} (A : At Γ B ρ G H σ) (hi : ρ[i]? = some (ow (OL.mk xs))) (hp : σ[i]? = some (some (.ref p))) (r : RpL Γ G ws ys) : At Γ B (ρ.set i (ow (OL.mk ys))) G (upd H p (.lst ws)) σ :=
  A.setO hi (fun v fp ⟨q, us, e3, e4, _⟩ => ⟨q, e3, e4⟩) hp ⟨p, ws, rfl, rfl, upd_same, r⟩
theorem At.get {α : Type} {I : Rp α} {a : α} {i : Nat} (A : At Γ B ρ G H σ) (h : ρ[i]? = some (.val α I a)) : ∃ v, σ[i]? = some (some v) ∧ rep Γ G v a := by
  obtain ⟨φ, h1, h3⟩ := A.slots
  obtain ⟨o, e, _, v, e2, r⟩ := h1.ok i _ h
  exact ⟨v, by rw [e, e2], r⟩
/-- a slot is given up, or what it holds is frozen -/
def Slot.wk : Slot → Bool → Slot
  | .own _ i a, true => if i.canF then .val i.F i.iF (i.toF a) else .dead
  | .val α i a, true => .val α i a
  | _, _ => .dead
def opAt : List (Nat × Bool) → Nat → Slot → Slot
  | [], _, s => s
  | (i, b) :: r, n, s => if Nat.beq i n = true then s.wk b else opAt r n s
def wksFrom (ops : List (Nat × Bool)) : Nat → Sto → Sto
  | _, [] => []
  | n, s :: r => opAt ops n s :: wksFrom ops (n + 1) r
def wks (ρ : Sto) (ops : List (Nat × Bool)) : Sto := wksFrom ops 0 ρ
theorem wksFrom_get (ops : List (Nat × Bool)) : ∀ (ρ : Sto) (n i : Nat), (wksFrom ops n ρ)[i]? = ρ[i]?.map (opAt ops (n + i))
  | [], n, i => by simp [wksFrom]
  | s :: r, n, 0 => by simp [wksFrom]
  | s :: r, n, i + 1 => by
    have := wksFrom_get ops r (n + 1) i
    simp only [wksFrom, List.getElem?_cons_succ, this]
    rw [show n + 1 + i = n + (i + 1) by omega]
theorem wksFrom_len (ops : List (Nat × Bool)) : ∀ (ρ : Sto) (n : Nat), (wksFrom ops n ρ).length = ρ.length
  | [], n => rfl
  | s :: r, n => by simp [wksFrom, wksFrom_len ops r (n + 1)]
/-- the first n slots are done -/
def wksN (ρ : Sto) (ops : List (Nat × Bool)) (n : Nat) : Sto := (wks ρ ops).take n ++ ρ.drop n
theorem wksN_zero (ρ : Sto) (ops : List (Nat × Bool)) : wksN ρ ops 0 = ρ := by simp [wksN]
theorem wksN_all (ρ : Sto) (ops : List (Nat × Bool)) : wksN ρ ops ρ.length = wks ρ ops := by
  unfold wksN wks
  rw [List.drop_length, List.append_nil, List.take_of_length_le (by rw [wksFrom_len]; exact Nat.le_refl _)]
theorem wksN_succ (ρ : Sto) (ops : List (Nat × Bool)) {n : Nat} {s : Slot} (h : ρ[n]? = some s) : wksN ρ ops (n + 1) = (wksN ρ ops n).set n (opAt ops n s) ∧ (wksN ρ ops n)[n]? = some s := by
  have hn : n < ρ.length := (List.getElem?_eq_some_iff.mp h).1
  have hl : (wks ρ ops).length = ρ.length := wksFrom_len ops ρ 0
  have ht : ((wks ρ ops).take n).length = n := by rw [List.length_take]; omega
  have hd : ρ.drop n = s :: ρ.drop (n + 1) := by
    obtain ⟨h1, h2⟩ := List.getElem?_eq_some_iff.mp h
    rw [List.drop_eq_getElem_cons h1, h2]
  have hw : (wks ρ ops)[n]? = some (opAt ops n s) := by
    have := wksFrom_get ops ρ 0 n
    rw [Nat.zero_add, h] at this
    exact this
  constructor
  · unfold wksN
    rw [hd]
    have e := List.set_append_right (s := List.take n (wks ρ ops)) (t := s :: List.drop (n + 1) ρ) (i := n) (x := opAt ops n s) (by omega)
    refine Eq.trans ?_ e.symm
    rw [ht, Nat.sub_self]
    show _ = List.take n (wks ρ ops) ++ (opAt ops n s :: List.drop (n + 1) ρ)
    rw [List.take_succ, hw]
    simp
  · unfold wksN
    rw [List.getElem?_append_right (by omega), ht, Nat.sub_self, hd]
    rfl
theorem At.drop {i : Nat} (A : At Γ B ρ G H σ) : At Γ B (ρ.set i .dead) G H σ := by
  by_cases hi : i < ρ.length
  · obtain ⟨φ, h1, h3⟩ := A.slots
    have hs : i < σ.length := by rw [h1.len]; exact hi
    have e : σ.set i σ[i] = σ := by simp
    refine ⟨A.sub, A.le, A.keep, A.live, A.thin, ⟨setφ φ i [], ?_, fun j a ha => ?_⟩, A.fix⟩
    · have := h1.set hi (o := σ[i]) (s := .dead) (fp := []) rfl fun j x _ hx => by simp at hx
      rw [e] at this
      exact this
    · rcases mem_setφ ha with ⟨_, q⟩ | ⟨_, q⟩
      · simp at q
      · exact h3 j a q
  · rw [List.set_eq_of_length_le (by omega)]
    exact A
/-! ### locks -/
/-- reached by locking -/
inductive LkT (P : Hp → Prop) : Hp → Prop
  | done {H : Hp} (h : P H) : LkT P H
  | lock {H : Hp} (d : Addr) (u : HO) (h : H d = some u) (mu : Mut (some u)) (k : ∀ od, LkT P (upd H d (.frz od u))) : LkT P H
theorem LkT.mono {P P' : Hp → Prop} {H : Hp} (h : LkT P H) (f : ∀ H, P H → P' H) : LkT P' H := by
  induction h with
  | done h => exact .done (f _ h)
  | lock d u h mu k ih => exact .lock d u h mu fun od => ih od
theorem LkT.join {P : Hp → Prop} {H : Hp} (h : LkT (fun H => LkT P H) H) : LkT P H := by
  induction h with
  | done h => exact h
  | lock d u h mu k ih => exact .lock d u h mu fun od => ih od
theorem LkT.run {P : Hp → Prop} {X : Cx} {pins : List (Addr × Obj)} {σ : St} {H : Hp} {s : Shared} (I : Inv X pins σ H s) (h : LkT P H) : ∃ H', Inv X pins σ H' s ∧ P H' := by
  induction h with
  | done h => exact ⟨_, I, h⟩
  | lock d u h mu k ih =>
    obtain ⟨od, I1⟩ := I.lock h mu
    exact ih od I1
theorem lkd_some {H : Hp} {fp : List Addr} {ob : Addr → Obj} {x : Addr} (h : H x ≠ none) : lkd H fp ob x ≠ none := by
  cases q : H x with
  | none => exact absurd q h
  | some o =>
    by_cases hx : x ∈ fp
    · by_cases n : isDk o
      · rw [lkd_d hx q n]; simp
      · rw [lkd_nd q n]; simp
    · rw [lkd_out hx, q]; simp
theorem lkd_T {P : Hp → Prop} : ∀ (fp : List Addr) {H : Hp}, (∀ ob, P (lkd H fp ob)) → LkT P H
  | [], H, h => .done (by
    have := h fun _ => default
    have e : lkd H [] (fun _ => default) = H := by funext x; unfold lkd; simp
    rw [e] at this; exact this)
  | a :: r, H, h => by
    have same : ¬ (∃ o, H a = some o ∧ isDk o) → LkT P H := fun hn => lkd_T r fun ob => by
      have e : lkd H r ob = lkd H (a :: r) ob := by
        funext x
        by_cases hx : x ∈ r
        · unfold lkd; rw [if_pos hx, if_pos (List.mem_cons_of_mem _ hx)]
        · by_cases hxa : x = a
          · subst hxa
            rw [lkd_out hx]
            cases q : H x with
            | none => unfold lkd; rw [if_pos List.mem_cons_self, q]
            | some o => rw [lkd_nd q fun n => hn ⟨o, q, n⟩]
          · rw [lkd_out hx, lkd_out]
            intro z
            rcases List.mem_cons.mp z with z | z
            · exact hxa z
            · exact hx z
      rw [e]; exact h ob
    have go : ∀ o, H a = some o → isDk o → Mut (some o) → LkT P H := fun o ho hd mu => .lock a o ho mu fun od => lkd_T r fun ob => by
      have e : lkd (upd H a (.frz od o)) r ob = lkd H (a :: r) (fun x => if x = a then od else ob x) := by
        funext x
        by_cases hxa : x = a
        · subst hxa
          rw [lkd_d (List.mem_cons_self) ho hd, if_pos rfl]
          exact lkd_nd upd_same fun q => q
        · by_cases hx : x ∈ r
          · unfold lkd
            rw [if_pos hx, if_pos (List.mem_cons_of_mem _ hx), upd_ne hxa]
            simp only [if_neg hxa]
          · rw [lkd_out hx, upd_ne hxa, lkd_out]
            intro z
            rcases List.mem_cons.mp z with z | z
            · exact hxa z
            · exact hx z
      rw [e]; exact h _
    cases q : H a with
    | none => exact same fun ⟨o, h1, _⟩ => by rw [q] at h1; cases h1
    | some o =>
      cases o with
      | dK k => exact go _ q trivial trivial
      | dT k => exact go _ q trivial trivial
      | _ => exact same fun ⟨o, h1, h2⟩ => by rw [q] at h1; cases h1; exact h2
/-- without what stands at fp -/
def drpd (G : Hp) (fp : List Addr) : Hp := fun x => if x ∈ fp then none else G x
theorem At.freezeX {α : Type} {I : Ow α} {a : α} {i : Nat} (A : At Γ B ρ G H σ) (h : ρ[i]? = some (.own α I a)) (hc : I.canF = true) {φ : Nat → List Addr} (h1 : SlotsOk Γ G H σ ρ φ) (h3 : ∀ i, ∀ a ∈ φ i, G a = none ∧ (B.H a = none ∨ a ∈ B.M)) (ob : Addr → Obj) : Le G (frzd G (lkd H (φ i) ob) (φ i)) ∧ At Γ B (ρ.set i (.val I.F I.iF (I.toF a))) (frzd G (lkd H (φ i) ob) (φ i)) (lkd H (φ i) ob) σ := by
  have hi : i < ρ.length := (List.getElem?_eq_some_iff.mp h).1
  obtain ⟨o, e1, v, e2, ow⟩ := h1.ok i _ h
  have le : Le G (frzd G (lkd H (φ i) ob) (φ i)) := fun x u e => by
    have hx : x ∉ φ i := fun hx => by rw [(h3 i x hx).1] at e; cases e
    show (if x ∈ φ i then lkd H (φ i) ob x else G x) = some u
    rw [if_neg hx]; exact e
  have hs : i < σ.length := by rw [h1.len]; exact hi
  have e : σ.set i (some v) = σ := by
    rw [e2] at e1
    have : σ[i] = some v := by
      have := List.getElem?_eq_getElem hs
      rw [this] at e1
      exact Option.some.inj e1
    rw [← this]; simp
  refine ⟨le, fun x u q => ?_, A.le.trans le, fun x u hx q => ?_, fun x hx => lkd_some (A.live x hx), fun x hxm hx hb => ?_, ⟨setφ φ i [], ?_, fun j x hx => ?_⟩, A.fix⟩
  · by_cases hx : x ∈ φ i
    · have q' : (if x ∈ φ i then lkd H (φ i) ob x else G x) = some u := q
      rw [if_pos hx] at q'
      exact q'
    · have q' : (if x ∈ φ i then lkd H (φ i) ob x else G x) = some u := q
      rw [if_neg hx] at q'
      rw [lkd_out hx]
      exact A.sub x u q'
  · have hm : x ∉ φ i := fun hm => by
      rcases (h3 i x hm).2 with w | w
      · rw [w] at q; cases q
      · exact hx w
    rw [lkd_out hm]; exact A.keep x u hx q
  · by_cases hm : x ∈ φ i
    · rcases (h3 i x hm).2 with q | q
      · exact absurd q hx
      · exact absurd q hxm
    · show Th _ (if x ∈ φ i then lkd H (φ i) ob x else G x)
      rw [if_neg hm]; exact A.thin x hxm hx hb
  · have h2 : SlotsOk Γ (frzd G (lkd H (φ i) ob) (φ i)) (lkd H (φ i) ob) σ (ρ.set i .dead) (setφ φ i []) := by
      refine ⟨by simp [h1.len], fun j s hj => ?_, fun j k x hx hy => ?_, fun j hj => ?_⟩
      · by_cases z : j = i
        · subst z
          rw [List.getElem?_set_self hi] at hj
          cases hj
          exact ⟨o, e1, by rw [setφ_same]; exact rfl⟩
        · rw [List.getElem?_set_ne (Ne.symm z)] at hj
          obtain ⟨o', q1, q2⟩ := h1.ok j s hj
          refine ⟨o', q1, ?_⟩
          rw [setφ_ne z]
          exact q2.grow le fun x hx u e => by rw [lkd_out fun hm => z (h1.apart j i x hx hm)]; exact e
      · rcases mem_setφ hx with ⟨e, hx⟩ | ⟨e, hx⟩
        · simp at hx
        · rcases mem_setφ hy with ⟨e', hy⟩ | ⟨e', hy⟩
          · simp at hy
          · exact h1.apart j k x hx hy
      · have z : j ≠ i := by
          intro z
          rw [List.length_set, z] at hj
          omega
        rw [setφ_ne z]
        exact h1.out j (by simpa using hj)
    have := h2.set (i := i) (by simpa using hi) (o := some v) (s := .val I.F I.iF (I.toF a)) (fp := []) ⟨rfl, v, rfl, I.fz hc ob ow le⟩ fun j x _ hx => by simp at hx
    rw [e, List.set_set] at this
    have ee : setφ (setφ φ i []) i [] = setφ φ i [] := by
      funext j
      unfold setφ
      by_cases hj : j = i
      · rw [if_pos hj, if_pos hj]
      · rw [if_neg hj, if_neg hj]
    rw [ee] at this
    exact this
  · rcases mem_setφ hx with ⟨_, q⟩ | ⟨hj, q⟩
    · simp at q
    · refine ⟨?_, (h3 j x q).2⟩
      have hm : x ∉ φ i := fun z => hj (h1.apart j i x q z)
      show (if x ∈ φ i then lkd H (φ i) ob x else G x) = none
      rw [if_neg hm]; exact (h3 j x q).1
theorem At.freeze {α : Type} {I : Ow α} {a : α} {i : Nat} (A : At Γ B ρ G H σ) (h : ρ[i]? = some (.own α I a)) (hc : I.canF = true) : LkT (fun H' => ∃ G', Le G G' ∧ At Γ B (ρ.set i (.val I.F I.iF (I.toF a))) G' H' σ) H := by
  obtain ⟨φ, h1, h3⟩ := A.slots
  exact lkd_T (φ i) fun ob => ⟨_, A.freezeX h hc h1 h3 ob⟩
theorem At.wk1 {i : Nat} {s : Slot} (b : Bool) (A : At Γ B ρ G H σ) (h : ρ[i]? = some s) : LkT (fun H' => ∃ G', Le G G' ∧ At Γ B (ρ.set i (s.wk b)) G' H' σ) H := by
  cases s with
  | dead => exact .done ⟨G, .refl _, A.drop⟩
  | val α I a =>
    cases b with
    | false => exact .done ⟨G, .refl _, A.drop⟩
    | true =>
      refine .done ⟨G, .refl _, ?_⟩
      have e : ρ.set i (.val α I a) = ρ := by
        obtain ⟨hi, e⟩ := List.getElem?_eq_some_iff.mp h
        rw [← e]; simp
      show At Γ B (ρ.set i (.val α I a)) G H σ
      rw [e]; exact A
  | own α I a =>
    cases b with
    | false => exact .done ⟨G, .refl _, A.drop⟩
    | true =>
      show LkT (fun H' => ∃ G', Le G G' ∧ At Γ B (ρ.set i (if I.canF then .val I.F I.iF (I.toF a) else .dead)) G' H' σ) H
      by_cases hc : I.canF = true
      · rw [if_pos hc]; exact A.freeze h hc
      · rw [if_neg hc]; exact .done ⟨G, .refl _, A.drop⟩
theorem At.op1 {i : Nat} {s : Slot} (ops : List (Nat × Bool)) (A : At Γ B ρ G H σ) (h : ρ[i]? = some s) : LkT (fun H' => ∃ G', Le G G' ∧ At Γ B (ρ.set i (opAt ops i s)) G' H' σ) H := by
  induction ops with
  | nil =>
    refine .done ⟨G, .refl _, ?_⟩
    have e : ρ.set i s = ρ := by
      obtain ⟨hi, e⟩ := List.getElem?_eq_some_iff.mp h
      rw [← e]; simp
    show At Γ B (ρ.set i s) G H σ
    rw [e]; exact A
  | cons o r ih =>
    obtain ⟨j, b⟩ := o
    unfold opAt
    by_cases hj : Nat.beq j i = true
    · rw [if_pos hj]; exact A.wk1 b h
    · rw [if_neg hj]; exact ih
theorem At.wksTo (ops : List (Nat × Bool)) : ∀ (n : Nat) {ρ : Sto} {G H : Hp}, n ≤ ρ.length → At Γ B ρ G H σ → LkT (fun H' => ∃ G', Le G G' ∧ At Γ B (wksN ρ ops n) G' H' σ) H
  | 0, ρ, G, H, _, A => .done ⟨G, .refl _, by rw [wksN_zero]; exact A⟩
  | n + 1, ρ, G, H, hn, A => by
    have h : ρ[n]? = some ρ[n] := List.getElem?_eq_getElem (by omega)
    obtain ⟨h1, h2⟩ := wksN_succ ρ ops h
    rw [h1]
    refine ((At.wksTo ops n (by omega) A).mono fun H1 ⟨G1, l1, A1⟩ => ?_).join
    exact (A1.op1 ops h2).mono fun H2 ⟨G2, l2, A2⟩ => ⟨G2, l1.trans l2, A2⟩
theorem At.wks (ops : List (Nat × Bool)) {ρ : Sto} {G H : Hp} (A : At Γ B ρ G H σ) : LkT (fun H' => ∃ G', Le G G' ∧ At Γ B (Sim.wks ρ ops) G' H' σ) H := by
  have := At.wksTo ops ρ.length (Nat.le_refl _) A
  rw [wksN_all] at this
  exact this
/-- what a slot of one's own holds -/
theorem At.getO {α : Type} {I : Ow α} {a : α} {i : Nat} (A : At Γ B ρ G H σ) (h : ρ[i]? = some (.own α I a)) : ∃ v fp, σ[i]? = some (some v) ∧ I.own Γ G H v fp a ∧ (∀ x ∈ fp, G x = none) := by
  obtain ⟨φ, h1, h3⟩ := A.slots
  obtain ⟨o, e, v, e2, r⟩ := h1.ok i _ h
  exact ⟨v, φ i, by rw [e, e2], r, fun x hx => (h3 i x hx).1⟩
end
end Sim

set_option Elab.async false
set_option autoImplicit false
set_option linter.all false
set_option maxRecDepth 100000
set_option maxHeartbeats 1000000
namespace Sim
open PySem L2
open Rp (rep)
open At1 (toV)
open K1 (key)
open KT (keys)
open Ow (own)

/-! ### the readings, in one form -/
/-- an expression whose value is m's, the store as it is -/
def cE (Γ : Gm) (B : Bs) (ρ : Sto) {α : Type} [Rp α] (m : Option α) : TE := fun σ H Q => ∃ G a, At Γ B ρ G H σ ∧ m = some a ∧ ∀ v G' H', Grow G H G' H' → rep Γ G' v a → Q v H'
def cT (Γ : Gm) (B : Bs) (ρ : Sto) (m : Option Bool) : TT := fun σ H Q => ∃ G a, At Γ B ρ G H σ ∧ m = some a ∧ ∀ G' H', Grow G H G' H' → Q a H'
/-- a list that can be read, frozen or not -/
def cR (Γ : Gm) (B : Bs) (ρ : Sto) {α : Type} [Rp α] (m : Option (List α)) : TE := fun σ H Q => ∃ G xs, At Γ B ρ G H σ ∧ m = some xs ∧ ∀ p vs G' H', Grow G H G' H' → H' p = some (.lst vs) → RpL Γ G' vs xs → Q (.ref p) H'
/-- .. a dict -/
def cDK (Γ : Gm) (B : Bs) (ρ : Sto) {κ α : Type} [K1 κ] [Rp α] (m : Option (List (κ × α))) : TE := fun σ H Q => ∃ G xs, At Γ B ρ G H σ ∧ m = some xs ∧ ∀ p kvs G' H', Grow G H G' H' → Rd H' p (.dK kvs) → RpK Γ G' kvs xs → Q (.ref p) H'
def cDT (Γ : Gm) (B : Bs) (ρ : Sto) {κ α : Type} [KT κ] [Rp α] (m : Option (List (κ × α))) : TE := fun σ H Q => ∃ G xs, At Γ B ρ G H σ ∧ m = some xs ∧ ∀ p kvs G' H', Grow G H G' H' → Rd H' p (.dT kvs) → RpT Γ G' kvs xs → Q (.ref p) H'
/-- argument lists -/
class RpA (τ : Type) where
  repA : Gm → Hp → List V → τ → Prop
  monoA : ∀ {Γ : Gm} {G G' : Hp} {v : List V} {a : τ}, Le G G' → repA Γ G v a → repA Γ G' v a
  num : Nat
  stoA : τ → Sto
  lenA : ∀ t, (stoA t).length = num
  okA : ∀ {Γ : Gm} {G H : Hp} {vs : List V} {t : τ}, repA Γ G vs t → vs.length = num ∧ ∀ (i : Nat) (s : Slot), (stoA t)[i]? = some s → ∃ v, vs[i]? = some v ∧ SlotOk Γ G H (some v) s []
open RpA (repA)
instance instRpAUnit : RpA Unit := ⟨fun _ _ vs _ => vs = [], fun _ h => h, 0, fun _ => [], fun _ => rfl, fun h => by
  subst h
  exact ⟨rfl, fun i s e => by simp at e⟩⟩
instance instRpAProd {α τ : Type} [I : Rp α] [RpA τ] : RpA (α × τ) := ⟨fun Γ G vs p => ∃ v r, vs = v :: r ∧ rep Γ G v p.1 ∧ repA Γ G r p.2, fun e ⟨v, r, h1, h2, h3⟩ => ⟨v, r, h1, Rp.mono e h2, RpA.monoA e h3⟩, RpA.num τ + 1, fun p => vl p.1 :: RpA.stoA p.2, fun p => by simp [RpA.lenA], fun {Γ G H vs t} h => by
  obtain ⟨v, r, h1, h2, h3⟩ := h
  subst h1
  have q := RpA.okA (H := H) h3
  refine ⟨by simp [q.1], fun i s e => ?_⟩
  cases i with
  | zero =>
    have e' : vl t.1 = s := Option.some.inj e
    subst e'
    exact ⟨v, rfl, rfl, v, rfl, h2⟩
  | succ i =>
    obtain ⟨v', q1, q2⟩ := q.2 i s (by simpa using e)
    exact ⟨v', by simpa using q1, q2⟩⟩
def cA (Γ : Gm) (B : Bs) (ρ : Sto) {τ : Type} [RpA τ] (m : Option τ) : TA := fun σ H Q => ∃ G a, At Γ B ρ G H σ ∧ m = some a ∧ ∀ vs G' H', Grow G H G' H' → repA Γ G' vs a → Q vs H'
/-- items alike -/
def seqO {α : Type} : List (Option α) → Option (List α)
  | [] => some []
  | m :: r => m.bind fun x => (seqO r).bind fun xs => some (x :: xs)
def cL (Γ : Gm) (B : Bs) (ρ : Sto) {α : Type} [Rp α] (ms : List (Option α)) : TA := fun σ H Q => ∃ G xs, At Γ B ρ G H σ ∧ seqO ms = some xs ∧ ∀ vs G' H', Grow G H G' H' → RpL Γ G' vs xs → Q vs H'

theorem imE {X : Cx} {e : Expr} {t t' : TE} (h : PE X e t) (k : ∀ σ H Q, t' σ H Q → t σ H Q) : PE X e t' := ⟨fun pins s σ H Q I q => h.run pins s σ H Q I (k σ H Q q)⟩
theorem imT {X : Cx} {e : Expr} {t t' : TT} (h : PT X e t) (k : ∀ σ H Q, t' σ H Q → t σ H Q) : PT X e t' := ⟨fun pins s σ H Q I q => h.run pins s σ H Q I (k σ H Q q)⟩
theorem imW {X : Cx} {e : Expr} {t t' : TT} (h : PW X e t) (k : ∀ σ H Q, t' σ H Q → t σ H Q) : PW X e t' := ⟨fun w pins s σ H Q I q => h.run w pins s σ H Q I (k σ H Q q)⟩
theorem imA {X : Cx} {e : List Expr} {t t' : TA} (h : PA X e t) (k : ∀ σ H Q, t' σ H Q → t σ H Q) : PA X e t' := ⟨fun p pins s σ H Q I q => h.run p pins s σ H Q I (k σ H Q q)⟩
theorem imS {X : Cx} {e : Stmt} {t t' : TS} (h : PS X e t) (k : ∀ D σ H, t' D σ H → t D σ H) : PS X e t' := ⟨fun pins s σ H D I q => h.run pins s σ H D I (k D σ H q)⟩
theorem imB {X : Cx} {e : List Stmt} {t t' : TS} (h : PSs X e t) (k : ∀ D σ H, t' D σ H → t D σ H) : PSs X e t' := ⟨fun pins s σ H D I q => h.run pins s σ H D I (k D σ H q)⟩
/-! locks ahead and behind -/
abbrev Ends.lk (D : Ends) : Ends := ⟨fun σ H => LkT (D.nx σ) H, fun v H => LkT (D.rt v) H, fun σ H => LkT (D.bk σ) H, fun σ H => LkT (D.ct σ) H⟩
theorem lkS {X : Cx} {e : Stmt} {t : TS} (h : PS X e t) : PS X e (fun D σ H => LkT (fun H' => t D σ H') H) := ⟨fun pins s σ H D I q => by
  obtain ⟨H', I', q'⟩ := q.run I
  exact h.run pins s σ H' D I' q'⟩
theorem lkB {X : Cx} {e : List Stmt} {t : TS} (h : PSs X e t) : PSs X e (fun D σ H => LkT (fun H' => t D σ H') H) := ⟨fun pins s σ H D I q => by
  obtain ⟨H', I', q'⟩ := q.run I
  exact h.run pins s σ H' D I' q'⟩
theorem sp_lk {X : Cx} {pins : List (Addr × Obj)} {D : Ends} {f : Flow} {s : Shared} (q : SP X pins (Ends.lk D) f s) : SP X pins D f s := by
  cases f with
  | next =>
    obtain ⟨σ', H', I', q⟩ := q
    obtain ⟨H2, I2, q2⟩ := LkT.run I' q
    exact ⟨σ', H2, I2, q2⟩
  | brk =>
    obtain ⟨σ', H', I', q⟩ := q
    obtain ⟨H2, I2, q2⟩ := LkT.run I' q
    exact ⟨σ', H2, I2, q2⟩
  | cont =>
    obtain ⟨σ', H', I', q⟩ := q
    obtain ⟨H2, I2, q2⟩ := LkT.run I' q
    exact ⟨σ', H2, I2, q2⟩
  | ret v =>
    obtain ⟨x, σ', H', I', r, q⟩ := q
    obtain ⟨H2, I2, q2⟩ := LkT.run I' q
    exact ⟨x, σ', H2, I2, r, q2⟩
theorem lkS' {X : Cx} {e : Stmt} {t : TS} (h : PS X e t) : PS X e (fun D σ H => t (Ends.lk D) σ H) := ⟨fun pins s σ H D I q => thn (h.run pins s σ H _ I q) fun f s1 q => sp_lk q⟩
theorem lkB' {X : Cx} {e : List Stmt} {t : TS} (h : PSs X e t) : PSs X e (fun D σ H => t (Ends.lk D) σ H) := ⟨fun pins s σ H D I q => thn (h.run pins s σ H _ I q) fun f s1 q => sp_lk q⟩

theorem allE {X : Cx} {e : Expr} {ι : Type} {t : ι → TE} (h : ∀ i, PE X e (t i)) : PE X e (fun σ H Q => ∃ i, t i σ H Q) := ⟨fun pins s σ H Q I ⟨i, q⟩ => (h i).run pins s σ H Q I q⟩
theorem allT {X : Cx} {e : Expr} {ι : Type} {t : ι → TT} (h : ∀ i, PT X e (t i)) : PT X e (fun σ H Q => ∃ i, t i σ H Q) := ⟨fun pins s σ H Q I ⟨i, q⟩ => (h i).run pins s σ H Q I q⟩
theorem allB {X : Cx} {e : List Stmt} {ι : Type} {t : ι → TS} (h : ∀ i, PSs X e (t i)) : PSs X e (fun D σ H => ∃ i, t i D σ H) := ⟨fun pins s σ H D I ⟨i, q⟩ => (h i).run pins s σ H D I q⟩

/-! ### where one stands -/
structure Cok (X : Cx) (Γ : Gm) (N : List Str) (sc : Scope) (k : Nat) : Prop where
  hP : X.prog = Γ.P
  hw : X.w = Γ.w
  hK : X.K = Γ.K
  hmg : X.mg = Γ.mg
  hbase : X.base = Γ.base
  hN : X.N = N
  nd : N.Nodup
  hsc : X.env.scope = sc
  calm : X.calm = true
  room : Room k X.A
theorem Cok.hu {X : Cx} {Γ : Gm} {N : List Str} {sc : Scope} {k : Nat} (c : Cok X Γ N sc k) : X.A.units + 1 < cLine := hu_of c.room
theorem Cok.hu64 {X : Cx} {Γ : Gm} {N : List Str} {sc : Scope} {k : Nat} (c : Cok X Γ N sc k) : X.A.units + 64 < cLine := c.room.units
/-- a name of the module's or a built-in one -/
def Glb (sc : Scope) (x : Str) : Prop := sc.names.lookup x = some .globalImplicit
theorem Cok.gl {X : Cx} {Γ : Gm} {N : List Str} {sc : Scope} {k : Nat} (c : Cok X Γ N sc k) {x : Str} (h : Glb sc x) : Gl X x := by
  unfold Gl Env.kindOf
  rw [c.hsc]
  exact h

abbrev XE (X : Cx) (Γ : Gm) (B : Bs) (ρ : Sto) (e : Expr) {α : Type} [Rp α] (m : Option α) : Prop := PE X e (cE Γ B ρ m)
abbrev XT (X : Cx) (Γ : Gm) (B : Bs) (ρ : Sto) (e : Expr) (m : Option Bool) : Prop := PT X e (cT Γ B ρ m)
abbrev XW (X : Cx) (Γ : Gm) (B : Bs) (ρ : Sto) (e : Expr) (m : Option Bool) : Prop := PW X e (cT Γ B ρ m)
abbrev XR (X : Cx) (Γ : Gm) (B : Bs) (ρ : Sto) (e : Expr) {α : Type} [Rp α] (m : Option (List α)) : Prop := PE X e (cR Γ B ρ m)
abbrev XDK (X : Cx) (Γ : Gm) (B : Bs) (ρ : Sto) (e : Expr) {κ α : Type} [K1 κ] [Rp α] (m : Option (List (κ × α))) : Prop := PE X e (cDK Γ B ρ m)
abbrev XDT (X : Cx) (Γ : Gm) (B : Bs) (ρ : Sto) (e : Expr) {κ α : Type} [KT κ] [Rp α] (m : Option (List (κ × α))) : Prop := PE X e (cDT Γ B ρ m)
abbrev XA (X : Cx) (Γ : Gm) (B : Bs) (ρ : Sto) (es : List Expr) {τ : Type} [RpA τ] (m : Option τ) : Prop := PA X es (cA Γ B ρ m)
abbrev XL (X : Cx) (Γ : Gm) (B : Bs) (ρ : Sto) (es : List Expr) {α : Type} [Rp α] (ms : List (Option α)) : Prop := PA X es (cL Γ B ρ ms)

/-- two operands -/
abbrev b2 {α β γ : Type} (ma : Option α) (mb : Option β) (f : α → β → Option γ) : Option γ := ma.bind fun x => mb.bind fun y => f x y
theorem ite_some {α : Type} {c : Prop} [Decidable c] {x z : α} (h : (if c then some x else none) = some z) : c ∧ x = z := by
  by_cases hc : c
  · rw [if_pos hc] at h; exact ⟨hc, Option.some.inj h⟩
  · rw [if_neg hc] at h; cases h

section
variable {X : Cx} {Γ : Gm} {B : Bs} {ρ : Sto} {N : List Str} {sc : Scope} {k : Nat} {pos : Pos} {e a b : Expr} {α β γ : Type} [Rp α] [Rp β] [Rp γ]
variable {m : Option α} {ma : Option α} {mb : Option β}

/-! ### names, constants -/
theorem pv_ (c : Cok X Γ N sc k) {x : Str} {i : Nat} (hN : N[i]? = some x) (hv : Vis sc x) (hd : (x == ("__debug__" : Str)) = false) (hcd : (x == ("__classdict__" : Str)) = false) : PE X (.Name x pos) (tVar i) :=
  pe_var (X := X) (i := i) (by rw [c.hN]; exact hN) (by rw [c.hsc]; exact hv) hd hcd
theorem xe_var (c : Cok X Γ N sc k) {x : Str} (i : Nat) {I : Rp α} {z : α} (hi : ρ[i]? = some (.val α I z)) (hN : N[i]? = some x) (hv : Vis sc x) (hd : (x == ("__debug__" : Str)) = false := by decide) (hcd : (x == ("__classdict__" : Str)) = false := by decide) :
    @XE X Γ B ρ (.Name x pos) α I (some z) := imE (pv_ c hN hv hd hcd) fun σ H Q ⟨G, z', A, e, q⟩ => by
  cases e
  obtain ⟨v, h1, h2⟩ := A.get hi
  exact ⟨v, h1, q v G H (.refl A.sub) h2⟩
/-- a list of one's own, read -/
theorem xr_own (c : Cok X Γ N sc k) {x : Str} (i : Nat) {xs : List α} (hi : ρ[i]? = some (ow (OL.mk xs))) (hN : N[i]? = some x) (hv : Vis sc x) (hd : (x == ("__debug__" : Str)) = false := by decide) (hcd : (x == ("__classdict__" : Str)) = false := by decide) :
    XR X Γ B ρ (.Name x pos) (some xs) := imE (pv_ c hN hv hd hcd) fun σ H Q ⟨G, z', A, e, q⟩ => by
  cases e
  obtain ⟨v, fp, h1, ⟨p, vs, rfl, h3, h4, h5⟩, h6⟩ := A.getO hi
  exact ⟨.ref p, h1, q p vs G H (.refl A.sub) h4 h5⟩
theorem xk_own {κ : Type} [K1 κ] (c : Cok X Γ N sc k) {x : Str} (i : Nat) {xs : List (κ × α)} (hi : ρ[i]? = some (ow (OK.mk xs))) (hN : N[i]? = some x) (hv : Vis sc x) (hd : (x == ("__debug__" : Str)) = false := by decide) (hcd : (x == ("__classdict__" : Str)) = false := by decide) :
    XDK X Γ B ρ (.Name x pos) (some xs) := imE (pv_ c hN hv hd hcd) fun σ H Q ⟨G, z', A, e, q⟩ => by
  cases e
  obtain ⟨v, fp, h1, ⟨p, vs, rfl, h3, h4, h5⟩, h6⟩ := A.getO hi
  exact ⟨.ref p, h1, q p vs G H (.refl A.sub) (.inl h4) h5⟩
theorem xt_own {κ : Type} [KT κ] (c : Cok X Γ N sc k) {x : Str} (i : Nat) {xs : List (κ × α)} (hi : ρ[i]? = some (ow (OT.mk xs))) (hN : N[i]? = some x) (hv : Vis sc x) (hd : (x == ("__debug__" : Str)) = false := by decide) (hcd : (x == ("__classdict__" : Str)) = false := by decide) :
    XDT X Γ B ρ (.Name x pos) (some xs) := imE (pv_ c hN hv hd hcd) fun σ H Q ⟨G, z', A, e, q⟩ => by
  cases e
  obtain ⟨v, fp, h1, ⟨p, vs, rfl, h3, h4, h5⟩, h6⟩ := A.getO hi
  exact ⟨.ref p, h1, q p vs G H (.refl A.sub) (.inl h4) h5⟩
/-- what is frozen can be read -/
theorem xr_of {m : Option (List α)} (h : XE X Γ B ρ e m) : XR X Γ B ρ e m := imE h fun σ H Q ⟨G, xs, A, e, q⟩ => ⟨G, xs, A, e, fun v G' H' g ⟨p, vs, h1, h2, h3⟩ => by
  subst h1
  exact q p vs G' H' g (g.sub.lst h2) h3⟩
theorem xk_of {κ : Type} [K1 κ] {m : Option (DK κ α)} (h : XE X Γ B ρ e m) : XDK X Γ B ρ e (m.bind fun d => some d.l) := imE h fun σ H Q ⟨G, xs, A, e, q⟩ => by
  cases m with
  | none => cases e
  | some d =>
    cases e
    exact ⟨G, d, A, rfl, fun v G' H' g ⟨p, vs, ob, h1, h2, h3⟩ => by
      subst h1
      exact q p vs G' H' g (g.sub.rd h2) h3⟩
theorem xt_of {κ : Type} [KT κ] {m : Option (DT κ α)} (h : XE X Γ B ρ e m) : XDT X Γ B ρ e (m.bind fun d => some d.l) := imE h fun σ H Q ⟨G, xs, A, e, q⟩ => by
  cases m with
  | none => cases e
  | some d =>
    cases e
    exact ⟨G, d, A, rfl, fun v G' H' g ⟨p, vs, ob, h1, h2, h3⟩ => by
      subst h1
      exact q p vs G' H' g (g.sub.rd h2) h3⟩
theorem xe_c {v : V} (h : PE X e (tC v)) {α : Type} [At1 α] {z : α} (hz : toV z = v) : XE X Γ B ρ e (some z) := imE h fun σ H Q ⟨G, z', A, e, q⟩ => by
  cases e
  exact q v G H (.refl A.sub) hz.symm
theorem xe_int {i : Int} {j : Nat} : XE X Γ B ρ (.Constant (.int i) j pos) (some i) := xe_c pe_int rfl
theorem xe_bl {b : Bool} {j : Nat} : XE X Γ B ρ (.Constant (.bool b) j pos) (some b) := xe_c pe_bl rfl
theorem xe_str {x : Str} {j : Nat} {h : PyData.strOk x = true} : XE X Γ B ρ (.Constant (.str x) j pos) (some (Tt.mk x h)) := xe_c pe_str rfl
theorem xe_unit {j : Nat} : XE X Γ B ρ (.Constant .none j pos) (some ()) := xe_c pe_non rfl
theorem xe_none {j : Nat} {α : Type} [Rp α] : XE X Γ B ρ (.Constant .none j pos) (some (none : Option α)) := imE pe_non fun σ H Q ⟨G, z', A, e, q⟩ => by
  cases e
  exact q _ G H (.refl A.sub) rfl
/-- a constant of the module's -/
theorem xe_glob (c : Cok X Γ N sc k) {x : Str} {u : Value} {α : Type} [At1 α] {z : α} (hg : Glb sc x) (hm : Γ.mg x = some u) (r : RelV (toV z) u) (hd : (x == ("__debug__" : Str)) = false := by decide) : XE X Γ B ρ (.Name x pos) (some z) :=
  xe_c (pe_glob (c.gl hg) (by rw [c.hmg]; exact hm) r hd) rfl
theorem xe_eq {m' : Option α} (h : XE X Γ B ρ e m) (q : m = m') : XE X Γ B ρ e m' := q ▸ h
/-- read as an optional one -/
theorem xe_opt (h : XE X Γ B ρ e m) (nn : ∀ Γ G v (a : α), rep Γ G v a → v ≠ .non) : XE X Γ B ρ e (m.bind fun a => some (some a)) := imE h fun σ H Q ⟨G, o, A, e, q⟩ => by
  cases m with
  | none => cases e
  | some z =>
    have e' : some z = o := Option.some.inj e
    subst e'
    exact ⟨G, z, A, rfl, fun v G' H' g r => q v G' H' g ⟨nn _ _ _ _ r, r⟩⟩
/-- slot i frozen while an expression is reckoned whose value leans on no dict -/
def isFz : HO → Prop
  | .frz _ _ => True
  | _ => False
class NoDk (α : Type) [Rp α] : Prop where
  nodk : ∀ {Γ : Gm} {G G' : Hp} {v : V} {a : α}, (∀ x o, ¬ isFz o → G x = some o → G' x = some o) → rep Γ G v a → rep Γ G' v a
instance (priority := 60) {α : Type} [At1 α] : NoDk α := ⟨fun _ r => rep1 r⟩
theorem RpL.nodk {α : Type} [Rp α] [NoDk α] {G G' : Hp} {vs : List V} {xs : List α} (h : ∀ x o, ¬ isFz o → G x = some o → G' x = some o) (r : RpL Γ G vs xs) : RpL Γ G' vs xs := Paired.mapP r fun _ _ r => NoDk.nodk h r
instance {α : Type} [Rp α] [NoDk α] : NoDk (List α) := ⟨fun h ⟨a, vs, h1, h2, h3⟩ => ⟨a, vs, h1, h _ _ (fun q => q) h2, h3.nodk h⟩⟩
instance {α : Type} [Rp α] [NoDk α] : NoDk (TL α) := ⟨fun h ⟨a, vs, h1, h2, h3⟩ => ⟨a, vs, h1, h _ _ (fun q => q) h2, RpL.nodk h h3⟩⟩
instance {α β : Type} [Rp α] [NoDk α] [Rp β] [NoDk β] : NoDk (α × β) := ⟨fun h ⟨a, x, y, h1, h2, h3, h4⟩ => ⟨a, x, y, h1, h _ _ (fun q => q) h2, NoDk.nodk h h3, NoDk.nodk h h4⟩⟩
instance {α β γ : Type} [Rp α] [NoDk α] [Rp β] [NoDk β] [Rp γ] [NoDk γ] : NoDk (T3 α β γ) := ⟨fun h ⟨a, x, y, z, h1, h2, h3, h4, h5⟩ => ⟨a, x, y, z, h1, h _ _ (fun q => q) h2, NoDk.nodk h h3, NoDk.nodk h h4, NoDk.nodk h h5⟩⟩
instance {α : Type} [Rp α] [NoDk α] : NoDk (Option α) := ⟨fun {Γ G G' v o} h r => by
  cases o with
  | none => exact r
  | some a => exact ⟨r.1, NoDk.nodk h r.2⟩⟩
theorem frz1 {G H : Hp} {q x : Addr} (h : x ≠ q) : frzd G H [q] x = G x := if_neg fun z => h (List.mem_singleton.mp z)
theorem drp1 {G : Hp} {q x : Addr} (h : x ≠ q) : drpd G [q] x = G x := if_neg fun z => h (List.mem_singleton.mp z)
theorem drp0 {G : Hp} {q : Addr} : drpd G [q] q = none := if_pos (List.mem_singleton.mpr rfl)
theorem lkd1 {H : Hp} {q x : Addr} {ob : Addr → Obj} (h : x ≠ q) : lkd H [q] ob x = H x := if_neg fun z => h (List.mem_singleton.mp z)
/-- the growth behind such a while -/
theorem thaw_grow {B : Bs} {σ : St} {G H G' H' : Hp} {q : Addr} {o : HO} {ob : Addr → Obj} (sub : Sub G H) (hg : G q = none) (ho : H q = some o) (hd : isDk o) (g : Grow (frzd G (lkd H [q] ob) [q]) (lkd H [q] ob) G' H') : Grow G H (drpd G' [q]) (upd H' q o) := by
  refine ⟨fun a u e => ?_, fun a u e => ?_, fun a u e => ?_, fun a ha e => ?_⟩
  · have z : a ≠ q := fun z => by rw [z, hg] at e; cases e
    rw [drp1 z]; exact g.leG a u (by rw [frz1 z]; exact e)
  · by_cases z : a = q
    · subst z; rw [upd_same, ← ho]; exact e
    · rw [upd_ne z]; exact g.leH a u (by rw [lkd1 z]; exact e)
  · have z : a ≠ q := fun z => by rw [z, drp0] at e; cases e
    rw [drp1 z] at e
    rw [upd_ne z]; exact g.sub a u e
  · by_cases z : a = q
    · rw [z, drp0]; exact .inl rfl
    · rw [drp1 z]
      have t := g.thin a (by rw [lkd1 z]; exact ha) (by rw [frz1 z]; exact e)
      rw [lkd1 z] at t
      exact t
theorem xe_thawD {γ : Type} [Rp γ] [NoDk γ] {m : Option γ} (i : Nat) {α : Type} {I : Ow α} {z : α} (hi : ρ[i]? = some (.own α I z)) (hc : I.canF = true) (hdk : ∀ G H v fp, I.own Γ G H v fp z → ∃ q o, fp = [q] ∧ H q = some o ∧ isDk o ∧ Mut (some o)) (h : XE X Γ B (ρ.set i (.val I.F I.iF (I.toF z))) e m) : XE X Γ B ρ e m := imE (pe_lock h) fun σ H Q ⟨G, x, A, e, q⟩ => by
  obtain ⟨φ, h1, h3⟩ := A.slots
  obtain ⟨o', e1, v, e2, ow⟩ := h1.ok i _ hi
  obtain ⟨d, o, ef, ho, hd, mu⟩ := hdk _ _ _ _ ow
  have hg : G d = none := (h3 i d (by rw [ef]; exact List.mem_singleton.mpr rfl)).1
  refine ⟨d, o, ho, mu, fun od => ?_⟩
  have A1 := (A.freezeX hi hc h1 h3 fun _ => od).2
  rw [ef] at A1
  have eH : upd H d (.frz od o) = lkd H [d] (fun _ => od) := by
    funext y
    by_cases z : y = d
    · subst z; rw [upd_same, lkd_d (List.mem_singleton.mpr rfl) ho hd]
    · rw [upd_ne z, lkd1 z]
  rw [eH]
  refine ⟨_, x, A1, e, fun v G' H' g r => ?_⟩
  have ed := g.leH d _ (lkd_d (List.mem_singleton.mpr rfl) ho hd)
  refine ⟨ed, q v _ _ (thaw_grow (B := B) (σ := σ) A.sub hg ho hd g) (NoDk.nodk (fun y u hu hy => ?_) r)⟩
  have z : y ≠ d := fun z => by
    have := g.leG d _ (by show (if d ∈ [d] then lkd H [d] (fun _ => od) d else G d) = some (.frz od o); rw [if_pos (List.mem_singleton.mpr rfl)]; exact lkd_d (List.mem_singleton.mpr rfl) ho hd)
    rw [z, this] at hy
    cases hy
    exact hu trivial
  rw [drp1 z]; exact hy
/-- .. a list of one's own, for a plain value -/
theorem xe_thawL {γ : Type} [At1 γ] {m : Option γ} (i : Nat) {α : Type} {I : Ow α} {z : α} (hi : ρ[i]? = some (.own α I z)) (hc : I.canF = true) (hdk : ∀ G H v fp, I.own Γ G H v fp z → ∃ q o, fp = [q] ∧ H q = some o ∧ ¬ isDk o) (h : XE X Γ B (ρ.set i (.val I.F I.iF (I.toF z))) e m) : XE X Γ B ρ e m := imE h fun σ H Q ⟨G, x, A, e, q⟩ => by
  obtain ⟨φ, h1, h3⟩ := A.slots
  obtain ⟨o', e1, v, e2, ow⟩ := h1.ok i _ hi
  obtain ⟨d, o, ef, ho, hd⟩ := hdk _ _ _ _ ow
  obtain ⟨l1, A1⟩ := A.freezeX hi hc h1 h3 fun _ => default
  rw [ef] at A1 l1
  have eH : lkd H [d] (fun _ => default) = H := by
    funext y
    by_cases z : y = d
    · subst z; rw [lkd_nd ho hd, ho]
    · rw [lkd1 z]
  rw [eH] at A1 l1
  exact ⟨_, x, A1, e, fun v G' H' g r => q v G H' ⟨.refl _, g.leH, fun a o q => g.sub a o (g.leG a o (l1 a o q)), fun _ _ q => .inl q⟩ (rep1 r)⟩
theorem ol_one {α : Type} [Rp α] {xs : List α} : ∀ G H v fp, Ow.own Γ G H v fp (OL.mk xs) → ∃ q o, fp = [q] ∧ H q = some o ∧ ¬ isDk o := fun _ _ _ _ ⟨a, vs, _, h2, h3, _⟩ => ⟨a, _, h2, h3, fun q => q⟩
theorem ok_one {κ α : Type} [K1 κ] [Rp α] {xs : List (κ × α)} : ∀ G H v fp, Ow.own Γ G H v fp (OK.mk xs) → ∃ q o, fp = [q] ∧ H q = some o ∧ isDk o ∧ Mut (some o) := fun _ _ _ _ ⟨a, vs, _, h2, h3, _⟩ => ⟨a, _, h2, h3, trivial, trivial⟩
theorem ot_one {κ α : Type} [KT κ] [Rp α] {xs : List (κ × α)} : ∀ G H v fp, Ow.own Γ G H v fp (OT.mk xs) → ∃ q o, fp = [q] ∧ H q = some o ∧ isDk o ∧ Mut (some o) := fun _ _ _ _ ⟨a, vs, _, h2, h3, _⟩ => ⟨a, _, h2, h3, trivial, trivial⟩

/-! ### two operands -/
/-- an operation on two values: a value that is there, or new things -/
def Op2 (Γ : Gm) (r : R2) (f : α → β → Option γ) : Prop := ∀ (G H : Hp) (x y : V) (p : α) (q : β) (z : γ), Sub G H → rep Γ G x p → rep Γ G y q → f p q = some z → ∀ Q : VK, (∀ v G' H', Grow G H G' H' → rep Γ G' v z → Q v H') → r x y H Q
theorem sim2 {r : R2} {f : α → β → Option γ} (hf : Op2 Γ r f) {σ : St} {H : Hp} {Q : VK} (h : cE Γ B ρ (b2 ma mb f) σ H Q) : tOp r (cE Γ B ρ ma) (cE Γ B ρ mb) σ H Q := by
  obtain ⟨G, z, A, e, q⟩ := h
  cases ma with
  | none => cases e
  | some x =>
    cases mb with
    | none => cases e
    | some y =>
      refine ⟨G, x, A, rfl, fun v1 G1 H1 g1 r1 => ⟨G1, y, A.grow g1, rfl, fun v2 G2 H2 g2 r2 => ?_⟩⟩
      exact hf G2 H2 v1 v2 x y z g2.sub (Rp.mono g2.leG r1) r2 e _ fun v G' H' g r => q v G' H' ((g1.trans g2).trans g) r
theorem xe_op2 {op : Operator} {r : R2} {f : α → β → Option γ} (ho : OpR X (binaryOp op) r) (hf : Op2 Γ r f) (ha : XE X Γ B ρ a ma) (hb : XE X Γ B ρ b mb) : XE X Γ B ρ (.BinOp a op b pos) (b2 ma mb f) :=
  imE (pe_op ho ha hb) fun _ _ _ h => sim2 hf h
theorem xe_cmp2 {op : CmpOp} {r : R2} {f : α → β → Option γ} (ho : OpR X (compareOp op) r) (hf : Op2 Γ r f) (ha : XE X Γ B ρ a ma) (hb : XE X Γ B ρ b mb) (hm : behindInMarks op b = false) : XE X Γ B ρ (.Compare a [op] [b] pos) (b2 ma mb f) :=
  imE (pe_cmpR ho ha hb hm) fun _ _ _ h => sim2 hf h
/-- a value that the heap has no part in -/
theorem op2_pure {α β γ : Type} [At1 α] [At1 β] [At1 γ] {r : R2} {f : α → β → Option γ} (h : ∀ (p : α) (q : β) (z : γ) (H : Hp) (Q : VK), f p q = some z → Q (toV z) H → r (toV p) (toV q) H Q) : Op2 Γ r f :=
  fun G H x y p q z s h1 h2 e Q k => by
    rw [rep1 h1, rep1 h2]
    exact h p q z H Q e (k _ G H (.refl s) rfl)
theorem o_add : Op2 Γ (rI0 fun i j => .int (i + j)) fun (i j : Int) => some (i + j) := op2_pure fun p q z H Q e k => ⟨p, q, rfl, rfl, by cases e; exact k⟩
theorem o_sub : Op2 Γ (rI0 fun i j => .int (i - j)) fun (i j : Int) => some (i - j) := op2_pure fun p q z H Q e k => ⟨p, q, rfl, rfl, by cases e; exact k⟩
theorem o_lt : Op2 Γ (rI0 fun i j => .bl (decide (i < j))) fun (i j : Int) => some (decide (i < j)) := op2_pure fun p q z H Q e k => ⟨p, q, rfl, rfl, by cases e; exact k⟩
theorem o_le : Op2 Γ (rI0 fun i j => .bl (decide (i ≤ j))) fun (i j : Int) => some (decide (i ≤ j)) := op2_pure fun p q z H Q e k => ⟨p, q, rfl, rfl, by cases e; exact k⟩
theorem o_gt : Op2 Γ (rI0 fun i j => .bl (decide (j < i))) fun (i j : Int) => some (decide (j < i)) := op2_pure fun p q z H Q e k => ⟨p, q, rfl, rfl, by cases e; exact k⟩
theorem o_ge : Op2 Γ (rI0 fun i j => .bl (decide (j ≤ i))) fun (i j : Int) => some (decide (j ≤ i)) := op2_pure fun p q z H Q e k => ⟨p, q, rfl, rfl, by cases e; exact k⟩
/-- % and // by a positive number -/
@[irreducible] def pmod (i j : Int) : Option Int := if 0 < j then some (i % j) else none
@[irreducible] def pdiv (i j : Int) : Option Int := if 0 < j ∧ j.natAbs < 1073741824 then some (i / j) else none
@[irreducible] def pmul (i j : Int) : Option Int := if i.natAbs < 2 ^ 64 ∨ j.natAbs < 2 ^ 64 then some (i * j) else none
theorem o_mod : Op2 Γ (rI (fun _ j => 0 < j) fun i j => .int (i % j)) pmod := op2_pure fun p q z H Q e k => by
  unfold pmod at e
  obtain ⟨h, e⟩ := ite_some e
  exact ⟨p, q, rfl, rfl, h, by subst e; exact k⟩
theorem o_div : Op2 Γ (rI CDiv fun i j => .int (i / j)) pdiv := op2_pure fun p q z H Q e k => by
  unfold pdiv at e
  obtain ⟨h, e⟩ := ite_some e
  exact ⟨p, q, rfl, rfl, ⟨h.1, by omega⟩, by subst e; exact k⟩
theorem o_mul : Op2 Γ (rI CMul fun i j => .int (i * j)) pmul := op2_pure fun p q z H Q e k => by
  unfold pmul at e
  obtain ⟨h, e⟩ := ite_some e
  exact ⟨p, q, rfl, rfl, h.imp (fun h => by omega) (fun h => by omega), by subst e; exact k⟩
/-- == of plain values of one kind -/
theorem scal_int (i j : Int) : scal (.int i) (.int j) = true := rfl
theorem o_eqI : Op2 Γ rEq fun (i j : Int) => some (decide (i = j)) := op2_pure fun p q z H Q e k => ⟨rfl, by cases e; first | (show Q (V.bl (decide (V.int p = V.int q))) H; rw [dec_int, Bool.beq_eq_decide_eq]; exact k) | (show Q (V.bl (!decide (V.int p = V.int q))) H; rw [dec_int, Bool.beq_eq_decide_eq]; exact k)⟩
theorem o_neI : Op2 Γ rNe fun (i j : Int) => some (!decide (i = j)) := op2_pure fun p q z H Q e k => ⟨rfl, by cases e; first | (show Q (V.bl (decide (V.int p = V.int q))) H; rw [dec_int, Bool.beq_eq_decide_eq]; exact k) | (show Q (V.bl (!decide (V.int p = V.int q))) H; rw [dec_int, Bool.beq_eq_decide_eq]; exact k)⟩
theorem o_eqB : Op2 Γ rEq fun (i j : Bool) => some (decide (i = j)) := op2_pure fun p q z H Q e k => ⟨rfl, by cases e; first | (show Q (V.bl (decide (V.bl p = V.bl q))) H; rw [dec_bl, Bool.beq_eq_decide_eq]; exact k) | (show Q (V.bl (!decide (V.bl p = V.bl q))) H; rw [dec_bl, Bool.beq_eq_decide_eq]; exact k)⟩
theorem o_neB : Op2 Γ rNe fun (i j : Bool) => some (!decide (i = j)) := op2_pure fun p q z H Q e k => ⟨rfl, by cases e; first | (show Q (V.bl (decide (V.bl p = V.bl q))) H; rw [dec_bl, Bool.beq_eq_decide_eq]; exact k) | (show Q (V.bl (!decide (V.bl p = V.bl q))) H; rw [dec_bl, Bool.beq_eq_decide_eq]; exact k)⟩
theorem decTt (p q : Tt) : decide (V.str p.s = V.str q.s) = decide (p = q) := decide_eq_decide.mpr ⟨fun h => Tt.ext' (V.str.inj h), fun h => by rw [h]⟩
theorem o_eqS : Op2 Γ rEq fun (i j : Tt) => some (decide (i = j)) := op2_pure fun p q z H Q e k => ⟨rfl, by cases e; show Q (V.bl (decide (V.str p.s = V.str q.s))) H; rw [decTt]; exact k⟩
theorem o_neS : Op2 Γ rNe fun (i j : Tt) => some (!decide (i = j)) := op2_pure fun p q z H Q e k => ⟨rfl, by cases e; show Q (V.bl (!decide (V.str p.s = V.str q.s))) H; rw [decTt]; exact k⟩
/-- is None -/
theorem xe_isN {op : Option α} {m : Option (Option α)} {j : Nat} {p2 : Pos} (h : XE X Γ B ρ a m) : XE X Γ B ρ (.Compare a [.Is] [.Constant .none j p2] pos) (m.bind fun o => some o.isNone) := imE (pe_cmpR op_isN h pe_non (nomark _)) fun σ H Q ⟨G, z, A, e, q⟩ => by
  cases m with
  | none => cases e
  | some o =>
    refine ⟨G, o, A, rfl, fun v G1 H1 g1 r => ⟨rfl, ?_⟩⟩
    have e' : o.isNone = z := Option.some.inj e
    subst e'
    refine q _ G1 H1 g1 ?_
    show V.bl (decide (v = .non)) = V.bl o.isNone
    cases o with
    | none => rw [show v = .non from r]; rfl
    | some y => rw [decide_eq_false r.1]; rfl
theorem xe_notN {op : Option α} {m : Option (Option α)} {j : Nat} {p2 : Pos} (h : XE X Γ B ρ a m) : XE X Γ B ρ (.Compare a [.IsNot] [.Constant .none j p2] pos) (m.bind fun o => some o.isSome) := imE (pe_cmpR op_notN h pe_non (nomark _)) fun σ H Q ⟨G, z, A, e, q⟩ => by
  cases m with
  | none => cases e
  | some o =>
    refine ⟨G, o, A, rfl, fun v G1 H1 g1 r => ⟨rfl, ?_⟩⟩
    have e' : o.isSome = z := Option.some.inj e
    subst e'
    refine q _ G1 H1 g1 ?_
    show V.bl (!decide (v = .non)) = V.bl o.isSome
    cases o with
    | none => rw [show v = .non from r]; rfl
    | some y => rw [decide_eq_false r.1]; rfl
end
end Sim

set_option Elab.async false
set_option autoImplicit false
set_option linter.all false
set_option maxRecDepth 100000
set_option maxHeartbeats 1000000
namespace Sim
open PySem L2
open Rp (rep)
open At1 (toV)
open K1 (key)
open KT (keys)
open Ow (own)
open RpA (repA)

/-! ### exceptions -/
/-- the class's number among the program's own, the line of the one class that has a line -/
structure Er where
  cls : Nat
  line : Int := 0
/-- how it lies: the line stands in its own dict -/
def IsEr (Γ : Gm) (e : Er) (cls : Value) (d : Option Addr) (H : Hp) : Prop := cls = .ref (Γ.C e.cls) ∧ if e.cls = 9 then ∃ dd, d = some dd ∧ H dd = some (.xd [("line", .int e.line)]) else d = none

/-! ### what a block comes to -/
inductive Fl (S L β C : Type) : Type
  | nx (s : S) | bk (l : L) | ct (l : L) | ret (b : β) (c : C) | err (e : Er) (c : C)
/-- what a block may do but go on -/
structure Kt (L β C : Type) where
  stb : L → Sto
  stc : L → Sto
  str : C → Sto
  fr : Bool
  W : WX
def Fresh (H : Hp) (v : V) : Prop := ∀ p, v = .ref p → H p = none
def Post (Γ : Gm) (B : Bs) {L β C : Type} [Rp β] (F : Kt L β C) {S : Type} (sto : S → Sto) (D : Ends) : Fl S L β C → Prop
  | .nx s => ∀ G' H' σ', At Γ B (sto s) G' H' σ' → D.nx σ' H'
  | .bk l => ∀ G' H' σ', At Γ B (F.stb l) G' H' σ' → D.bk σ' H'
  | .ct l => ∀ G' H' σ', At Γ B (F.stc l) G' H' σ' → D.ct σ' H'
  | .ret b c => ∀ v G' H' σ', At Γ B (F.str c) G' H' σ' → rep Γ G' v b → (F.fr = true → Fresh B.H v) → D.rt v H'
  | .err e c => ∀ cls d G' H' σ', At Γ B (F.str c) G' H' σ' → IsEr Γ e cls d H' → F.W cls d σ' H'
/-- a block that only goes on -/
def cP (Γ : Gm) (B : Bs) (ρ : Sto) {S : Type} (m : Option S) (sto : S → Sto) : TS := fun D σ H => ∃ G s, At Γ B ρ G H σ ∧ m = some s ∧ ∀ G' H' σ', At Γ B (sto s) G' H' σ' → D.nx σ' H'
/-- any block -/
def cS (Γ : Gm) (B : Bs) {L β C : Type} [Rp β] (F : Kt L β C) (ρ : Sto) {S : Type} (m : Option (Fl S L β C)) (sto : S → Sto) : TS := fun D σ H => ∃ G r, At Γ B ρ G H σ ∧ m = some r ∧ Post Γ B F sto D r
abbrev XP1 (X : Cx) (Γ : Gm) (B : Bs) (ρ : Sto) (st : Stmt) {S : Type} (m : Option S) (sto : S → Sto) : Prop := PS X st (cP Γ B ρ m sto)
abbrev XP (X : Cx) (Γ : Gm) (B : Bs) (ρ : Sto) (st : List Stmt) {S : Type} (m : Option S) (sto : S → Sto) : Prop := PSs X st (cP Γ B ρ m sto)
abbrev XB1 (X : Cx) (Γ : Gm) (B : Bs) {L β C : Type} [Rp β] (F : Kt L β C) (ρ : Sto) (st : Stmt) {S : Type} (m : Option (Fl S L β C)) (sto : S → Sto) : Prop := PS X st (cS Γ B F ρ m sto)
abbrev XB (X : Cx) (Γ : Gm) (B : Bs) {L β C : Type} [Rp β] (F : Kt L β C) (ρ : Sto) (st : List Stmt) {S : Type} (m : Option (Fl S L β C)) (sto : S → Sto) : Prop := PSs X st (cS Γ B F ρ m sto)

/-- where a def's body stands -/
structure Dok (X : Cx) (Γ : Gm) (B : Bs) (N : List Str) (sc : Scope) (k : Nat) (fx : List Nat) (W : WX) (M : List Addr) : Prop extends Cok X Γ N sc k where
  own : PassesOwn (model X.prog X.w) X.A X.env X.xe
  hfn : ∀ x, X.fn x = true
  tk : Takes X W
  hfx : B.fx = fx
  hM : B.M = M
  stk : X.stack = X.env :: X.outer
  frm : X.env.frame = some X.env.locals

section
variable {X : Cx} {Γ : Gm} {B : Bs} {L β C : Type} [Rp β] {F : Kt L β C} {ρ ρ' : Sto} {N : List Str} {sc : Scope} {k : Nat} {fx : List Nat} {W : WX} {M : List Addr} {pos : Pos} {e a b : Expr} {st : Stmt} {sts rest : List Stmt} {S S1 S2 : Type} {m : Option S} {sto : S → Sto}
variable {α : Type} [Rp α]

/-! ### tests -/
theorem xt_val {m : Option Bool} (h : XE X Γ B ρ e m) (he : ∀ whole, isTrue e X.env whole = (do let v ← whole; standAt e.pos; holding [v] (truthy v)) := by intro _; rfl) : XT X Γ B ρ e m := imT (pt_val h he) fun σ H Q ⟨G, z, A, e, q⟩ =>
  ⟨G, z, A, e, fun v G' H' g r => ⟨z, rep1 r, q G' H' g⟩⟩
theorem xt_cmp2 {α β : Type} [Rp α] [Rp β] {ma : Option α} {mb : Option β} {op : CmpOp} {r : R2} {f : α → β → Option Bool} (ho : OpR X (compareOp op) r) (hf : Op2 Γ r f) (ha : XE X Γ B ρ a ma) (hb : XE X Γ B ρ b mb) (hm : behindInMarks op b = false) : XT X Γ B ρ (.Compare a [op] [b] pos) (b2 ma mb f) :=
  imT (pt_cmpR ho ha hb hm) fun σ H Q ⟨G, z, A, e, q⟩ => sim2 hf ⟨G, z, A, e, fun v G' H' g r => ⟨z, rep1 r, q G' H' g⟩⟩
theorem xt_not {m : Option Bool} (h : XT X Γ B ρ a m) : XT X Γ B ρ (.UnaryOp .Not a pos) (m.bind fun x => some (!x)) := imT (pt_not h) fun σ H Q ⟨G, z, A, e, q⟩ => by
  cases m with
  | none => cases e
  | some x =>
    cases e
    exact ⟨G, x, A, rfl, q⟩
theorem xw_and1 {m : Option Bool} (h : XT X Γ B ρ a m) : XW X Γ B ρ (.BoolOp .And [a] pos) m := pw_and1 h
theorem xw_or1 {m : Option Bool} (h : XT X Γ B ρ a m) : XW X Γ B ρ (.BoolOp .Or [a] pos) m := pw_or1 h
def andM (a b : Option Bool) : Option Bool := a.bind fun x => if x = true then b else some false
def orM (a b : Option Bool) : Option Bool := a.bind fun x => if x = true then some true else b
theorem xw_and {ma mb : Option Bool} {es : List Expr} (ha : XT X Γ B ρ a ma) (hb : XW X Γ B ρ (.BoolOp .And (b :: es) pos) mb) : XW X Γ B ρ (.BoolOp .And (a :: b :: es) pos) (andM ma mb) := imW (pw_and ha hb) fun σ H Q ⟨G, z, A, e, q⟩ => by
  cases ma with
  | none => cases e
  | some x =>
    refine ⟨G, x, A, rfl, fun G1 H1 g1 => ?_⟩
    cases x with
    | true => exact ⟨G1, z, A.grow g1, e, fun G' H' g => q G' H' (g1.trans g)⟩
    | false =>
      cases e
      exact q G1 H1 g1
theorem xw_or {ma mb : Option Bool} {es : List Expr} (ha : XT X Γ B ρ a ma) (hb : XW X Γ B ρ (.BoolOp .Or (b :: es) pos) mb) : XW X Γ B ρ (.BoolOp .Or (a :: b :: es) pos) (orM ma mb) := imW (pw_or ha hb) fun σ H Q ⟨G, z, A, e, q⟩ => by
  cases ma with
  | none => cases e
  | some x =>
    refine ⟨G, x, A, rfl, fun G1 H1 g1 => ?_⟩
    cases x with
    | false => exact ⟨G1, z, A.grow g1, e, fun G' H' g => q G' H' (g1.trans g)⟩
    | true =>
      cases e
      exact q G1 H1 g1
theorem xt_w {m : Option Bool} (h : XW X Γ B ρ e m) : XT X Γ B ρ e m := PW.pt h
theorem xt_eq {m m' : Option Bool} (h : XT X Γ B ρ e m) (q : m = m') : XT X Γ B ρ e m' := q ▸ h
/-- .. as values -/
theorem xe_and1 {op : BoolOp} {m : Option Bool} (h : XE X Γ B ρ a m) : XE X Γ B ρ (.BoolOp op [a] pos) m := pe_one h
theorem xe_and {ma mb : Option Bool} {es : List Expr} (ha : XE X Γ B ρ a ma) (hb : XE X Γ B ρ (.BoolOp .And (b :: es) pos) mb) : XE X Γ B ρ (.BoolOp .And (a :: b :: es) pos) (andM ma mb) := imE (pe_and ha hb) fun σ H Q ⟨G, z, A, e, q⟩ => by
  cases ma with
  | none => cases e
  | some x =>
    refine ⟨G, x, A, rfl, fun v G1 H1 g1 r1 => ⟨x, rep1 r1, ?_⟩⟩
    cases x with
    | true => exact ⟨G1, z, A.grow g1, e, fun v G' H' g r => q v G' H' (g1.trans g) r⟩
    | false =>
      cases e
      exact q _ G1 H1 g1 rfl
theorem xe_or {ma mb : Option Bool} {es : List Expr} (ha : XE X Γ B ρ a ma) (hb : XE X Γ B ρ (.BoolOp .Or (b :: es) pos) mb) : XE X Γ B ρ (.BoolOp .Or (a :: b :: es) pos) (orM ma mb) := imE (pe_or ha hb) fun σ H Q ⟨G, z, A, e, q⟩ => by
  cases ma with
  | none => cases e
  | some x =>
    refine ⟨G, x, A, rfl, fun v G1 H1 g1 r1 => ⟨x, rep1 r1, ?_⟩⟩
    cases x with
    | false => exact ⟨G1, z, A.grow g1, e, fun v G' H' g r => q v G' H' (g1.trans g) r⟩
    | true =>
      cases e
      exact q _ G1 H1 g1 rfl
theorem xe_not {m : Option Bool} (h : XE X Γ B ρ a m) : XE X Γ B ρ (.UnaryOp .Not a pos) (m.bind fun x => some (!x)) := imE (pe_not h) fun σ H Q ⟨G, z, A, e, q⟩ => by
  cases m with
  | none => cases e
  | some x =>
    cases e
    exact ⟨G, x, A, rfl, fun v G1 H1 g1 r1 => ⟨x, rep1 r1, q _ G1 H1 g1 rfl⟩⟩
theorem xe_ifExp {α : Type} [Rp α] {c : Expr} {mc : Option Bool} {ma mb : Option α} (hc : XT X Γ B ρ c mc) (ha : XE X Γ B ρ a ma) (hb : XE X Γ B ρ b mb) : XE X Γ B ρ (.IfExp c a b pos) (mc.bind fun t => if t = true then ma else mb) := imE (pe_ifExp hc ha hb) fun σ H Q ⟨G, z, A, e, q⟩ => by
  cases mc with
  | none => cases e
  | some x =>
    refine ⟨G, x, A, rfl, fun G1 H1 g1 => ?_⟩
    cases x with
    | false => exact ⟨G1, z, A.grow g1, e, fun v G' H' g r => q v G' H' (g1.trans g) r⟩
    | true => exact ⟨G1, z, A.grow g1, e, fun v G' H' g r => q v G' H' (g1.trans g) r⟩
/-- a < b < c of ints -/
theorem xe_chain {op op' : CmpOp} {p p' : Int → Int → Bool} {c : Expr} {ma mb mc : Option Int} (ho : OpR X (compareOp op) (rI0 fun i j => .bl (p i j))) (ho' : OpR X (compareOp op') (rI0 fun i j => .bl (p' i j))) (ha : XE X Γ B ρ a ma) (hb : XE X Γ B ρ b mb) (hc : XE X Γ B ρ c mc)
    (h1 : lastMarks [op, op'] [b, c] = false := by rfl) : XE X Γ B ρ (.Compare a [op, op'] [b, c] pos) (ma.bind fun x => mb.bind fun y => if p x y = true then mc.bind fun z => some (p' y z) else some false) := imE (pe_chain ho ho' ha hb hc h1) fun σ H Q ⟨G, z, A, e, q⟩ => by
  cases ma with
  | none => cases e
  | some x =>
    cases mb with
    | none => cases e
    | some y =>
      refine ⟨G, x, A, rfl, fun v1 G1 H1 g1 r1 => ⟨G1, y, A.grow g1, rfl, fun v2 G2 H2 g2 r2 => ⟨x, y, rep1 r1, rep1 r2, p x y, rfl, ?_⟩⟩⟩
      have e : (if p x y = true then mc.bind (fun z => some (p' y z)) else some false) = some z := e
      cases hp : p x y with
      | true =>
        rw [hp, if_pos rfl] at e
        rw [if_pos rfl]
        cases mc with
        | none => cases e
        | some w =>
          cases e
          exact ⟨G2, w, A.grow (g1.trans g2), rfl, fun v3 G3 H3 g3 r3 => ⟨y, w, rep1 r2, rep1 r3, q _ G3 H3 ((g1.trans g2).trans g3) rfl⟩⟩
      | false =>
        rw [hp, if_neg Bool.false_ne_true] at e
        rw [if_neg Bool.false_ne_true]
        cases e
        exact q _ G2 H2 (g1.trans g2) rfl

/-! ### blocks -/
theorem xp_nil : XP X Γ B ρ [] (some ()) (fun _ => ρ) := imB pss_nil fun D σ H ⟨G, s, A, e, q⟩ => q G H σ A
theorem xp_seq {m1 : Option S1} {sto1 : S1 → Sto} {m2 : S1 → Option S2} {sto2 : S2 → Sto} (h1 : XP1 X Γ B ρ st m1 sto1) (h2 : ∀ s, XP X Γ B (sto1 s) rest (m2 s) sto2) : XP X Γ B ρ (st :: rest) (m1.bind m2) sto2 := imB (pss_cons h1 (allB h2)) fun D σ H ⟨G, s, A, e, q⟩ => by
  cases m1 with
  | none => cases e
  | some s1 => exact ⟨G, s1, A, rfl, fun G' H' σ' A' => ⟨s1, G', s, A', e, q⟩⟩
theorem xp_one (h : XP1 X Γ B ρ st m sto) : XP X Γ B ρ [st] m sto := pss_one h
theorem xb_pseq {m1 : Option S1} {sto1 : S1 → Sto} {m2 : S1 → Option (Fl S2 L β C)} {sto2 : S2 → Sto} (h1 : XP1 X Γ B ρ st m1 sto1) (h2 : ∀ s, XB X Γ B F (sto1 s) rest (m2 s) sto2) : XB X Γ B F ρ (st :: rest) (m1.bind m2) sto2 := imB (pss_cons h1 (allB h2)) fun D σ H ⟨G, s, A, e, q⟩ => by
  cases m1 with
  | none => cases e
  | some s1 => exact ⟨G, s1, A, rfl, fun G' H' σ' A' => ⟨s1, G', s, A', e, by cases s <;> exact q⟩⟩
/-- on, or what else it came to -/
def flb {S1 S2 L β C : Type} (m1 : Option (Fl S1 L β C)) (m2 : S1 → Option (Fl S2 L β C)) : Option (Fl S2 L β C) := m1.bind fun r => match r with
  | .nx s => m2 s
  | .bk l => some (.bk l)
  | .ct l => some (.ct l)
  | .ret b c => some (.ret b c)
  | .err e c => some (.err e c)
theorem xb_seq {m1 : Option (Fl S1 L β C)} {sto1 : S1 → Sto} {m2 : S1 → Option (Fl S2 L β C)} {sto2 : S2 → Sto} (h1 : XB1 X Γ B F ρ st m1 sto1) (h2 : ∀ s, XB X Γ B F (sto1 s) rest (m2 s) sto2) : XB X Γ B F ρ (st :: rest) (flb m1 m2) sto2 := imB (pss_cons h1 (allB h2)) fun D σ H ⟨G, s, A, e, q⟩ => by
  cases m1 with
  | none => cases e
  | some r =>
    refine ⟨G, r, A, rfl, ?_⟩
    cases r with
    | nx s1 => exact fun G' H' σ' A' => ⟨s1, G', s, A', e, by cases s <;> exact q⟩
    | bk l => cases e; exact q
    | ct l => cases e; exact q
    | ret b c => cases e; exact q
    | err b c => cases e; exact q
theorem xb_one {m : Option (Fl S L β C)} (h : XB1 X Γ B F ρ st m sto) : XB X Γ B F ρ [st] m sto := pss_one h
/-- a block that only goes on, as any block -/
theorem xb_of (h : XP X Γ B ρ sts m sto) : XB X Γ B F ρ sts (m.bind fun s => some (.nx s)) sto := imB h fun D σ H ⟨G, s, A, e, q⟩ => by
  cases m with
  | none => cases e
  | some s1 =>
    cases e
    exact ⟨G, s1, A, rfl, q⟩
theorem xb1_of (h : XP1 X Γ B ρ st m sto) : XB1 X Γ B F ρ st (m.bind fun s => some (.nx s)) sto := imS h fun D σ H ⟨G, s, A, e, q⟩ => by
  cases m with
  | none => cases e
  | some s1 =>
    cases e
    exact ⟨G, s1, A, rfl, q⟩
/-- what is of no more interest is given up, or frozen -/
theorem xp_pre (ops : List (Nat × Bool)) (h : XP X Γ B ρ' sts m sto) (e : Sim.wks ρ ops = ρ') : XP X Γ B ρ sts m sto := imB (lkB h) fun D σ H ⟨G, s, A, e1, q⟩ => (A.wks ops).mono fun H' ⟨G', l, A'⟩ => ⟨G', s, e ▸ A', e1, q⟩
theorem xb_pre {m : Option (Fl S L β C)} (ops : List (Nat × Bool)) (h : XB X Γ B F ρ' sts m sto) (e : Sim.wks ρ ops = ρ') : XB X Γ B F ρ sts m sto := imB (lkB h) fun D σ H ⟨G, s, A, e1, q⟩ => (A.wks ops).mono fun H' ⟨G', l, A'⟩ => ⟨G', s, e ▸ A', e1, q⟩
theorem xp1_pre (ops : List (Nat × Bool)) (h : XP1 X Γ B ρ' st m sto) (e : Sim.wks ρ ops = ρ') : XP1 X Γ B ρ st m sto := imS (lkS h) fun D σ H ⟨G, s, A, e1, q⟩ => (A.wks ops).mono fun H' ⟨G', l, A'⟩ => ⟨G', s, e ▸ A', e1, q⟩
theorem xb1_pre {m : Option (Fl S L β C)} (ops : List (Nat × Bool)) (h : XB1 X Γ B F ρ' st m sto) (e : Sim.wks ρ ops = ρ') : XB1 X Γ B F ρ st m sto := imS (lkS h) fun D σ H ⟨G, s, A, e1, q⟩ => (A.wks ops).mono fun H' ⟨G', l, A'⟩ => ⟨G', s, e ▸ A', e1, q⟩
/-- .. behind -/
theorem xp_wk {sto' : S → Sto} (ops : List (Nat × Bool)) (h : XP X Γ B ρ sts m sto) (e : ∀ s, Sim.wks (sto s) ops = sto' s) : XP X Γ B ρ sts m sto' := imB (lkB' h) fun D σ H ⟨G, s, A, e1, q⟩ => ⟨G, s, A, e1, fun G' H' σ' A' => (A'.wks ops).mono fun H2 ⟨G2, l, A2⟩ => q G2 H2 σ' (e s ▸ A2)⟩
theorem xp1_wk {sto' : S → Sto} (ops : List (Nat × Bool)) (h : XP1 X Γ B ρ st m sto) (e : ∀ s, Sim.wks (sto s) ops = sto' s) : XP1 X Γ B ρ st m sto' := imS (lkS' h) fun D σ H ⟨G, s, A, e1, q⟩ => ⟨G, s, A, e1, fun G' H' σ' A' => (A'.wks ops).mono fun H2 ⟨G2, l, A2⟩ => q G2 H2 σ' (e s ▸ A2)⟩
theorem xb_wk {m : Option (Fl S L β C)} {sto' : S → Sto} (ops : List (Nat × Bool)) (h : XB X Γ B F ρ sts m sto) (e : ∀ s, Sim.wks (sto s) ops = sto' s) : XB X Γ B F ρ sts m sto' := imB (lkB' h) fun D σ H ⟨G, s, A, e1, q⟩ => ⟨G, s, A, e1, by
  cases s with
  | nx s => exact fun G' H' σ' A' => (A'.wks ops).mono fun H2 ⟨G2, l, A2⟩ => q G2 H2 σ' (e s ▸ A2)
  | bk l => exact fun G' H' σ' A' => .done (q G' H' σ' A')
  | ct l => exact fun G' H' σ' A' => .done (q G' H' σ' A')
  | ret b c => exact fun v G' H' σ' A' r f => .done (q v G' H' σ' A' r f)
  | err b c => exact q⟩
/-- the outcome told in another way -/
theorem xp_map (f : S → S2) {sto2 : S2 → Sto} (h : XP X Γ B ρ sts m sto) (e : ∀ s, sto2 (f s) = sto s) : XP X Γ B ρ sts (m.bind fun s => some (f s)) sto2 := imB h fun D σ H ⟨G, s, A, e1, q⟩ => by
  cases m with
  | none => cases e1
  | some s1 =>
    cases e1
    exact ⟨G, s1, A, rfl, fun G' H' σ' A' => q G' H' σ' (by rw [e]; exact A')⟩

/-! ### statements -/
theorem xp_pass : XP1 X Γ B ρ (.Pass pos) (some ()) (fun _ => ρ) := imS ps_pass fun D σ H ⟨G, s, A, e, q⟩ => q G H σ A
theorem xp_set (d : Dok X Γ B N sc k fx W M) {α : Type} [I : Rp α] {m : Option α} {x : Str} (i : Nat) {p' : Pos} (he : XE X Γ B ρ e m) (hi : N[i]? = some x) (hx : Loc sc x) (hρ : Nat.ble (i + 1) ρ.length = true := by rfl) (hf : fx.contains i = false := by rfl) (hs : swapsWith e (some (.Name x p')) pos.line X.env = pure false := by rfl) :
    XP1 X Γ B ρ (.Assign [.Name x p'] e pos) m (fun z => ρ.set i (vl z)) := imS (ps_set (i := i) (by rw [d.hN]; exact d.nd) (by rw [d.hN]; exact hi) (by rw [d.hsc]; exact hx) he hs (.inl (d.hfn x))) fun D σ H ⟨G, s, A, e, q⟩ =>
  ⟨G, s, A, e, fun v G' H' g r => q G' H' _ ((A.grow g).setV (Nat.le_of_ble_eq_true hρ) r fun hm => by rw [d.hfx] at hm; rw [List.contains_iff_mem.mpr hm] at hf; cases hf)⟩
theorem xb_ret {m : Option β} {c : C} (he : XE X Γ B ρ e m) (hc : F.str c = ρ') (ops : List (Nat × Bool)) (hw : Sim.wks ρ ops = ρ') (hfr : F.fr = false) : XB1 X Γ B F ρ (.Return (some e) pos) (S := S) (m.bind fun b => some (.ret b c)) sto := imS (lkS' (ps_ret he)) fun D σ H ⟨G, s, A, e, q⟩ => by
  cases m with
  | none => cases e
  | some b =>
    cases e
    exact ⟨G, b, A, rfl, fun v G' H' g r => ((A.grow g).wks ops).mono fun H2 ⟨G2, l2, A2⟩ => q v G2 H2 σ (by rw [hc, ← hw]; exact A2) (Rp.mono l2 r) fun z => by rw [hfr] at z; cases z⟩
theorem xp_if {c : Expr} {mc : Option Bool} {m1 m2 : Option S} (hc : XT X Γ B ρ c mc) (h1 : XP X Γ B ρ sts m1 sto) (h2 : XP X Γ B ρ rest m2 sto) : XP1 X Γ B ρ (.If c sts rest pos) (mc.bind fun t => if t = true then m1 else m2) sto := imS (ps_if hc h1 h2) fun D σ H ⟨G, s, A, e, q⟩ => by
  cases mc with
  | none => cases e
  | some x =>
    refine ⟨G, x, A, rfl, fun G1 H1 g1 => ?_⟩
    cases x with
    | true => exact ⟨G1, s, A.grow g1, e, q⟩
    | false => exact ⟨G1, s, A.grow g1, e, q⟩
theorem xb_if {c : Expr} {mc : Option Bool} {m1 m2 : Option (Fl S L β C)} (hc : XT X Γ B ρ c mc) (h1 : XB X Γ B F ρ sts m1 sto) (h2 : XB X Γ B F ρ rest m2 sto) : XB1 X Γ B F ρ (.If c sts rest pos) (mc.bind fun t => if t = true then m1 else m2) sto := imS (ps_if hc h1 h2) fun D σ H ⟨G, s, A, e, q⟩ => by
  cases mc with
  | none => cases e
  | some x =>
    refine ⟨G, x, A, rfl, fun G1 H1 g1 => ?_⟩
    cases x with
    | true => exact ⟨G1, s, A.grow g1, e, by cases s <;> exact q⟩
    | false => exact ⟨G1, s, A.grow g1, e, by cases s <;> exact q⟩
theorem xb_break {l : L} (h : F.stb l = ρ) : XB1 X Γ B F ρ (.Break pos) (S := S) (some (.bk l)) sto := imS ps_break fun D σ H ⟨G, s, A, e, q⟩ => by
  cases e
  exact q G H σ (h ▸ A)
theorem xb_continue {l : L} (h : F.stc l = ρ) : XB1 X Γ B F ρ (.Continue pos) (S := S) (some (.ct l)) sto := imS ps_continue fun D σ H ⟨G, s, A, e, q⟩ => by
  cases e
  exact q G H σ (h ▸ A)
end
end Sim

set_option Elab.async false
set_option autoImplicit false
set_option linter.all false
set_option maxRecDepth 100000
set_option maxHeartbeats 1000000
namespace Sim
open PySem L2
open Rp (rep)
open At1 (toV)
open K1 (key)
open KT (keys)
open Ow (own)
open RpA (repA)

/-! ### what is walked -/
def WalkR (Γ : Gm) (G : Hp) (J : It) {α : Type} [Rp α] (xs : List α) : Prop := ∃ Y, Walk J xs.length (fun H => ∃ G1, Le G G1 ∧ Sub G1 H) Y ∧
  ∀ i H v H1, i < xs.length → Y i H v H1 → ∀ G1, Le G G1 → Sub G1 H → ∃ x G2, xs[i]? = some x ∧ Grow G1 H G2 H1 ∧ rep Γ G2 v x
def cI (Γ : Gm) (B : Bs) (ρ : Sto) {α : Type} [Rp α] (m : Option (List α)) : TI := fun σ H R => ∃ G xs, At Γ B ρ G H σ ∧ m = some xs ∧ ∀ J G' H', Grow G H G' H' → WalkR Γ G' J xs → R J H'
abbrev XI (X : Cx) (Γ : Gm) (B : Bs) (ρ : Sto) (tg e : Expr) {α : Type} [Rp α] (m : Option (List α)) : Prop := PI X tg e (cI Γ B ρ m)
/-- targets -/
def cG (Γ : Gm) (B : Bs) {S α : Type} [Rp α] (ρ : S → Sto) (ρt : S → α → Sto) : TG := fun v σ H Q => ∃ s a G, At Γ B (ρ s) G H σ ∧ rep Γ G v a ∧ ∀ G' H' σ', Le G G' → At Γ B (ρt s a) G' H' σ' → Q σ' H'
abbrev XG (X : Cx) (Γ : Gm) (B : Bs) (tg : Expr) {S α : Type} [Rp α] (ρ : S → Sto) (ρt : S → α → Sto) : Prop := PG X tg (cG Γ B ρ ρt)
theorem imI {X : Cx} {tg e : Expr} {t t' : TI} (h : PI X tg e t) (k : ∀ σ H R, t' σ H R → t σ H R) : PI X tg e t' := ⟨fun pins s σ H R I q => h.run pins s σ H R I (k σ H R q)⟩
theorem imG {X : Cx} {tg : Expr} {t t' : TG} (h : PG X tg t) (k : ∀ v σ H Q, t' v σ H Q → t v σ H Q) : PG X tg t' := ⟨fun pins s σ H v u Q I r q => h.run pins s σ H v u Q I r (k v σ H Q q)⟩

def flNext {S L β C : Type} (k : S → Option (Fl S L β C)) : Fl S S β C → Option (Fl S L β C)
  | .nx s' => k s'
  | .ct s' => k s'
  | .bk s' => some (.nx s')
  | .ret b c => some (.ret b c)
  | .err e c => some (.err e c)
def forF {S α L β C : Type} (f : S → α → Option (Fl S S β C)) : S → List α → Option (Fl S L β C)
  | s, [] => some (.nx s)
  | s, x :: r => (f s x).bind (flNext fun s' => forF f s' r)
def forP {S α : Type} (f : S → α → Option S) : S → List α → Option S
  | s, [] => some s
  | s, x :: r => (f s x).bind fun s' => forP f s' r
def whileF {S L β C : Type} (c : S → Option Bool) (f : S → Option (Fl S S β C)) : Nat → S → Option (Fl S L β C)
  | 0, _ => none
  | n + 1, s => (c s).bind fun t => if t = true then (f s).bind (flNext fun s' => whileF c f n s') else some (.nx s)
def whileP {S : Type} (c : S → Option Bool) (f : S → Option S) : Nat → S → Option S
  | 0, _ => none
  | n + 1, s => (c s).bind fun t => if t = true then (f s).bind fun s' => whileP c f n s' else some s
abbrev Kt.loop {L β C : Type} (F : Kt L β C) (S : Type) (sto : S → Sto) : Kt S β C := ⟨sto, sto, F.str, F.fr, F.W⟩
/-- the base with more frozen -/
abbrev Bs.up (B : Bs) (G : Hp) : Bs := { B with G := G }
theorem At.up {Γ : Gm} {B : Bs} {ρ ρ' : Sto} {G H G' H' : Hp} {σ σ' : St} (A0 : At Γ B ρ G H σ) (A : At Γ B ρ' G' H' σ') (l : Le G G') : At Γ (B.up G) ρ' G' H' σ' :=
  ⟨A.sub, l, A.keep, A.live, fun a hm hb hg => A.thin a hm hb (by
    cases q : B.G a with
    | none => rfl
    | some o => exact absurd ((A0.le a o q).symm.trans hg) (by simp)), A.slots, A.fix⟩
theorem At.down {Γ : Gm} {B : Bs} {ρ ρ' : Sto} {G H G' H' : Hp} {σ σ' : St} (A0 : At Γ B ρ G H σ) (A : At Γ (B.up G) ρ' G' H' σ') : At Γ B ρ' G' H' σ' :=
  ⟨A.sub, A0.le.trans A.le, A.keep, A.live, fun a hm hb hg => (A0.thin a hm hb hg).trans (A.thin a hm hb), A.slots, A.fix⟩
section
variable {X : Cx} {Γ : Gm} {B : Bs} {L β C : Type} [Rp β] {F : Kt L β C} {ρ ρ' : Sto} {N : List Str} {sc : Scope} {k : Nat} {fx : List Nat} {W : WX} {M : List Addr} {pos : Pos} {e a b tg it : Expr} {st : Stmt} {sts rest body : List Stmt} {S S1 S2 : Type} {m : Option S} {sto : S → Sto}
variable {α : Type} [Rp α]
theorem xg_name (d : Dok X Γ B N sc k fx W M) {ρ : S → Sto} {x : Str} (i : Nat) (hi : N[i]? = some x) (hx : Loc sc x) (hρ : ∀ s, Nat.ble (i + 1) (ρ s).length = true := by intro _; rfl) (hf : fx.contains i = false := by rfl) : XG X Γ B (.Name x pos) ρ (fun s (a : α) => (ρ s).set i (vl a)) :=
  imG (pg_name (i := i) (by rw [d.hN]; exact d.nd) (by rw [d.hN]; exact hi) (by rw [d.hsc]; exact hx) (.inl (d.hfn x))) fun v σ H Q ⟨s, a, G, A, r, q⟩ => q G H _ (.refl _) (A.setV (Nat.le_of_ble_eq_true (hρ s)) r fun hm => by
    rw [d.hfx] at hm
    rw [List.contains_iff_mem.mpr hm] at hf
    cases hf)
theorem xb_for (d : Dok X Γ B N sc k fx W M) {mxs : Option (List α)} {ρt : S → α → Sto} {f : S → α → Option (Fl S S β C)} (s0 : S) (hi : XI X Γ B (sto s0) tg it mxs) (hg : ∀ B', Dok X Γ B' N sc k fx W M → XG X Γ B' tg sto ρt)
    (hb : ∀ B', Dok X Γ B' N sc k fx W M → ∀ s a, XB X Γ B' (F.loop S sto) (ρt s a) body (f s a) sto) (hs : ∀ x, foldedSetIterable it X.env x = pure x := by intro _; rfl) : XB1 X Γ B F (sto s0) (.For tg it body [] pos) (mxs.bind fun xs => forF f s0 xs) sto := by
  -- the base grows at the loop's start: the loop's rule is taken for each base
  have up : ∀ G, Dok X Γ (B.up G) N sc k fx W M := fun G => ⟨d.toCok, d.own, d.hfn, d.tk, d.hfx, d.hM, d.stk, d.frm⟩
  refine imS (ps_for (g := fun v σ H Q => ∃ G, cG Γ (B.up G) sto ρt v σ H Q) (tb := fun D σ H => ∃ p : Hp × S × α, cS Γ (B.up p.1) (F.loop S sto) (ρt p.2.1 p.2.2) (f p.2.1 p.2.2) sto D σ H) d.own d.calm hi ⟨fun pins s σ H v u Q I r ⟨G, q⟩ => (hg (B.up G) (up G)).run pins s σ H v u Q I r q⟩ (allB fun p => hb (B.up p.1) (up p.1) p.2.1 p.2.2) hs) fun D σ H ⟨G, r, A, e, q⟩ => ?_
  cases mxs with
  | none => cases e
  | some xs =>
    refine ⟨G, xs, A, rfl, fun J G' H' g ⟨Y, hw, hy⟩ => ?_⟩
    have A' := A.grow g
    refine for_it (g := fun v σ H Q => ∃ G, cG Γ (B.up G) sto ρt v σ H Q) (tb := fun D σ H => ∃ p : Hp × S × α, cS Γ (B.up p.1) (F.loop S sto) (ρt p.2.1 p.2.2) (f p.2.1 p.2.2) sto D σ H) (D := D) hw (fun i σ H => ∃ s G1, At Γ B (sto s) G1 H σ ∧ Le G' G1 ∧ (forF f s (xs.drop i) : Option (Fl S L β C)) = some r) ⟨s0, G', A', .refl _, e⟩ (fun i σ H _ ⟨s, G1, A1, l1, _⟩ => ⟨G1, l1, A1.sub⟩) ?_ ?_
    · rintro i v σ1 H1 H2 hi ⟨s, G1, A1, l1, e1⟩ y
      obtain ⟨x, G2, hx, g2, r2⟩ := hy i H1 v H2 hi y G1 l1 A1.sub
      have A2 := A1.grow g2
      refine ⟨G', s, x, G2, A'.up A2 (l1.trans g2.leG), r2, fun G3 H3 σ3 l3 A3 => ?_⟩
      have ed : xs.drop i = x :: xs.drop (i + 1) := by
        obtain ⟨h1, h2⟩ := List.getElem?_eq_some_iff.mp hx
        rw [List.drop_eq_getElem_cons h1, h2]
      rw [ed] at e1
      refine ⟨⟨G', s, x⟩, ?_⟩
      have e1 : ((f s x).bind (flNext fun s' => forF f s' (xs.drop (i + 1)))) = some r := e1
      cases hf : f s x with
      | none => rw [hf] at e1; cases e1
      | some o =>
        rw [hf] at e1
        refine ⟨G3, o, A3, by first | exact hf | rfl, ?_⟩
        cases o with
        | nx s' => exact fun G4 H4 σ4 A4 => ⟨s', G4, A'.down A4, A4.le, e1⟩
        | ct s' => exact fun G4 H4 σ4 A4 => ⟨s', G4, A'.down A4, A4.le, e1⟩
        | bk s' =>
          have e1 := Option.some.inj e1
          subst e1
          exact fun G4 H4 σ4 A4 => q G4 H4 σ4 (A'.down A4)
        | ret b c =>
          have e1 := Option.some.inj e1
          subst e1
          exact fun v G4 H4 σ4 A4 => q v G4 H4 σ4 (A'.down A4)
        | err e c =>
          have e1 := Option.some.inj e1
          subst e1
          exact fun cls d G4 H4 σ4 A4 => q cls d G4 H4 σ4 (A'.down A4)
    · rintro σ1 H1 ⟨s, G1, A1, l1, e1⟩
      rw [List.drop_length] at e1
      have e1 := Option.some.inj e1
      subst e1
      exact q G1 H1 σ1 A1
theorem xp_for (d : Dok X Γ B N sc k fx W M) {mxs : Option (List α)} {ρt : S → α → Sto} {f : S → α → Option S} (s0 : S) (hi : XI X Γ B (sto s0) tg it mxs) (hg : ∀ B', Dok X Γ B' N sc k fx W M → XG X Γ B' tg sto ρt)
    (hb : ∀ B', Dok X Γ B' N sc k fx W M → ∀ s a, XP X Γ B' (ρt s a) body (f s a) sto) (hs : ∀ x, foldedSetIterable it X.env x = pure x := by intro _; rfl) : XP1 X Γ B (sto s0) (.For tg it body [] pos) (mxs.bind fun xs => forP f s0 xs) sto := by
  have up : ∀ G, Dok X Γ (B.up G) N sc k fx W M := fun G => ⟨d.toCok, d.own, d.hfn, d.tk, d.hfx, d.hM, d.stk, d.frm⟩
  refine imS (ps_for (g := fun v σ H Q => ∃ G, cG Γ (B.up G) sto ρt v σ H Q) (tb := fun D σ H => ∃ p : Hp × S × α, cP Γ (B.up p.1) (ρt p.2.1 p.2.2) (f p.2.1 p.2.2) sto D σ H) d.own d.calm hi ⟨fun pins s σ H v u Q I r ⟨G, q⟩ => (hg (B.up G) (up G)).run pins s σ H v u Q I r q⟩ (allB fun p => hb (B.up p.1) (up p.1) p.2.1 p.2.2) hs) fun D σ H ⟨G, r, A, e, q⟩ => ?_
  cases mxs with
  | none => cases e
  | some xs =>
    refine ⟨G, xs, A, rfl, fun J G' H' g ⟨Y, hw, hy⟩ => ?_⟩
    have A' := A.grow g
    refine for_it (g := fun v σ H Q => ∃ G, cG Γ (B.up G) sto ρt v σ H Q) (tb := fun D σ H => ∃ p : Hp × S × α, cP Γ (B.up p.1) (ρt p.2.1 p.2.2) (f p.2.1 p.2.2) sto D σ H) (D := D) hw (fun i σ H => ∃ s G1, At Γ B (sto s) G1 H σ ∧ Le G' G1 ∧ forP f s (xs.drop i) = some r) ⟨s0, G', A', .refl _, e⟩ (fun i σ H _ ⟨s, G1, A1, l1, _⟩ => ⟨G1, l1, A1.sub⟩) ?_ ?_
    · rintro i v σ1 H1 H2 hi ⟨s, G1, A1, l1, e1⟩ y
      obtain ⟨x, G2, hx, g2, r2⟩ := hy i H1 v H2 hi y G1 l1 A1.sub
      have A2 := A1.grow g2
      refine ⟨G', s, x, G2, A'.up A2 (l1.trans g2.leG), r2, fun G3 H3 σ3 l3 A3 => ?_⟩
      have ed : xs.drop i = x :: xs.drop (i + 1) := by
        obtain ⟨h1, h2⟩ := List.getElem?_eq_some_iff.mp hx
        rw [List.drop_eq_getElem_cons h1, h2]
      rw [ed] at e1
      have e1 : ((f s x).bind fun s' => forP f s' (xs.drop (i + 1))) = some r := e1
      cases hf : f s x with
      | none => rw [hf] at e1; cases e1
      | some s' =>
        rw [hf] at e1
        exact ⟨⟨G', s, x⟩, G3, s', A3, by first | exact hf | rfl, fun G4 H4 σ4 A4 => ⟨s', G4, A'.down A4, A4.le, e1⟩⟩
    · rintro σ1 H1 ⟨s, G1, A1, l1, e1⟩
      rw [List.drop_length] at e1
      have e1 := Option.some.inj e1
      subst e1
      exact q G1 H1 σ1 A1
theorem xb_while (d : Dok X Γ B N sc k fx W M) {c : Expr} {mc : S → Option Bool} {f : S → Option (Fl S S β C)} (s0 : S) (n : Nat) (hc : ∀ s, XT X Γ B (sto s) c (mc s)) (hb : ∀ s, XB X Γ B (F.loop S sto) (sto s) body (f s) sto) : XB1 X Γ B F (sto s0) (.While c body [] pos) (whileF mc f n s0) sto := by
  refine imS (ps_while d.own (allT hc) (allB hb)) fun D σ H ⟨G, r, A, e, q⟩ => ?_
  refine ⟨fun m σ H => ∃ s G1, At Γ B (sto s) G1 H σ ∧ (whileF mc f m s : Option (Fl S L β C)) = some r, ⟨n, s0, G, A, e⟩, ?_⟩
  rintro m σ1 H1 ⟨s, G1, A1, e1⟩
  cases m with
  | zero => cases e1
  | succ m =>
    have e1 : ((mc s).bind fun t => if t = true then (f s).bind (flNext fun s' => whileF mc f m s') else some (.nx s)) = some r := e1
    cases ht : mc s with
    | none => rw [ht] at e1; cases e1
    | some t =>
      rw [ht] at e1
      refine ⟨s, G1, t, A1, ht, fun G2 H2 g2 => ?_⟩
      have A2 := A1.grow g2
      cases t with
      | false =>
        have e1 := Option.some.inj e1
        subst e1
        show D.nx σ1 H2
        exact q G2 H2 σ1 A2
      | true =>
        refine ⟨fun σ H => ∃ s G1, At Γ B (sto s) G1 H σ ∧ (whileF mc f m s : Option (Fl S L β C)) = some r, fun σ' H' w => ⟨m, Nat.lt_succ_self _, w⟩, s, ?_⟩
        have e1 : ((f s).bind (flNext fun s' => whileF mc f m s')) = some r := e1
        cases hf : f s with
        | none => rw [hf] at e1; cases e1
        | some o =>
          rw [hf] at e1
          refine ⟨G2, o, A2, by first | exact hf | rfl, ?_⟩
          cases o with
          | nx s' => exact fun G4 H4 σ4 A4 => ⟨s', G4, A4, e1⟩
          | ct s' => exact fun G4 H4 σ4 A4 => ⟨s', G4, A4, e1⟩
          | bk s' =>
            have e1 := Option.some.inj e1
            subst e1
            exact q
          | ret b c =>
            have e1 := Option.some.inj e1
            subst e1
            exact q
          | err e c =>
            have e1 := Option.some.inj e1
            subst e1
            exact q
theorem xp_while (d : Dok X Γ B N sc k fx W M) {c : Expr} {mc : S → Option Bool} {f : S → Option S} (s0 : S) (n : Nat) (hc : ∀ s, XT X Γ B (sto s) c (mc s)) (hb : ∀ s, XP X Γ B (sto s) body (f s) sto) : XP1 X Γ B (sto s0) (.While c body [] pos) (whileP mc f n s0) sto := by
  refine imS (ps_while d.own (allT hc) (allB hb)) fun D σ H ⟨G, r, A, e, q⟩ => ?_
  refine ⟨fun m σ H => ∃ s G1, At Γ B (sto s) G1 H σ ∧ whileP mc f m s = some r, ⟨n, s0, G, A, e⟩, ?_⟩
  rintro m σ1 H1 ⟨s, G1, A1, e1⟩
  cases m with
  | zero => cases e1
  | succ m =>
    have e1 : ((mc s).bind fun t => if t = true then (f s).bind fun s' => whileP mc f m s' else some s) = some r := e1
    cases ht : mc s with
    | none => rw [ht] at e1; cases e1
    | some t =>
      rw [ht] at e1
      refine ⟨s, G1, t, A1, ht, fun G2 H2 g2 => ?_⟩
      have A2 := A1.grow g2
      cases t with
      | false =>
        have e1 := Option.some.inj e1
        subst e1
        show D.nx σ1 H2
        exact q G2 H2 σ1 A2
      | true =>
        refine ⟨fun σ H => ∃ s G1, At Γ B (sto s) G1 H σ ∧ whileP mc f m s = some r, fun σ' H' w => ⟨m, Nat.lt_succ_self _, w⟩, s, ?_⟩
        have e1 : ((f s).bind fun s' => whileP mc f m s') = some r := e1
        cases hf : f s with
        | none => rw [hf] at e1; cases e1
        | some s' =>
          rw [hf] at e1
          exact ⟨G2, s', A2, by first | exact hf | rfl, fun G4 H4 σ4 A4 => ⟨s', G4, A4, e1⟩⟩

/-! ### iterables -/
theorem xi_list {m : Option (List α)} (h : XE X Γ B ρ e m) : XI X Γ B ρ tg e m := imI (pi_list h) fun σ H R ⟨G, xs, A, e, q⟩ => ⟨G, xs, A, e, fun v G' H' g ⟨p, vs, h1, h2, h3⟩ => by
  subst h1
  have hK : ∀ {G1 : Hp} {H1 : Hp}, Le G' G1 → Sub G1 H1 → SqL X.K H1 p vs := fun l s => SqL.of (s.lst (l _ _ h2))
  refine ⟨p, rfl, ⟨vs, hK (.refl _) g.sub⟩, q _ G' H' g ⟨YAt vs, ?_, fun i H v H1 hi ⟨y1, y2⟩ G1 l1 s1 => ?_⟩⟩
  · rw [← h3.length]
    exact (walk_list (K := X.K) (a := p) (xs := vs)).mono (fun H ⟨G1, l1, s1⟩ => hK l1 s1) fun i H x H' _ _ y => y
  · subst y1
    obtain ⟨x, hx, r⟩ := h3.getV y2
    exact ⟨x, G1, hx, .refl s1, Rp.mono l1 r⟩⟩
theorem xi_tup {m : Option (TL α)} (h : XE X Γ B ρ e m) : XI X Γ B ρ tg e (m.bind fun t => some t.l) := imI (pi_tup h) fun σ H R ⟨G, xs, A, e, q⟩ => by
  cases m with
  | none => cases e
  | some t =>
    cases e
    refine ⟨G, t, A, rfl, fun v G' H' g ⟨p, vs, h1, h2, h3⟩ => ?_⟩
    subst h1
    have hK : ∀ {G1 : Hp} {H1 : Hp}, Le G' G1 → Sub G1 H1 → SqT X.K H1 p vs := fun l s => SqT.of (s.tup (l _ _ h2))
    refine ⟨p, rfl, ⟨vs, hK (.refl _) g.sub⟩, q _ G' H' g ⟨YAt vs, ?_, fun i H v H1 hi ⟨y1, y2⟩ G1 l1 s1 => ?_⟩⟩
    · rw [← h3.length]
      exact (walk_tup (K := X.K) (a := p) (xs := vs)).mono (fun H ⟨G1, l1, s1⟩ => hK l1 s1) fun i H x H' _ _ y => y
    · subst y1
      obtain ⟨x, hx, r⟩ := h3.getV y2
      exact ⟨x, G1, hx, .refl s1, Rp.mono l1 r⟩
/-- lo, lo + 1, .. below hi -/
def rangeL (lo hi : Int) : List Int := (List.range (hi - lo).toNat).map fun (i : Nat) => lo + (i : Int)
@[irreducible] def prange (lo hi : Int) : Option (List Int) := if lo.natAbs < 2 ^ 62 ∧ hi.natAbs < 2 ^ 62 then some (rangeL lo hi) else none
theorem pr_b {lo hi : Int} (h : lo.natAbs < 2 ^ 62 ∧ hi.natAbs < 2 ^ 62) : -(2 ^ 62) ≤ lo ∧ lo < 2 ^ 62 ∧ -(2 ^ 62) ≤ hi ∧ hi < 2 ^ 62 := by omega
theorem rangeL_length (lo hi : Int) : (rangeL lo hi).length = (hi - lo).toNat := by simp [rangeL]
theorem walkR_range {G : Hp} (lo hi : Int) : WalkR Γ G (Itr lo (hi - lo).toNat) (rangeL lo hi) := by
  refine ⟨YFn fun i => .int (lo + i), by rw [rangeL_length]; exact walk_range.mono (fun _ _ => trivial) fun i H x H' _ _ y => y, fun i H v H1 hi' ⟨y1, y2⟩ G1 l1 s1 => ?_⟩
  subst y1
  refine ⟨lo + (i : Int), G1, ?_, .refl s1, y2⟩
  rw [rangeL_length] at hi'
  simp [rangeL, hi']
theorem xi_range2 (c : Cok X Γ N sc k) {p : Pos} {ma mb : Option Int} (ha : XE X Γ B ρ a ma) (hb : XE X Γ B ρ b mb) (hg : Glb sc "range") (hm : Γ.mg "range" = none) (s1 : starEach [a, b] X.env = [(false, eval a X.env), (false, eval b X.env)] := by rfl) (s2 : starEach [b] X.env = [(false, eval b X.env)] := by rfl) :
    XI X Γ B ρ tg (.Call (.Name "range" p) [a, b] [] pos) (b2 ma mb prange) := imI (pi_range2 (c.gl hg) (by rw [c.hmg]; exact hm) (pa_cons ha (pa_cons hb pa_nil (by rw [s2]; rfl)) (by rw [s1, s2])) s1 s2) fun σ H R ⟨G, xs, A, e, q⟩ => by
  cases ma with
  | none => cases e
  | some x =>
    cases mb with
    | none => cases e
    | some y =>
      obtain ⟨hb, e⟩ := ite_some (by have qq : prange x y = some xs := e; unfold prange at qq; exact qq)
      have hb := pr_b hb
      refine ⟨G, x, A, rfl, fun v1 G1 H1 g1 r1 => ⟨G1, y, A.grow g1, rfl, fun v2 G2 H2 g2 r2 => ⟨x, y, by rw [rep1 r1, rep1 r2]; rfl, hb, ?_⟩⟩⟩
      subst e
      exact q _ G2 H2 (g1.trans g2) (walkR_range x y)
theorem xi_range1 (c : Cok X Γ N sc k) {p : Pos} {ma : Option Int} (ha : XE X Γ B ρ a ma) (hg : Glb sc "range") (hm : Γ.mg "range" = none) (s1 : starEach [a] X.env = [(false, eval a X.env)] := by rfl) :
    XI X Γ B ρ tg (.Call (.Name "range" p) [a] [] pos) (ma.bind fun y => prange 0 y) := imI (pi_range1 (c.gl hg) (by rw [c.hmg]; exact hm) (pa_cons ha pa_nil (by rw [s1]; rfl)) s1) fun σ H R ⟨G, xs, A, e, q⟩ => by
  cases ma with
  | none => cases e
  | some y =>
    obtain ⟨hb, e⟩ := ite_some (by have qq : prange 0 y = some xs := e; unfold prange at qq; exact qq)
    have hb := pr_b hb
    refine ⟨G, y, A, rfl, fun v1 G1 H1 g1 r1 => ⟨y, by rw [rep1 r1]; rfl, hb.2.2.1, hb.2.2.2, ?_⟩⟩
    subst e
    have w := walkR_range (Γ := Γ) (G := G1) 0 y
    rw [Int.sub_zero] at w
    exact q _ G1 H1 g1 w
end
end Sim

set_option Elab.async false
set_option autoImplicit false
set_option linter.all false
set_option maxRecDepth 100000
set_option maxHeartbeats 1000000
namespace Sim
open PySem L2
open Rp (rep)
open At1 (toV)
open K1 (key)
open KT (keys)
open Ow (own)
open RpA (repA stoA)

/-! ### promises -/
/-- a def that changes nothing and lets nothing out; fr: what it gives is new -/
def specP (Γ : Gm) (fr : Bool) {τ β : Type} [RpA τ] [Rp β] (f : τ → Option β) : Sp := fun vs H Q _ => ∃ G t b, Sub G H ∧ repA Γ G vs t ∧ f t = some b ∧ ∀ v G' H', Grow G H G' H' → rep Γ G' v b → (fr = true → Fresh H v) → Q v H'
/-- .. that may raise -/
def specE (Γ : Gm) (fr : Bool) {τ β : Type} [RpA τ] [Rp β] (f : τ → Option (Except Er β)) : Sp := fun vs H Q E => ∃ G t b, Sub G H ∧ repA Γ G vs t ∧ f t = some b ∧ match b with
  | .ok b => ∀ v G' H', Grow G H G' H' → rep Γ G' v b → (fr = true → Fresh H v) → Q v H'
  | .error e => ∀ cls d G' H', Grow G H G' H' → IsEr Γ e cls d H' → E cls d H'
/-- a def of the module's as a caller sees it -/
structure Cal (Γ : Gm) (x : Str) (k : Nat) (fr : Bool) {τ β : Type} [RpA τ] [Rp β] (f : τ → Option β) : Prop where
  ex : ∃ a fd ps, FnOk Γ.P Γ.w Γ.K Γ.mg Γ.base CX0 k a fd ps (specP Γ fr f) ∧ Γ.mg x = some (.ref a) ∧ PySem.W.keepIn Γ.K (.ref a) = true ∧ Binds Γ.K fd ps []
structure CalE (Γ : Gm) (x : Str) (k : Nat) (fr : Bool) {τ β : Type} [RpA τ] [Rp β] (f : τ → Option (Except Er β)) : Prop where
  ex : ∃ a fd ps, FnOk Γ.P Γ.w Γ.K Γ.mg Γ.base (L2.CX Γ.P Γ.w) k a fd ps (specE Γ fr f) ∧ Γ.mg x = some (.ref a) ∧ PySem.W.keepIn Γ.K (.ref a) = true ∧ Binds Γ.K fd ps []
/-- a def of the text -/
structure Def (Γ : Gm) (x : Str) (st : Stmt) (ps : List Str) : Prop where
  ex : ∃ a fd, Fun Γ.K x x st a fd ∧ Γ.mg x = some (.ref a) ∧ Binds Γ.K fd ps []

/-! ### at a def's entry -/
abbrev deads (n : Nat) : Sto := List.replicate n .dead
theorem get_rep {α : Type _} {n i : Nat} {a b : α} (h : (List.replicate n a)[i]? = some b) : b = a ∧ i < n := by
  obtain ⟨h1, h2⟩ := List.getElem?_eq_some_iff.mp h
  simp at h1 h2
  exact ⟨h2.symm, h1⟩
theorem at_start {Γ : Gm} {G H : Hp} {τ : Type} [RpA τ] {N : List Str} {vs : List V} {t : τ} {fx : List Nat} (s : Sub G H) (r : repA Γ G vs t) (hn : RpA.num τ ≤ N.length) :
    At Γ ⟨G, H, [], L2.start N vs, fx⟩ (stoA t ++ deads (N.length - RpA.num τ)) G H (L2.start N vs) := by
  have q := RpA.okA (H := H) r
  have hl : (stoA t).length = RpA.num τ := RpA.lenA t
  refine ⟨s, .refl _, fun _ _ _ h => h, fun _ h => h, fun _ _ _ h => .inl h, ⟨fun _ => [], ⟨by simp [L2.start, hl, q.1], fun i sl e => ?_, fun i j x h => by simp at h, fun _ _ => rfl⟩, fun i a h => by simp at h⟩, fun _ _ => rfl⟩
  unfold L2.start
  by_cases hi : i < RpA.num τ
  · rw [List.getElem?_append_left (by rw [hl]; exact hi)] at e
    obtain ⟨v, q1, q2⟩ := q.2 i sl e
    exact ⟨some v, by rw [List.getElem?_append_left (by simp [q.1, hi])]; simp [q1], q2⟩
  · rw [List.getElem?_append_right (by rw [hl]; omega)] at e
    obtain ⟨e1, e2⟩ := get_rep e
    rw [hl] at e2
    subst e1
    refine ⟨none, ?_, rfl⟩
    rw [List.getElem?_append_right (by simp [q.1]; omega)]
    simp [q.1, e2]
theorem At.deads {Γ : Gm} {B : Bs} {ρ : Sto} {G H : Hp} {σ : St} (A : At Γ B ρ G H σ) {n : Nat} (hn : ρ.length = n) : At Γ B (Sim.deads n) G H σ := by
  obtain ⟨φ, h1, h3⟩ := A.slots
  refine ⟨A.sub, A.le, A.keep, A.live, A.thin, ⟨fun _ => [], ⟨by simp [h1.len, hn], fun i s hs => ?_, fun i j x h => by simp at h, fun _ _ => rfl⟩, fun i a h => by simp at h⟩, A.fix⟩
  obtain ⟨e1, e2⟩ := get_rep hs
  have hi : i < σ.length := by rw [h1.len, hn]; exact e2
  exact ⟨σ[i], by simp [hi], by subst e1; exact rfl⟩
theorem At.len {Γ : Gm} {B : Bs} {ρ : Sto} {G H : Hp} {σ : St} (A : At Γ B ρ G H σ) : σ.length = ρ.length := by
  obtain ⟨φ, h1, _⟩ := A.slots
  exact h1.len
theorem At.grown {Γ : Gm} {G0 H0 : Hp} {σ0 : St} {fx : List Nat} {ρ : Sto} {G H : Hp} {σ : St} (A : At Γ ⟨G0, H0, [], σ0, fx⟩ ρ G H σ) : Grow G0 H0 G H :=
  ⟨A.le, fun a o e => A.keep a o (by simp) e, A.sub, fun a h1 h2 => A.thin a (by simp) h1 h2⟩
/-- a def's own outcomes -/
abbrev ktP (β : Type) (fr : Bool) (n : Nat) : Kt Empty β Unit := ⟨fun l => l.elim, fun l => l.elim, fun _ => deads n, fr, fun _ _ _ _ => False⟩
abbrev ktE (β : Type) (fr : Bool) (n : Nat) (W : WX) : Kt Empty β Unit := ⟨fun l => l.elim, fun l => l.elim, fun _ => deads n, fr, W⟩
def retP {S β : Type} (fin : S → β) : Fl S Empty β Unit → Option β
  | .nx s => some (fin s)
  | .ret b _ => some b
  | .bk l => l.elim
  | .ct l => l.elim
  | .err _ _ => none
def retE {S β : Type} (fin : S → β) : Fl S Empty β Unit → Option (Except Er β)
  | .nx s => some (.ok (fin s))
  | .ret b _ => some (.ok b)
  | .bk l => l.elim
  | .ct l => l.elim
  | .err e _ => some (.error e)
section
variable {Γ : Gm} {x : Str} {st : Stmt} {N ps : List Str} {k : Nat} {τ β : Type} [RpA τ] [Rp β] {fr : Bool} {S : Type} {sto : S → Sto}
/-- THE RULE for a def that is pure -/
theorem cal_of (D : Def Γ x st ps) (Sc : FnScope N ps (defScope st)) {m : τ → Option (Fl S Empty β Unit)} (fin : S → β) (hfin : ∀ s (G : Hp), rep Γ G .non (fin s)) (hps : RpA.num τ = ps.length)
    (hb : ∀ (X : Cx) (B : Bs) (t : τ), Dok X Γ B N (defScope st) k [] (fun _ _ _ _ => False) [] → XB X Γ B (ktP β fr N.length) (stoA t ++ deads (N.length - RpA.num τ)) (defBody st) (m t) sto) (fm : τ → Option β) (hm : ∀ t, fm t = (m t).bind (retP fin)) : Cal Γ x (k + 1) fr fm := by
  obtain ⟨a, fd, F, hg, bi⟩ := D.ex
  refine ⟨a, fd, ps, F.ok Sc (fun vs H Q E h => ?_) (fun cdv A outer s H vs Q E hr h => ?_), hg, F.kp, bi⟩
  · obtain ⟨G, t, b, h1, h2, _⟩ := h
    rw [(RpA.okA (H := H) h2).1, hps]
  · obtain ⟨G, t, b, h1, h2, h3, q⟩ := h
    have hN : RpA.num τ ≤ N.length := by
      rw [hps]
      have z := congrArg List.length Sc.pre
      rw [List.length_take] at z
      omega
    have A0 := at_start (fx := []) h1 h2 hN
    refine ⟨_, hb _ ⟨G, H, [], L2.start N vs, []⟩ t ⟨⟨rfl, rfl, rfl, rfl, rfl, rfl, Sc.nd, rfl, rfl, hr⟩, PassesOwn.never, fun _ => rfl, takes0, rfl, rfl, rfl, rfl⟩, ?_⟩
    rw [hm] at h3
    cases e : m t with
    | none => rw [e] at h3; cases h3
    | some r =>
      rw [e] at h3
      refine ⟨G, r, A0, by first | exact e | rfl, ?_⟩
      cases r with
      | nx s1 =>
        have h3 : some (fin s1) = some b := h3
        have h3 := Option.some.inj h3
        subst h3
        intro G' H' σ' A'
        exact q .non G' H' A'.grown (hfin s1 G') fun _ p z => by cases z
      | bk l => exact l.elim
      | ct l => exact l.elim
      | ret b' c =>
        have h3 : some b' = some b := h3
        have h3 := Option.some.inj h3
        subst h3
        intro v G' H' σ' A' r f
        exact q v G' H' A'.grown r f
      | err e' c => cases h3
/-- .. that may raise -/
theorem calE_of (D : Def Γ x st ps) (Sc : FnScope N ps (defScope st)) {m : τ → Option (Fl S Empty β Unit)} (fin : S → β) (hfin : ∀ s (G : Hp), rep Γ G .non (fin s)) (hps : RpA.num τ = ps.length)
    (hb : ∀ (X : Cx) (B : Bs) (t : τ) (W : WX), Dok X Γ B N (defScope st) k [] W [] → XB X Γ B (ktE β fr N.length W) (stoA t ++ deads (N.length - RpA.num τ)) (defBody st) (m t) sto) (fm : τ → Option (Except Er β)) (hm : ∀ t, fm t = (m t).bind (retE fin)) : CalE Γ x (k + 1) fr fm := by
  obtain ⟨a, fd, F, hg, bi⟩ := D.ex
  refine ⟨a, fd, ps, F.okX Sc (fun vs H Q E h => ?_) (fun cdv A outer s H vs Q E hr h => ?_), hg, F.kp, bi⟩
  · obtain ⟨G, t, b, h1, h2, _⟩ := h
    rw [(RpA.okA (H := H) h2).1, hps]
  · obtain ⟨G, t, b, h1, h2, h3, q⟩ := h
    have hN : RpA.num τ ≤ N.length := by
      rw [hps]
      have z := congrArg List.length Sc.pre
      rw [List.length_take] at z
      omega
    have A0 := at_start (fx := []) h1 h2 hN
    refine ⟨_, hb _ ⟨G, H, [], L2.start N vs, []⟩ t (fun cls d _ H => E cls d H) ⟨⟨rfl, rfl, rfl, rfl, rfl, rfl, Sc.nd, rfl, rfl, hr⟩, passes_of rfl, fun _ => rfl, takes_of rfl rfl rfl rfl, rfl, rfl, rfl, rfl⟩, ?_⟩
    rw [hm] at h3
    cases e : m t with
    | none => rw [e] at h3; cases h3
    | some r =>
      rw [e] at h3
      refine ⟨G, r, A0, by first | exact e | rfl, ?_⟩
      cases r with
      | nx s1 =>
        have h3 : some (.ok (fin s1)) = some b := h3
        have h3 := Option.some.inj h3
        subst h3
        intro G' H' σ' A'
        exact q .non G' H' A'.grown (hfin s1 G') fun _ p z => by cases z
      | bk l => exact l.elim
      | ct l => exact l.elim
      | ret b' c =>
        have h3 : some (.ok b') = some b := h3
        have h3 := Option.some.inj h3
        subst h3
        intro v G' H' σ' A' r f
        exact q v G' H' A'.grown r f
      | err e' c =>
        have h3 : some (.error e') = some b := h3
        have h3 := Option.some.inj h3
        subst h3
        intro cls d G' H' σ' A' r
        exact q cls d G' H' A'.grown r
end
/-! ### calls -/
section
variable {X : Cx} {Γ : Gm} {B : Bs} {ρ : Sto} {N : List Str} {sc : Scope} {k j : Nat} {pos p : Pos} {e : Expr} {es : List Expr} {x : Str} {α τ β : Type} [Rp α] [RpA τ] [Rp β] {fr : Bool}
theorem xa_nil : XA X Γ B ρ [] (some ()) := imA pa_nil fun σ H Q ⟨G, z, A, e, q⟩ => q [] G H (.refl A.sub) rfl
theorem xa_cons {m : Option α} {mt : Option τ} (he : XE X Γ B ρ e m) (ht : XA X Γ B ρ es mt) (hs : starEach (e :: es) X.env = (false, eval e X.env) :: starEach es X.env := by rfl) : XA X Γ B ρ (e :: es) (b2 m mt fun a t => some (a, t)) := imA (pa_cons he ht hs) fun σ H Q ⟨G, z, A, e, q⟩ => by
  cases m with
  | none => cases e
  | some y =>
    cases mt with
    | none => cases e
    | some t =>
      cases e
      exact ⟨G, y, A, rfl, fun v G1 H1 g1 r1 => ⟨G1, t, A.grow g1, rfl, fun vs G2 H2 g2 r2 => q (v :: vs) G2 H2 (g1.trans g2) ⟨v, vs, rfl, Rp.mono g2.leG r1, r2⟩⟩⟩
theorem xe_call (c : Cok X Γ N sc k) {f : τ → Option β} {mt : Option τ} (h : Cal Γ x j fr f) (hk : j ≤ k) (hg : Glb sc x) (ha : XA X Γ B ρ (e :: es) mt) (hdb : (x == ("__debug__" : Str)) = false := by decide) (he : starEach (e :: es) X.env = (false, eval e X.env) :: starEach es X.env := by rfl) (hpl : (backTo pos (starEach es X.env)).any (·.1) = false := by rfl) :
    XE X Γ B ρ (.Call (.Name x p) (e :: es) [] pos) (mt.bind f) := by
  obtain ⟨a, fd, ps, F, hm, kp, bi⟩ := h.ex
  refine imE (pe_call (dvs := []) (CX := CX0) (E := E0) (by rw [c.hP, c.hw, c.hK, c.hmg, c.hbase]; exact F) (c.room.mono hk) (c.gl hg) (by rw [c.hmg]; exact hm) (by rw [c.hK]; exact kp) (by rw [c.hK]; exact bi) .nil pass0 ha hdb he hpl) fun σ H Q ⟨G, z, A, e, q⟩ => ?_
  cases mt with
  | none => cases e
  | some t =>
    refine ⟨G, t, A, rfl, fun vs G1 H1 g1 r1 => ?_⟩
    show specP Γ fr f (vs ++ []) H1 Q E0
    rw [List.append_nil]
    exact ⟨G1, t, z, g1.sub, r1, e, fun v G2 H2 g2 r2 _ => q v G2 H2 (g1.trans g2) r2⟩
/-- a def that may raise, where it doesn't -/
def okOf {β : Type} : Except Er β → Option β
  | .ok b => some b
  | .error _ => none
theorem xe_callE (c : Cok X Γ N sc k) {f : τ → Option (Except Er β)} {mt : Option τ} (h : CalE Γ x j fr f) (hk : j ≤ k) (hg : Glb sc x) (ha : XA X Γ B ρ (e :: es) mt) (hdb : (x == ("__debug__" : Str)) = false := by decide) (he : starEach (e :: es) X.env = (false, eval e X.env) :: starEach es X.env := by rfl) (hpl : (backTo pos (starEach es X.env)).any (·.1) = false := by rfl) :
    XE X Γ B ρ (.Call (.Name x p) (e :: es) [] pos) (mt.bind fun t => (f t).bind okOf) := by
  obtain ⟨a, fd, ps, F, hm, kp, bi⟩ := h.ex
  refine imE (pe_call (dvs := []) (CX := L2.CX X.prog X.w) (E := E0) (by rw [c.hP, c.hw, c.hK, c.hmg, c.hbase]; exact F) (c.room.mono hk) (c.gl hg) (by rw [c.hmg]; exact hm) (by rw [c.hK]; exact kp) (by rw [c.hK]; exact bi) .nil passL ha hdb he hpl) fun σ H Q ⟨G, z, A, e, q⟩ => ?_
  cases mt with
  | none => cases e
  | some t =>
    refine ⟨G, t, A, rfl, fun vs G1 H1 g1 r1 => ?_⟩
    show specE Γ fr f (vs ++ []) H1 Q E0
    rw [List.append_nil]
    have e : (f t).bind okOf = some z := e
    cases hf : f t with
    | none => rw [hf] at e; cases e
    | some r =>
      rw [hf] at e
      cases r with
      | error er => cases e
      | ok b =>
        have e : some b = some z := e
        have e := Option.some.inj e
        subst e
        exact ⟨G1, t, .ok b, g1.sub, r1, by first | exact hf | rfl, fun v G2 H2 g2 r2 _ => q v G2 H2 (g1.trans g2) r2⟩
end
end Sim

set_option Elab.async false
set_option autoImplicit false
set_option linter.all false
set_option maxRecDepth 100000
set_option maxHeartbeats 1000000
namespace Sim
open PySem L2
open Rp (rep)
open At1 (toV)
open K1 (key)
open KT (keys)
open Ow (own)
open RpA (repA stoA)

/-- a new list -/
def cN (Γ : Gm) (B : Bs) (ρ : Sto) {α : Type} [Rp α] (m : Option (List α)) : TE := fun σ H Q => ∃ G xs, At Γ B ρ G H σ ∧ m = some xs ∧ ∀ p vs G1 H1, Grow G H G1 H1 → H1 p = none → RpL Γ G1 vs xs → Q (.ref p) (upd H1 p (.lst vs))
abbrev XN (X : Cx) (Γ : Gm) (B : Bs) (ρ : Sto) (e : Expr) {α : Type} [Rp α] (m : Option (List α)) : Prop := PE X e (cN Γ B ρ m)
/-- a size that the model has room for -/
def BIG : Nat := 1000000
theorem big_le {n : Nat} (h : n ≤ BIG) : n ≤ sizeLine := Nat.le_trans h (by decide)
theorem big_lt {n : Nat} (h : n ≤ BIG) : n < sizeLine := Nat.lt_of_le_of_lt h (by decide)

section
variable {X : Cx} {Γ : Gm} {B : Bs} {ρ ρ' : Sto} {N : List Str} {sc : Scope} {k : Nat} {fx : List Nat} {W : WX} {M : List Addr} {pos p p' : Pos} {e a b o : Expr} {es : List Expr} {S : Type} {sto : S → Sto}
variable {α β : Type} [Rp α] [Rp β]

/-! ### new lists -/
theorem xe_ofN {m : Option (List α)} (h : XN X Γ B ρ e m) : XE X Γ B ρ e m := imE h fun σ H Q ⟨G, xs, A, e, q⟩ => ⟨G, xs, A, e, fun p vs G1 H1 g hp r => by
  have g2 := Grow.new g.sub hp (.lst vs)
  exact q _ _ _ (g.trans g2) ⟨p, vs, rfl, upd_same, r.mono g2.leG⟩⟩
theorem xr_ofN {m : Option (List α)} (h : XN X Γ B ρ e m) : XR X Γ B ρ e m := xr_of (xe_ofN h)
theorem xp_setN (d : Dok X Γ B N sc k fx W M) {m : Option (List α)} {x : Str} (i : Nat) (he : XN X Γ B ρ e m) (hi : N[i]? = some x) (hx : Loc sc x) (hρ : Nat.ble (i + 1) ρ.length = true := by rfl) (hf : fx.contains i = false := by rfl) (hs : swapsWith e (some (.Name x p')) pos.line X.env = pure false := by rfl) :
    XP1 X Γ B ρ (.Assign [.Name x p'] e pos) m (fun z => ρ.set i (ow (OL.mk z))) := imS (ps_set (i := i) (by rw [d.hN]; exact d.nd) (by rw [d.hN]; exact hi) (by rw [d.hsc]; exact hx) he hs (.inl (d.hfn x))) fun D σ H ⟨G, s, A, e, q⟩ =>
  ⟨G, s, A, e, fun p vs G1 H1 g hp r => q G1 _ _ ((A.grow g).setN (Nat.le_of_ble_eq_true hρ) hp ⟨p, vs, rfl, rfl, upd_same, r⟩ fun hm => by
    rw [d.hfx] at hm
    rw [List.contains_iff_mem.mpr hm] at hf
    cases hf)⟩
theorem seqO_length : ∀ {ms : List (Option α)} {xs : List α}, seqO ms = some xs → xs.length = ms.length
  | [], xs, h => by cases h; rfl
  | m :: r, xs, h => by
    cases m with
    | none => cases h
    | some y =>
      cases hr : seqO r with
      | none =>
        have h : (seqO r).bind (fun xs => some (y :: xs)) = some xs := h
        rw [hr] at h; cases h
      | some ys =>
        have h : (seqO r).bind (fun xs => some (y :: xs)) = some xs := h
        rw [hr] at h
        cases h
        rw [List.length_cons, List.length_cons, seqO_length hr]
theorem xl_nil : XL X Γ B ρ [] (α := α) [] := imA pa_nil fun σ H Q ⟨G, z, A, e, q⟩ => by
  cases e
  exact q [] G H (.refl A.sub) .nil
theorem xl_cons {m : Option α} {ms : List (Option α)} (he : XE X Γ B ρ e m) (ht : XL X Γ B ρ es ms) (hs : starEach (e :: es) X.env = (false, eval e X.env) :: starEach es X.env := by rfl) : XL X Γ B ρ (e :: es) (m :: ms) := imA (pa_cons he ht hs) fun σ H Q ⟨G, z, A, e, q⟩ => by
  cases m with
  | none => cases e
  | some y =>
    have e : (seqO ms).bind (fun xs => some (y :: xs)) = some z := e
    cases ht : seqO ms with
    | none => rw [ht] at e; cases e
    | some ys =>
      rw [ht] at e
      cases e
      exact ⟨G, y, A, rfl, fun v G1 H1 g1 r1 => ⟨G1, ys, A.grow g1, ht, fun vs G2 H2 g2 r2 => q (v :: vs) G2 H2 (g1.trans g2) (.cons (Rp.mono g2.leG r1) r2)⟩⟩
theorem xn_list {ms : List (Option α)} (h : XL X Γ B ρ es ms) (hl : Nat.ble ms.length 1000 = true := by rfl) : XN X Γ B ρ (.List es pos) (seqO ms) := imE (pe_lst h) fun σ H Q ⟨G, xs, A, e, q⟩ => ⟨G, xs, A, e, fun vs G' H' g r => ⟨by
  rw [r.length, seqO_length e]
  exact Nat.le_trans (Nat.le_of_ble_eq_true hl) (by decide), fun p hp => q p vs G' H' g hp r⟩⟩
theorem xe_tup2 {j : Nat} {ma : Option α} {mb : Option β} (ha : XE X Γ B ρ a ma) (hb : XE X Γ B ρ b mb) (s1 : starEach [a, b] X.env = (false, eval a X.env) :: starEach [b] X.env := by rfl) (s2 : starEach [b] X.env = (false, eval b X.env) :: starEach [] X.env := by rfl) : XE X Γ B ρ (.Tuple [a, b] j pos) (b2 ma mb fun x y => some (x, y)) :=
  imE (pe_tup (pa_cons ha (pa_cons hb pa_nil s2) s1)) fun σ H Q ⟨G, z, A, e, q⟩ => by
  cases ma with
  | none => cases e
  | some x =>
    cases mb with
    | none => cases e
    | some y =>
      cases e
      refine ⟨G, x, A, rfl, fun v1 G1 H1 g1 r1 => ⟨G1, y, A.grow g1, rfl, fun v2 G2 H2 g2 r2 => ⟨(by show 2 ≤ sizeLine; decide), fun p hp => ?_⟩⟩⟩
      have g3 := Grow.new g2.sub hp (.tup [v1, v2])
      exact q _ _ _ ((g1.trans g2).trans g3) ⟨p, v1, v2, rfl, upd_same, Rp.mono (g2.leG.trans g3.leG) r1, Rp.mono g3.leG r2⟩
theorem xe_tup3 {γ : Type} [Rp γ] {c : Expr} {j : Nat} {ma : Option α} {mb : Option β} {mc : Option γ} (ha : XE X Γ B ρ a ma) (hb : XE X Γ B ρ b mb) (hc : XE X Γ B ρ c mc) (s1 : starEach [a, b, c] X.env = (false, eval a X.env) :: starEach [b, c] X.env := by rfl)
    (s2 : starEach [b, c] X.env = (false, eval b X.env) :: starEach [c] X.env := by rfl) (s3 : starEach [c] X.env = (false, eval c X.env) :: starEach [] X.env := by rfl) : XE X Γ B ρ (.Tuple [a, b, c] j pos) (ma.bind fun x => mb.bind fun y => mc.bind fun z => some (T3.mk x y z)) :=
  imE (pe_tup (pa_cons ha (pa_cons hb (pa_cons hc pa_nil s3) s2) s1)) fun σ H Q ⟨G, z, A, e, q⟩ => by
  cases ma with
  | none => cases e
  | some x =>
    cases mb with
    | none => cases e
    | some y =>
      cases mc with
      | none => cases e
      | some w =>
        cases e
        refine ⟨G, x, A, rfl, fun v1 G1 H1 g1 r1 => ⟨G1, y, A.grow g1, rfl, fun v2 G2 H2 g2 r2 => ⟨G2, w, A.grow (g1.trans g2), rfl, fun v3 G3 H3 g3 r3 => ⟨(by show 3 ≤ sizeLine; decide), fun p hp => ?_⟩⟩⟩⟩
        have g4 := Grow.new g3.sub hp (.tup [v1, v2, v3])
        exact q _ _ _ (((g1.trans g2).trans g3).trans g4) ⟨p, v1, v2, v3, rfl, upd_same, Rp.mono ((g2.leG.trans g3.leG).trans g4.leG) r1, Rp.mono (g3.leG.trans g4.leG) r2, Rp.mono g4.leG r3⟩
/-- a tuple of alike things -/
theorem xe_tupL {ms : List (Option α)} {j : Nat} (h : XL X Γ B ρ es ms) (hl : Nat.ble ms.length 1000 = true := by rfl) : XE X Γ B ρ (.Tuple es j pos) ((seqO ms).bind fun xs => some (TL.mk xs)) := imE (pe_tup h) fun σ H Q ⟨G, z, A, e, q⟩ => by
  cases hs : seqO ms with
  | none => rw [hs] at e; cases e
  | some xs =>
    rw [hs] at e
    cases e
    refine ⟨G, xs, A, hs, fun vs G' H' g r => ⟨by
      rw [r.length, seqO_length hs]
      exact Nat.le_trans (Nat.le_of_ble_eq_true hl) (by decide), fun p hp => ?_⟩⟩
    have g4 := Grow.new g.sub hp (.tup vs)
    exact q _ _ _ (g.trans g4) ⟨p, vs, rfl, upd_same, RpL.mono g4.leG r⟩

/-! ### lists -/
theorem atI_rep {G : Hp} {vs : List V} {xs : List α} (r : RpL Γ G vs xs) {i : Int} {x : α} (h : atI xs i = some x) : ∃ v, atI vs i = some v ∧ rep Γ G v x := by
  unfold atI at h ⊢
  rw [r.length]
  cases hi : ixN xs.length i with
  | none => rw [hi] at h; cases h
  | some j =>
    rw [hi] at h
    exact r.get h
theorem xe_ix {ma : Option (List α)} {mb : Option Int} (ha : XR X Γ B ρ a ma) (hb : XE X Γ B ρ b mb) (hs : PlainIx b := by intro _ _; rfl) : XE X Γ B ρ (.Subscript a b pos) (b2 ma mb fun xs i => atI xs i) := imE (pe_ix ix_list ha hb hs) fun σ H Q ⟨G, z, A, e, q⟩ => by
  cases ma with
  | none => cases e
  | some xs =>
    cases mb with
    | none => cases e
    | some i =>
      refine ⟨G, xs, A, rfl, fun p vs G1 H1 g1 hp r1 => ⟨G1, i, A.grow g1, rfl, fun v2 G2 H2 g2 r2 => ?_⟩⟩
      obtain ⟨v, hv, r⟩ := atI_rep r1 (show atI xs i = some z from e)
      exact ⟨p, vs, i, v, rfl, rep1 r2, SqL.of (g2.leH _ _ hp), hv, q v G2 H2 (g1.trans g2) (Rp.mono g2.leG r)⟩
/-- places in a tuple -/
theorem xe_fst {m : Option (α × β)} {j : Nat} {p1 : Pos} (ha : XE X Γ B ρ a m) : XE X Γ B ρ (.Subscript a (.Constant (.int 0) j p1) pos) (m.bind fun t => some t.1) := imE (pe_ix ix_tup ha pe_int fun _ _ => rfl) fun σ H Q ⟨G, z, A, e, q⟩ => by
  cases m with
  | none => cases e
  | some t =>
    cases e
    refine ⟨G, t, A, rfl, fun v G1 H1 g1 ⟨p, x, y, h1, h2, h3, h4⟩ => ?_⟩
    exact ⟨p, [x, y], 0, x, h1, rfl, SqT.of (g1.sub.tup h2), rfl, q x G1 H1 g1 h3⟩
theorem xe_snd {m : Option (α × β)} {j : Nat} {p1 : Pos} (ha : XE X Γ B ρ a m) : XE X Γ B ρ (.Subscript a (.Constant (.int 1) j p1) pos) (m.bind fun t => some t.2) := imE (pe_ix ix_tup ha pe_int fun _ _ => rfl) fun σ H Q ⟨G, z, A, e, q⟩ => by
  cases m with
  | none => cases e
  | some t =>
    cases e
    refine ⟨G, t, A, rfl, fun v G1 H1 g1 ⟨p, x, y, h1, h2, h3, h4⟩ => ?_⟩
    exact ⟨p, [x, y], 1, y, h1, rfl, SqT.of (g1.sub.tup h2), rfl, q y G1 H1 g1 h4⟩
/-- len -/
theorem xe_lenR (c : Cok X Γ N sc k) {m : Option (List α)} (ha : XR X Γ B ρ a m) (hg : Glb sc "len") (hm : Γ.mg "len" = none) (s1 : starEach [a] X.env = (false, eval a X.env) :: starEach [] X.env := by rfl) (hpl : (backTo pos (starEach [] X.env)).any (·.1) = false := by rfl) : XE X Γ B ρ (.Call (.Name "len" p) [a] [] pos) (m.bind fun xs => some (xs.length : Int)) :=
  imE (pe_callB call_len_seq (c.gl hg) (by rw [c.hmg]; exact hm) PySem.boot_len (pa_cons ha pa_nil s1) (he := s1)) fun σ H Q ⟨G, z, A, e, q⟩ => by
  cases m with
  | none => cases e
  | some xs =>
    cases e
    exact ⟨G, xs, A, rfl, fun p vs G1 H1 g1 hp r1 => ⟨p, vs, rfl, .inl (SqL.of hp), q _ G1 H1 g1 (by show V.int _ = V.int _; rw [r1.length])⟩⟩
/-- + -/
@[irreducible] def pcat {α : Type} (xs ys : List α) : Option (List α) := if xs.length + ys.length ≤ BIG then some (xs ++ ys) else none
theorem xn_cat {ma mb : Option (List α)} (ha : XR X Γ B ρ a ma) (hb : XR X Γ B ρ b mb) : XN X Γ B ρ (.BinOp a .Add b pos) (b2 ma mb pcat) := imE (pe_op op_cat ha hb) fun σ H Q ⟨G, z, A, e, q⟩ => by
  cases ma with
  | none => cases e
  | some xs =>
    cases mb with
    | none => cases e
    | some ys =>
      obtain ⟨hl, e⟩ := ite_some (by have qq : pcat xs ys = some z := e; unfold pcat at qq; exact qq)
      subst e
      refine ⟨G, xs, A, rfl, fun p1 vs G1 H1 g1 h1 r1 => ⟨G1, ys, A.grow g1, rfl, fun p2 ws G2 H2 g2 h2 r2 => ?_⟩⟩
      exact ⟨p1, p2, vs, ws, rfl, rfl, g2.leH _ _ h1, h2, by rw [r1.length, r2.length]; exact big_le hl, fun p hp => q p _ G2 H2 (g1.trans g2) hp ((r1.mono g2.leG).append r2)⟩
/-- slices -/
def cut {α : Type} (xs : List α) (lo hi : Option Int) : List α := (xs.drop (HT.sIx xs.length 0 lo)).take (HT.sIx xs.length xs.length hi - HT.sIx xs.length 0 lo)
theorem cutV_rep {G : Hp} {vs : List V} {xs : List α} (r : RpL Γ G vs xs) (lo hi : Option Int) : RpL Γ G (cutV vs lo hi) (cut xs lo hi) := by
  unfold cutV cut
  rw [r.length]
  exact (r.drop _).take _
def cO (Γ : Gm) (B : Bs) (ρ : Sto) (m : Option (Option Int)) : TO := fun σ H Q => ∃ G z, At Γ B ρ G H σ ∧ m = some z ∧ ∀ G' H', Grow G H G' H' → Q z H'
abbrev XO (X : Cx) (Γ : Gm) (B : Bs) (ρ : Sto) (e : Option Expr) (m : Option (Option Int)) : Prop := PO X e (cO Γ B ρ m)
theorem xo_none : XO X Γ B ρ none (some none) := ⟨fun pins s σ H Q I ⟨G, z, A, e, q⟩ => (po_none (X := X)).run pins s σ H Q I (by cases e; exact q G H (.refl A.sub))⟩
theorem xo_some {m : Option Int} (h : XE X Γ B ρ e m) : XO X Γ B ρ (some e) (m.bind fun i => some (some i)) := ⟨fun pins s σ H Q I ⟨G, z, A, e, q⟩ => (po_some h).run pins s σ H Q I (by
  cases m with
  | none => cases e
  | some i =>
    cases e
    exact ⟨G, i, A, rfl, fun v G1 H1 g1 r1 => ⟨i, rep1 r1, q G1 H1 g1⟩⟩)⟩
theorem xn_slice {m : Option (List α)} {lo hi : Option Expr} {ml mh : Option (Option Int)} {p2 : Pos} (ha : XR X Γ B ρ a m) (hl : XO X Γ B ρ lo ml) (hh : XO X Γ B ρ hi mh) : XN X Γ B ρ (.Subscript a (.Slice lo hi none p2) pos) (m.bind fun xs => ml.bind fun l => mh.bind fun h => some (cut xs l h)) := imE (pe_slice sl_list ha hl hh) fun σ H Q ⟨G, z, A, e, q⟩ => by
  cases m with
  | none => cases e
  | some xs =>
    cases ml with
    | none => cases e
    | some l =>
      cases mh with
      | none => cases e
      | some h =>
        cases e
        exact ⟨G, xs, A, rfl, fun p vs G1 H1 g1 hp r1 => ⟨G1, l, A.grow g1, rfl, fun G2 H2 g2 => ⟨G2, h, A.grow (g1.trans g2), rfl, fun G3 H3 g3 =>
          ⟨p, vs, rfl, SqL.of (g3.leH _ _ (g2.leH _ _ hp)), fun q' hq => q q' _ G3 H3 ((g1.trans g2).trans g3) hq (RpL.mono (g2.leG.trans g3.leG) (cutV_rep r1 l h))⟩⟩⟩⟩
/-- list(xs) -/
theorem xn_listOf (c : Cok X Γ N sc k) {m : Option (List α)} (ha : XR X Γ B ρ a m) (hg : Glb sc "list") (hm : Γ.mg "list" = none) (s1 : starEach [a] X.env = (false, eval a X.env) :: starEach [] X.env := by rfl) : XN X Γ B ρ (.Call (.Name "list" p) [a] [] pos) m :=
  imE (pe_callTy call_list_of (c.gl hg) (by rw [c.hmg]; exact hm) (by decide +kernel) (pa_cons ha pa_nil s1) (he := s1)) fun σ H Q ⟨G, xs, A, e, q⟩ =>
  ⟨G, xs, A, e, fun p vs G1 H1 g1 hp r1 => ⟨p, vs, rfl, .inl (SqL.of hp), fun l hl => q l vs G1 H1 g1 hl r1⟩⟩
/-- in, not in: plain values -/
class AtE (α : Type) [At1 α] [DecidableEq α] : Prop where
  eqv : ∀ a b : α, eqV (toV a) (toV b) = decide (a = b)
instance : AtE Int := ⟨fun a b => by show (a == b) = _; exact Bool.beq_eq_decide_eq a b⟩
instance : AtE Tt := ⟨fun a b => by show (a.s == b.s) = _; rw [Bool.beq_eq_decide_eq]; exact decide_eq_decide.mpr ⟨fun h => Tt.ext' h, fun h => by rw [h]⟩⟩
instance : AtE Bool := ⟨fun a b => by show (a == b) = _; exact Bool.beq_eq_decide_eq a b⟩
theorem inV_dec {α : Type} [At1 α] [DecidableEq α] [AtE α] (x : α) (xs : List α) : inV (toV x) (xs.map toV) = decide (x ∈ xs) := by
  unfold inV
  rw [List.any_map, Bool.eq_iff_iff, List.any_eq_true, decide_eq_true_iff]
  constructor
  · rintro ⟨y, hy, e⟩
    have e : eqV (toV y) (toV x) = true := e
    rw [AtE.eqv] at e
    rw [← of_decide_eq_true e]
    exact hy
  · intro h
    exact ⟨x, h, by show eqV (toV x) (toV x) = true; rw [AtE.eqv]; exact decide_eq_true rfl⟩
theorem flat_map {α : Type} [At1 α] (xs : List α) : (xs.map toV).all flatV = true := by
  rw [List.all_map, List.all_eq_true]
  intro x _
  exact At1.flat x
theorem xe_in {α : Type} [At1 α] [DecidableEq α] [AtE α] {ma : Option α} {mb : Option (List α)} (ha : XE X Γ B ρ a ma) (hb : XR X Γ B ρ b mb) (hm : behindInMarks .In b = false) : XE X Γ B ρ (.Compare a [.In] [b] pos) (b2 ma mb fun x xs => some (isIn x xs)) := imE (pe_cmpR op_in_seq ha hb hm) fun σ H Q ⟨G, z, A, e, q⟩ => by
  cases ma with
  | none => cases e
  | some x =>
    cases mb with
    | none => cases e
    | some xs =>
      cases e
      refine ⟨G, x, A, rfl, fun v G1 H1 g1 r1 => ⟨G1, xs, A.grow g1, rfl, fun p vs G2 H2 g2 hp r2 => ⟨p, vs, rfl, .inl (SqL.of hp), by rw [rep1 r1]; exact At1.flat x, by rw [r2.toV]; exact flat_map xs, q _ G2 H2 (g1.trans g2) ?_⟩⟩⟩
      show V.bl (inV v vs) = V.bl _
      rw [rep1 r1, r2.toV, inV_dec]
theorem xe_notIn {α : Type} [At1 α] [DecidableEq α] [AtE α] {ma : Option α} {mb : Option (List α)} (ha : XE X Γ B ρ a ma) (hb : XR X Γ B ρ b mb) (hm : behindInMarks .NotIn b = false) : XE X Γ B ρ (.Compare a [.NotIn] [b] pos) (b2 ma mb fun x xs => some (!isIn x xs)) := imE (pe_cmpR op_notIn_seq ha hb hm) fun σ H Q ⟨G, z, A, e, q⟩ => by
  cases ma with
  | none => cases e
  | some x =>
    cases mb with
    | none => cases e
    | some xs =>
      cases e
      refine ⟨G, x, A, rfl, fun v G1 H1 g1 r1 => ⟨G1, xs, A.grow g1, rfl, fun p vs G2 H2 g2 hp r2 => ⟨p, vs, rfl, .inl (SqL.of hp), by rw [rep1 r1]; exact At1.flat x, by rw [r2.toV]; exact flat_map xs, q _ G2 H2 (g1.trans g2) ?_⟩⟩⟩
      show V.bl (!inV v vs) = V.bl _
      rw [rep1 r1, r2.toV, inV_dec]
/-- append to a list of one's own -/
@[irreducible] def push {α : Type} (xs : List α) (x : α) : Option (List α) := if xs.length + 1 ≤ BIG then some (xs ++ [x]) else none
theorem xp_append (d : Dok X Γ B N sc k fx W M) {m : Option α} {x : Str} (i : Nat) {xs : List α} {apos cpos : Pos} (hi : ρ[i]? = some (ow (OL.mk xs))) (hN : N[i]? = some x) (hv : Vis sc x) (he : XE X Γ B ρ e m) (hd : (x == ("__debug__" : Str)) = false := by decide) (hcd : (x == ("__classdict__" : Str)) = false := by decide)
    (hfew : ((backTo cpos (starEach [e] X.env)).all (fun x => !x.1) && (backToKw cpos (keywordEach [] X.env)).all (fun x => x.1.isSome)
      && decide ([e].length + ([] : List Keyword).length + (if ([] : List Keyword).isEmpty then 0 else 1) < 30)) = true := by rfl)
    (hline : (apos.endLine == cpos.line) = true := by rfl) (hs : starEach [e] X.env = (false, eval e X.env) :: starEach [] X.env := by rfl) (hw : swapsWith (.Call (.Attribute (.Name x p) "append" apos) [e] [] cpos) none pos.line X.env = pure false := by rfl) :
    XP1 X Γ B ρ (.Expr (.Call (.Attribute (.Name x p) "append" apos) [e] [] cpos) pos) (m.bind fun y => push xs y) (fun ys => ρ.set i (ow (OL.mk ys))) :=
  imS (ps_expr (pe_bm PySem.F.plainAttrs_list PySem.F.slot_list_append PySem.F.type_list_append mt_append (pv_ d.toCok hN hv hd hcd) (pa_cons he pa_nil hs) (by rfl) hfew hline hs (by rfl)) hw) fun D σ H ⟨G, s, A, e, q⟩ => by
  cases m with
  | none => cases e
  | some y =>
    obtain ⟨hl, e⟩ := ite_some (by have qq : push xs y = some s := e; unfold push at qq; exact qq)
    subst e
    obtain ⟨v, fp, h1, ⟨p, vs, rfl, h3, h4, h5⟩, h6⟩ := A.getO hi
    refine ⟨.ref p, h1, .inl ⟨rfl, vs, SqL.of h4⟩, G, y, A, rfl, fun v G1 H1 g1 r1 => ⟨p, vs, v, rfl, rfl, g1.leH _ _ h4, by rw [show vs.length = xs.length from h5.length]; exact big_lt (by omega), ?_⟩⟩
    exact q G1 _ σ ((A.grow g1).setL hi h1 ((h5.mono g1.leG).append (.cons r1 .nil)))
/-- what is there, of an optional thing -/
theorem xe_unopt {m : Option (Option α)} (h : XE X Γ B ρ e m) : XE X Γ B ρ e (m.bind fun o => o) := imE h fun σ H Q ⟨G, z, A, e, q⟩ => by
  cases m with
  | none => cases e
  | some o =>
    cases o with
    | none => cases e
    | some y =>
      have e : some y = some z := e
      have e := Option.some.inj e
      subst e
      exact ⟨G, some y, A, rfl, fun v G' H' g r => q v G' H' g r.2⟩
/-- return of a list of one's own -/
theorem xb_retO {L β C : Type} [Rp β] {F : Kt L β C} (c0 : Cok X Γ N sc k) {x : Str} (i : Nat) {α : Type} {I : Ow α} {z : α} {c : C} (hi : ρ[i]? = some (.own α I z)) (hc : I.canF = true) (hN : N[i]? = some x) (hv : Vis sc x) {b : β} (hb : ∀ G v, I.iF.rep Γ G v (I.toF z) → rep Γ G v b)
    (hfp : ∀ G H v fp, I.own Γ G H v fp z → ∀ p, v = .ref p → p ∈ fp) (hM : F.fr = true → B.M = []) (ops : List (Nat × Bool)) (hw : Sim.wks (ρ.set i (.val I.F I.iF (I.toF z))) ops = F.str c) (hd : (x == ("__debug__" : Str)) = false := by decide) (hcd : (x == ("__classdict__" : Str)) = false := by decide) :
    XB1 X Γ B F ρ (.Return (some (.Name x p)) pos) (S := S) (some (.ret b c)) sto := imS (lkS' (ps_ret (pv_ c0 hN hv hd hcd))) fun D σ H ⟨G, s, A, e, q⟩ => by
  cases e
  have hlen : i < ρ.length := (List.getElem?_eq_some_iff.mp hi).1
  obtain ⟨φ, s1, s2⟩ := A.slots
  obtain ⟨o, e1, v, e2, ow'⟩ := s1.ok i _ hi
  rw [e2] at e1
  refine ⟨v, e1, ((A.freeze hi hc).mono fun H1 ⟨G', l, A'⟩ => ?_).join⟩
  refine (A'.wks ops).mono fun H2 ⟨G2, l2, A2⟩ => ?_
  obtain ⟨w, h1, h2⟩ := A'.get (α := I.F) (I := I.iF) (a := I.toF z) (i := i) (by rw [List.getElem?_set_self hlen])
  rw [e1] at h1
  cases h1
  refine q v G2 H2 σ (hw ▸ A2) (Rp.mono l2 (hb _ _ h2)) fun hfr p hp => ?_
  rcases (s2 i p (hfp _ _ _ _ ow' p hp)).2 with z | z
  · exact z
  · rw [hM hfr] at z; simp at z
/-! ### dicts -/
def look {κ α : Type} [DecidableEq κ] (d : List (κ × α)) (k : κ) : Option α := (d.find? fun kv => decide (kv.1 = k)).map (·.2)
theorem look_nil {κ α : Type} [DecidableEq κ] {x : κ} : look ([] : List (κ × α)) x = none := rfl
theorem look_pos {κ α : Type} [DecidableEq κ] {q : κ × α} {r : List (κ × α)} {x : κ} (e : q.1 = x) : look (q :: r) x = some q.2 := by simp [look, List.find?_cons, e]
theorem look_neg {κ α : Type} [DecidableEq κ] {q : κ × α} {r : List (κ × α)} {x : κ} (e : ¬ q.1 = x) : look (q :: r) x = look r x := by simp [look, List.find?_cons, e]
theorem RpK.look {κ : Type} [K1 κ] [DecidableEq κ] {G : Hp} {x : κ} : ∀ {kvs : List (Key × V)} {d : List (κ × α)}, RpK Γ G kvs d → (∀ y, Sim.look d x = some y → ∃ v, valV kvs (key x) = some v ∧ rep Γ G v y) ∧ (Sim.look d x = none → valV kvs (key x) = none)
  | _, _, .nil => ⟨fun y h => (by cases h), fun _ => rfl⟩
  | p :: _, q :: d', .cons r t => by
    have ih := RpK.look (x := x) t
    by_cases e : q.1 = x
    · refine ⟨fun y h => ?_, fun h => ?_⟩
      · rw [look_pos e] at h
        cases h
        exact ⟨p.2, valV_pos (by rw [r.1, e]), r.2⟩
      · rw [look_pos e] at h
        cases h
    · have ne : ¬ p.1 = key x := fun z => e (K1.inj _ _ (r.1.symm.trans z))
      rw [look_neg e, valV_neg ne]
      exact ih
theorem K1_kV {κ : Type} [K1 κ] [At1 κ] (h : ∀ x : κ, kV (key x) = toV x) {G : Hp} {v : V} {x : κ} (r : rep Γ G v x) : v = kV (key x) := by rw [h]; exact rep1 r
class KAt (κ : Type) [K1 κ] [At1 κ] : Prop where
  same : ∀ x : κ, kV (key x) = toV x
instance : KAt Int := ⟨fun _ => rfl⟩
instance : KAt Tt := ⟨fun _ => rfl⟩
theorem xe_dget (c : Cok X Γ N sc k) {κ : Type} [K1 κ] [At1 κ] [KAt κ] [DecidableEq κ] {md : Option (List (κ × α))} {mk : Option κ} (ha : XDK X Γ B ρ a md) (hb : XE X Γ B ρ b mk) (hs : NoSl b := by intro _ _; rfl) : XE X Γ B ρ (.Subscript a b pos) (b2 md mk look) := imE (pe_dget c.hu ha hb hs) fun σ H Q ⟨G, z, A, e, q⟩ => by
  cases md with
  | none => cases e
  | some d =>
    cases mk with
    | none => cases e
    | some x =>
      refine ⟨G, d, A, rfl, fun p kvs G1 H1 g1 hp r1 => ⟨G1, x, A.grow g1, rfl, fun v2 G2 H2 g2 r2 => ?_⟩⟩
      obtain ⟨v, hv, r⟩ := (RpK.look (x := x) r1).1 z e
      have rd : Rd H2 p (.dK kvs) := by
        rcases hp with hp | ⟨ob, hp⟩
        · exact .inl (g2.leH _ _ hp)
        · exact .inr ⟨ob, g2.leH _ _ hp⟩
      exact ⟨p, v, rfl, .inl ⟨kvs, key x, rd, by rw [KAt.same]; exact rep1 r2, hv.symm⟩, q v G2 H2 (g1.trans g2) (Rp.mono g2.leG r)⟩
theorem xe_din (c : Cok X Γ N sc k) {κ : Type} [K1 κ] [At1 κ] [KAt κ] [DecidableEq κ] {md : Option (List (κ × α))} {mk : Option κ} (ha : XE X Γ B ρ a mk) (hb : XDK X Γ B ρ b md) (h1 : behindInMarks .In b = false := by rfl) : XE X Γ B ρ (.Compare a [.In] [b] pos) (b2 mk md fun x d => some (look d x).isSome) := imE (pe_cmp (pc_din c.hu ha hb) h1) fun σ H Q ⟨G, z, A, e, q⟩ => by
  cases mk with
  | none => cases e
  | some x =>
    cases md with
    | none => cases e
    | some d =>
      cases e
      refine ⟨G, x, A, rfl, fun v G1 H1 g1 r1 => ⟨G1, d, A.grow g1, rfl, fun p kvs G2 H2 g2 hp r2 => ⟨p, valV kvs (key x), rfl, .inl ⟨kvs, key x, hp, by rw [KAt.same]; exact rep1 r1, rfl⟩, q _ G2 H2 (g1.trans g2) ?_⟩⟩⟩
      show V.bl _ = V.bl _
      cases hl : look d x with
      | none => rw [(RpK.look (x := x) r2).2 hl]; rfl
      | some y =>
        obtain ⟨v', hv, _⟩ := (RpK.look (x := x) r2).1 y hl
        rw [hv]; rfl
theorem xe_dnotIn (c : Cok X Γ N sc k) {κ : Type} [K1 κ] [At1 κ] [KAt κ] [DecidableEq κ] {md : Option (List (κ × α))} {mk : Option κ} (ha : XE X Γ B ρ a mk) (hb : XDK X Γ B ρ b md) (h1 : behindInMarks .NotIn b = false := by rfl) : XE X Γ B ρ (.Compare a [.NotIn] [b] pos) (b2 mk md fun x d => some (!(look d x).isSome)) := imE (pe_cmp (pc_dnotin c.hu ha hb) h1) fun σ H Q ⟨G, z, A, e, q⟩ => by
  cases mk with
  | none => cases e
  | some x =>
    cases md with
    | none => cases e
    | some d =>
      cases e
      refine ⟨G, x, A, rfl, fun v G1 H1 g1 r1 => ⟨G1, d, A.grow g1, rfl, fun p kvs G2 H2 g2 hp r2 => ⟨p, valV kvs (key x), rfl, .inl ⟨kvs, key x, hp, by rw [KAt.same]; exact rep1 r1, rfl⟩, q _ G2 H2 (g1.trans g2) ?_⟩⟩⟩
      show V.bl _ = V.bl _
      cases hl : look d x with
      | none => rw [(RpK.look (x := x) r2).2 hl]; rfl
      | some y =>
        obtain ⟨v', hv, _⟩ := (RpK.look (x := x) r2).1 y hl
        rw [hv]; rfl
end
end Sim

set_option Elab.async false
set_option autoImplicit false
set_option linter.all false
set_option maxRecDepth 100000
set_option maxHeartbeats 1000000
namespace Sim
open PySem L2
open Rp (rep)
open At1 (toV)
open K1 (key)
open KT (keys)
open Ow (own)
open RpA (repA stoA)

/-! ### texts, sign by sign -/
/-- a text of one sign -/
structure Ch where
  c : Nat
  ok : c < 0x110000
  deriving DecidableEq
instance : At1 Ch := ⟨fun x => .str ⟨#[x.c]⟩, fun _ => rfl⟩
theorem Ch.ext' {a b : Ch} (h : a.c = b.c) : a = b := by
  cases a; cases b; cases h; rfl
theorem Tt.get (z : Tt) {i c : Nat} (h : z.s.cps[i]? = some c) : c < 0x110000 := by
  have q := z.ok
  unfold PyData.strOk at q
  rw [Array.all_eq_true] at q
  obtain ⟨h1, h2⟩ := Array.getElem?_eq_some_iff.mp h
  have := q i h1
  rw [h2] at this
  exact of_decide_eq_true this
theorem Tt.mem (z : Tt) {c : Nat} (h : c ∈ z.s.cps.toList) : c < 0x110000 := by
  obtain ⟨i, hi⟩ := List.getElem?_of_mem h
  exact z.get (i := i) (by simpa using hi)
def signs (z : Tt) : List Ch := z.s.cps.toList.pmap Ch.mk fun _ h => z.mem h
theorem signs_get (z : Tt) {i c : Nat} (h : z.s.cps[i]? = some c) : (signs z)[i]? = some ⟨c, z.get h⟩ := by
  unfold signs
  have h : z.s.cps.toList[i]? = some c := by simpa using h
  rw [List.getElem?_pmap]
  simp [h]
theorem signs_length (z : Tt) : (signs z).length = z.s.cps.size := by simp [signs]
def inS (c : Ch) (z : Tt) : Bool := decide (c.c ∈ z.s.cps.toList)
section
variable {X : Cx} {Γ : Gm} {B : Bs} {ρ ρ' : Sto} {N : List Str} {sc : Scope} {k : Nat} {fx : List Nat} {W : WX} {M : List Addr} {pos p p' : Pos} {e a b o tg it elt : Expr} {es : List Expr} {S : Type} {sto : S → Sto}
variable {α β γ : Type} [Rp α] [Rp β] [Rp γ]
theorem xi_str {m : Option Tt} (h : XE X Γ B ρ e m) : XI X Γ B ρ tg e (m.bind fun z => some (signs z)) := imI (pi_str h) fun σ H R ⟨G, xs, A, e, q⟩ => by
  cases m with
  | none => cases e
  | some z =>
    cases e
    refine ⟨G, z, A, rfl, fun v G1 H1 g1 r1 => ⟨z.s, rep1 r1, q _ G1 H1 g1 ⟨fun i H v H' => H' = H ∧ ∃ c, z.s.cps[i]? = some c ∧ v = .str ⟨#[c]⟩, ?_, fun i H v H1 hi ⟨y1, c, y2, y3⟩ G2 l2 s2 => ?_⟩⟩⟩
    · rw [signs_length]
      exact walk_str.mono (fun _ _ => trivial) fun i H x H' _ _ y => y
    · subst y1
      exact ⟨⟨c, z.get y2⟩, G2, signs_get z y2, .refl s2, y3⟩
theorem o_inS : Op2 Γ (fun x y H Q => ∃ (c : Nat) (z : Str), x = .str ⟨#[c]⟩ ∧ y = .str z ∧ Q (.bl (decide (c ∈ z.cps.toList))) H) fun (c : Ch) (z : Tt) => some (inS c z) := op2_pure fun p q z H Q e k => ⟨p.c, q.s, rfl, rfl, by cases e; exact k⟩
theorem o_notInS : Op2 Γ (fun x y H Q => ∃ (c : Nat) (z : Str), x = .str ⟨#[c]⟩ ∧ y = .str z ∧ Q (.bl (!decide (c ∈ z.cps.toList))) H) fun (c : Ch) (z : Tt) => some (!inS c z) := op2_pure fun p q z H Q e k => ⟨p.c, q.s, rfl, rfl, by cases e; exact k⟩
/-- len of a text -/
@[irreducible] def slen (z : Tt) : Option Int := if z.s.length ≤ BIG then some (z.s.length : Int) else none
theorem xe_lenS (c : Cok X Γ N sc k) {m : Option Tt} (ha : XE X Γ B ρ a m) (hg : Glb sc "len") (hm : Γ.mg "len" = none) (s1 : starEach [a] X.env = (false, eval a X.env) :: starEach [] X.env := by rfl) : XE X Γ B ρ (.Call (.Name "len" p) [a] [] pos) (m.bind slen) :=
  imE (pe_callB call_len_str (c.gl hg) (by rw [c.hmg]; exact hm) PySem.boot_len (pa_cons ha pa_nil s1) (he := s1)) fun σ H Q ⟨G, z, A, e, q⟩ => by
  cases m with
  | none => cases e
  | some x =>
    obtain ⟨hl, e⟩ := ite_some (by have qq : slen x = some z := e; unfold slen at qq; exact qq)
    subst e
    exact ⟨G, x, A, rfl, fun v G1 H1 g1 r1 => ⟨x.s, by rw [rep1 r1]; rfl, big_le hl, q _ G1 H1 g1 rfl⟩⟩

/-! ### list comprehensions -/
def lcM {α γ : Type} (t : α → Option Bool) (f : α → Option γ) : List α → Option (List γ)
  | [] => some []
  | x :: r => (t x).bind fun b => if b = true then (f x).bind fun y => (lcM t f r).bind fun ys => some (y :: ys) else lcM t f r
/-- .. where there is room -/
@[irreducible] def lcB {α γ : Type} (t : α → Option Bool) (f : α → Option γ) (xs : List α) : Option (List γ) := if xs.length ≤ BIG then lcM t f xs else none
theorem lcM_len {α γ : Type} {t : α → Option Bool} {f : α → Option γ} : ∀ {xs : List α} {ys : List γ}, lcM t f xs = some ys → ys.length ≤ xs.length
  | [], ys, h => by cases h; exact Nat.le_refl _
  | x :: r, ys, h => by
    unfold lcM at h
    cases ht : t x with
    | none => rw [ht] at h; cases h
    | some b =>
      rw [ht] at h
      cases b with
      | false =>
        have h : lcM t f r = some ys := h
        exact Nat.le_succ_of_le (lcM_len h)
      | true =>
        cases hf : f x with
        | none => rw [hf] at h; cases h
        | some y =>
          rw [hf] at h
          cases hr : lcM t f r with
          | none => rw [hr] at h; cases h
          | some zs =>
            rw [hr] at h
            cases h
            exact Nat.succ_le_succ (lcM_len hr)
theorem At.wiped {G H : Hp} {σ : St} (A : At Γ B ρ G H σ) (i : Nat) (hf : i ∉ B.fx) : At Γ B (ρ.set i .dead) G H (σ.set i none) := by
  by_cases hi : i < ρ.length
  · obtain ⟨φ, h1, h3⟩ := A.slots
    refine ⟨A.sub, A.le, A.keep, A.live, A.thin, ⟨setφ φ i [], h1.set hi rfl fun j x _ hx => by simp at hx, fun j a ha => ?_⟩, fun j hj => ?_⟩
    · rcases mem_setφ ha with ⟨_, q⟩ | ⟨_, q⟩
      · simp at q
      · exact h3 j a q
    · rw [List.getElem?_set_ne fun z => hf (by rw [z]; exact hj)]
      exact A.fix j hj
  · rw [List.set_eq_of_length_le (by omega), List.set_eq_of_length_le (by rw [A.len]; omega)]
    exact A
theorem wipe_set1 {σ : St} {i : Nat} {v : V} : wipe ((wipe σ [i]).set i (some v)) [i] = wipe σ [i] := by
  show (((σ.set i none).set i (some v)).set i none) = σ.set i none
  simp
/-- the heap without the list in the making -/
def hideD (H : Hp) (D : Addr) : Hp := fun a => if a = D then none else H a
theorem Grow.hide {G0 H0 G H : Hp} {D : Addr} (g : Grow G0 H0 G H) (h0 : H0 D = none) (hG : G D = none) : Grow G0 H0 G (hideD H D) := by
  refine ⟨g.leG, fun a o e => ?_, fun a o e => ?_, g.thin⟩
  · have z : a ≠ D := fun z => by rw [z, h0] at e; cases e
    show (if a = D then none else H a) = some o
    rw [if_neg z]; exact g.leH a o e
  · have z : a ≠ D := fun z => by rw [z, hG] at e; cases e
    have hz : hideD H D a = H a := if_neg z
    rw [hz]
    exact g.sub a o e
theorem upd_hide {H : Hp} {D : Addr} {o : HO} (h : H D = some o) : upd (hideD H D) D o = H := by
  funext a
  unfold upd hideD
  by_cases z : a = D
  · rw [if_pos z, z, h]
  · rw [if_neg z, if_neg z]
/-- a step of growth beside the list in the making, then an item -/
theorem Grow.item {G0 H0 G1 H1 G2 H2 : Hp} {D : Addr} {vs ws : List V} (g : Grow G0 H0 G1 H1) (h0 : H0 D = none) (hG : G1 D = none) (hD : H1 D = some (.lst vs)) (g2 : Grow G1 H1 G2 H2) :
    Grow G0 H0 G2 (upd H2 D (.lst ws)) ∧ G2 D = none ∧ H2 D = some (.lst vs) := by
  have hG2 : G2 D = none := (g2.thin D (some_ne hD) hG).none fun ws e => by rw [hD] at e; cases e
  have g3 := g.trans g2
  refine ⟨⟨g3.leG, fun a o e => ?_, fun a o e => ?_, g3.thin⟩, hG2, g2.leH _ _ hD⟩
  · have z : a ≠ D := fun z => by rw [z, h0] at e; cases e
    rw [upd_ne z]; exact g3.leH a o e
  · have z : a ≠ D := fun z => by rw [z, hG2] at e; cases e
    rw [upd_ne z]; exact g3.sub a o e
/-- within a comprehension's block -/
theorem Cok.blk (c : Cok X Γ N sc k) {s : Shared} {H : Hp} {scope : Scope} {C : Addr} {cl : List (Str × Addr)} {fp : List Addr} {sc' : Scope} (h : relS scope sc = sc') : Cok (X.blk s H scope (compEnvC scope cl C X.env) fp) Γ N sc' k :=
  ⟨c.hP, c.hw, c.hK, c.hmg, c.hbase, c.hN, c.nd, by rw [← h, ← c.hsc]; rfl, c.calm, c.room⟩
theorem lc_sim {i : Nat} {mxs : Option (List α)} {t : α → Option Bool} {f : α → Option γ} (hf : i ∉ B.fx) (hρ : i < ρ.length) {σ : St} {H : Hp} {Q : VK} (h : cN Γ B ρ (mxs.bind (lcB t f)) σ H Q) :
    tLc (cI Γ B ρ mxs) (gName i) (fun σ H Q => ∃ a, cT Γ B (ρ.set i (vl a)) (t a) σ H Q) (fun σ H Q => ∃ a, cE Γ B (ρ.set i (vl a)) (f a) σ H Q) [i] σ H Q := by
  obtain ⟨G, zs, A, e, q⟩ := h
  cases mxs with
  | none => cases e
  | some xs =>
    obtain ⟨hl, e⟩ : xs.length ≤ BIG ∧ lcM t f xs = some zs := by
      have e : lcB t f xs = some zs := e
      unfold lcB at e
      by_cases hc : xs.length ≤ BIG
      · rw [if_pos hc] at e; exact ⟨hc, e⟩
      · rw [if_neg hc] at e; cases e
    refine ⟨G, xs, A, rfl, fun J G' H' g ⟨Y, hw, hy⟩ D hD => ?_⟩
    have hGD : G' D = none := g.sub.none hD
    refine lc_it (g := gName i) (tt := fun σ H Q => ∃ a, cT Γ B (ρ.set i (vl a)) (t a) σ H Q) (te := fun σ H Q => ∃ a, cE Γ B (ρ.set i (vl a)) (f a) σ H Q) (vs := [i]) (σ := σ) (Qd := fun H2 => Q (.ref D) H2) hw (fun j H2 => ∃ G1 vs ys ws, Grow G' H' G1 H2 ∧ G1 D = none ∧ H2 D = some (.lst vs) ∧ RpL Γ G1 vs ys ∧ lcM t f (xs.drop j) = some ws ∧ ys ++ ws = zs)
      ⟨G', [], [], zs, Grow.newO g.sub hD _, hGD, upd_same, .nil, e, rfl⟩ (fun j H2 _ ⟨G1, vs, ys, ws, g1, _⟩ => ⟨G1, g1.leG, g1.sub⟩) ?_ ?_
    · rintro j v H2 H3 hj ⟨G1, vs, ys, ws, g1, hG1, hD1, r1, e1, e2⟩ y
      obtain ⟨x0, G2, hx0, g2, rv⟩ := hy j H2 v H3 hj y G1 g1.leG g1.sub
      have ed : xs.drop j = x0 :: xs.drop (j + 1) := by
        obtain ⟨h1, h2⟩ := List.getElem?_eq_some_iff.mp hx0
        rw [List.drop_eq_getElem_cons h1, h2]
      rw [ed] at e1
      unfold lcM at e1
      have A2 := ((A.grow g).grow g1).grow g2
      have A3 : At Γ B (ρ.set i (vl x0)) G2 H3 ((σ.set i none).set i (some v)) := by
        have := (A2.wiped i hf).setV (i := i) (by simpa using hρ) rv hf
        simpa using this
      show wipe ((wipe σ [i]).set i (some v)) [i] = wipe σ [i] ∧ _
      refine ⟨wipe_set1, ?_⟩
      cases hb : t x0 with
      | none => rw [hb] at e1; cases e1
      | some b =>
        rw [hb] at e1
        refine ⟨x0, G2, b, A3, hb, fun G4 H4 g4 => ?_⟩
        cases b with
        | false =>
          have e1 : lcM t f (xs.drop (j + 1)) = some ws := e1
          obtain ⟨z1, z2, z3⟩ := Grow.item (ws := vs) g1 hD hG1 hD1 (g2.trans g4)
          refine ⟨G4, vs, ys, ws, ⟨z1.leG, ((g1.trans g2).trans g4).leH, ((g1.trans g2).trans g4).sub, z1.thin⟩, z2, z3, r1.mono (g2.trans g4).leG, e1, e2⟩
        | true =>
          have e1 : (f x0).bind (fun y => (lcM t f (xs.drop (j + 1))).bind fun ys => some (y :: ys)) = some ws := e1
          cases hfx : f x0 with
          | none => rw [hfx] at e1; cases e1
          | some y =>
            rw [hfx] at e1
            cases hr : lcM t f (xs.drop (j + 1)) with
            | none => rw [hr] at e1; cases e1
            | some us =>
              rw [hr] at e1
              cases e1
              refine ⟨x0, G4, y, A3.grow g4, hfx, fun w G5 H5 g5 r5 => ?_⟩
              obtain ⟨z1, z2, z3⟩ := Grow.item (ws := vs ++ [w]) g1 hD hG1 hD1 ((g2.trans g4).trans g5)
              have hz := lcM_len hr
              have hzl : zs.length ≤ xs.length := lcM_len e
              refine ⟨vs, z3, ?_, G5, vs ++ [w], ys ++ [y], us, z1, z2, upd_same, (r1.mono ((g2.trans g4).trans g5).leG).append (.cons r5 .nil), rfl, by rw [← e2]; simp⟩
              have : vs.length = ys.length := r1.length
              have h3 : ys.length ≤ zs.length := by rw [← e2]; simp
              exact big_lt (by omega)
    · rintro H2 ⟨G1, vs, ys, ws, g1, hG1, hD1, r1, e1, e2⟩
      rw [List.drop_length] at e1
      have e1 : some ([] : List γ) = some ws := e1
      have e1 := Option.some.inj e1
      subst e1
      rw [List.append_nil] at e2
      subst e2
      have := q D vs G1 (hideD H2 D) (g.trans (g1.hide hD hG1)) (if_pos rfl) r1
      rw [upd_hide hD1] at this
      exact this
/-- [elt for x in it if t] -/
theorem lc_pre {i : Nat} (hρ : Nat.ble (i + 1) ρ.length = true) (hfc : fx.contains i = false) (hfx : B.fx = fx) : i ∉ B.fx ∧ i < ρ.length := by
  refine ⟨fun hm => ?_, Nat.le_of_ble_eq_true hρ⟩
  rw [hfx] at hm
  rw [List.contains_iff_mem.mpr hm] at hfc
  cases hfc
theorem xn_lc (d : Cok X Γ N sc k) {x : Str} {px : Pos} {i : Nat} {ifs : List Expr} {scope sc' : Scope} {mxs : Option (List α)} {t : α → Option Bool} {f : α → Option γ} (hi : XI X Γ B ρ (.Name x px) it mxs) (hsc : relS scope sc = sc') (hB : blkC N sc scope [(x, i)] = true) (hx : N[i]? = some x) (hxl : scope.names.lookup x = some .local) (hxl' : sc'.names.lookup x = some .local) (hfx : B.fx = fx)
    (ht : ∀ X', Cok X' Γ N sc' k → ∀ a : α, PTs X' ifs (cT Γ B (ρ.set i (vl a)) (t a)))
    (he : ∀ X', Cok X' Γ N sc' k → ∀ a : α, XE X' Γ B (ρ.set i (vl a)) elt (f a)) (hs : ∀ x, foldedSetIterable it X.env x = pure x := by intro _; rfl) (hρ : Nat.ble (i + 1) ρ.length = true := by rfl) (hfc : fx.contains i = false := by rfl) :
    XN X Γ B ρ (.ListComp elt [⟨.Name x px, it, ifs, 0⟩] scope pos) (mxs.bind (lcB t f)) := by
  have cb : ∀ (s : Shared) (H : Hp) (C : Addr) (cl : List (Str × Addr)) (fp : List Addr), Cok (X.blk s H scope (compEnvC scope cl C X.env) fp) Γ N sc' k := fun s H C cl fp => d.blk hsc
  exact imE (pe_lc (own := [(x, i)]) (g := gName i) (tt := fun σ H Q => ∃ a, cT Γ B (ρ.set i (vl a)) (t a) σ H Q) (te := fun σ H Q => ∃ a, cE Γ B (ρ.set i (vl a)) (f a) σ H Q) d.calm (by rw [d.hN]; exact d.nd) hi (by rw [d.hN, d.hsc]; exact blkOk_by hB)
    (fun s H C cl fp => pg_name (i := i) (by rw [(cb s H C cl fp).hN]; exact d.nd) (by rw [(cb s H C cl fp).hN]; exact hx) (by rw [(cb s H C cl fp).hsc]; exact .inl hxl') (.inr (by rw [(cb s H C cl fp).hsc]; exact hxl')))
    (fun s H C cl fp => ⟨fun pins s' σ H' Q I ⟨a, q⟩ => (ht _ (cb s H C cl fp) a).run pins s' σ H' Q I q⟩) (fun s H C cl fp => allE fun a => he _ (cb s H C cl fp) a) hs) fun σ H Q h => lc_sim (lc_pre hρ hfc hfx).1 (lc_pre hρ hfc hfx).2 h
theorem sw_lc (c : Cok X Γ N sc k) {elt : Expr} {gens : List Comprehension} {scope : Scope} {y : Str} {py pos : Pos} {line : Nat} : swapsWith (.ListComp elt gens scope pos) (some (.Name y py)) line X.env =
    pure ((if sc.kind.isAnnotationScope then ScopeKind.function else sc.kind) == .function && sc.names.lookup y == some .local && py.line == pos.line && !(scope.names.any fun (n, k) => n == y && (k == .local || k == .cell))) := by
  rw [← c.hsc]; rfl
/-- y = [elt for x in it if t], the name a plain local of the def's -/
theorem xp_setLcN (d : Dok X Γ B N sc k fx W M) {x y : Str} {px py : Pos} {i j : Nat} {ifs : List Expr} {scope sc' : Scope} {p : Pos} {mxs : Option (List α)} {t : α → Option Bool} {f : α → Option γ} (hj : N[j]? = some y) (hyl : sc.names.lookup y = some .local) (hsw : ((if sc.kind.isAnnotationScope then ScopeKind.function else sc.kind) == .function && sc.names.lookup y == some .local && py.line == p.line && !(scope.names.any fun (n, k) => n == y && (k == .local || k == .cell))) = true) (hi : XI X Γ B ρ (.Name x px) it mxs) (hsc : relS scope sc = sc') (hB : blkC N sc scope [(x, i)] = true) (hx : N[i]? = some x) (hxl : scope.names.lookup x = some .local) (hxl' : sc'.names.lookup x = some .local)
    (ht : ∀ X', Cok X' Γ N sc' k → ∀ a : α, PTs X' ifs (cT Γ B (ρ.set i (vl a)) (t a)))
    (he : ∀ X', Cok X' Γ N sc' k → ∀ a : α, XE X' Γ B (ρ.set i (vl a)) elt (f a)) (hs : ∀ x, foldedSetIterable it X.env x = pure x := by intro _; rfl) (hρ : Nat.ble (i + 1) ρ.length = true := by rfl) (hfc : fx.contains i = false := by rfl) (hρ2 : Nat.ble (j + 1) ρ.length = true := by rfl) (hf2 : fx.contains j = false := by rfl) :
    XP1 X Γ B ρ (.Assign [.Name y py] (.ListComp elt [⟨.Name x px, it, ifs, 0⟩] scope p) pos) (mxs.bind (lcB t f)) (fun z => ρ.set j (ow (OL.mk z))) := by
  have cb : ∀ (s : Shared) (H : Hp) (C : Addr) (cl : List (Str × Addr)) (fp : List Addr), Cok (X.blk s H scope (compEnvC scope cl C X.env) fp) Γ N sc' k := fun s H C cl fp => d.toCok.blk hsc
  exact imS (ps_setLc (own := [(x, i)]) (g := gName i) (tt := fun σ H Q => ∃ a, cT Γ B (ρ.set i (vl a)) (t a) σ H Q) (te := fun σ H Q => ∃ a, cE Γ B (ρ.set i (vl a)) (f a) σ H Q) d.calm (by rw [d.hN]; exact d.nd) (by rw [d.hN]; exact hj) (by rw [d.hsc]; exact hyl) ((sw_lc d.toCok).trans (by rw [hsw])) hi (by rw [d.hN, d.hsc]; exact blkOk_by hB)
    (fun s H C cl fp => pg_name (i := i) (by rw [(cb s H C cl fp).hN]; exact d.nd) (by rw [(cb s H C cl fp).hN]; exact hx) (by rw [(cb s H C cl fp).hsc]; exact .inl hxl') (.inr (by rw [(cb s H C cl fp).hsc]; exact hxl')))
    (fun s H C cl fp => ⟨fun pins s' σ H' Q I ⟨a, q⟩ => (ht _ (cb s H C cl fp) a).run pins s' σ H' Q I q⟩) (fun s H C cl fp => allE fun a => he _ (cb s H C cl fp) a) hs) fun D σ H ⟨G, s, A, e, q⟩ => lc_sim (lc_pre hρ hfc d.hfx).1 (lc_pre hρ hfc d.hfx).2 (Q := fun v H1 => gName j v σ H1 D.nx) ⟨G, s, A, e, fun p vs G1 H1 g hp r => q G1 _ _ ((A.grow g).setN (Nat.le_of_ble_eq_true hρ2) hp ⟨p, vs, rfl, rfl, upd_same, r⟩ (lc_pre hρ2 hf2 d.hfx).1)⟩
theorem xp_setLc (d : Dok X Γ B N sc k fx W M) {x y : Str} {px py : Pos} {i j : Nat} {ifs : List Expr} {scope sc' : Scope} {p : Pos} {mxs : Option (List α)} {t : α → Option Bool} {f : α → Option γ} (hj : N[j]? = some y) (hyl : sc.names.lookup y = some .local) (hsw : ((if sc.kind.isAnnotationScope then ScopeKind.function else sc.kind) == .function && sc.names.lookup y == some .local && py.line == p.line && !(scope.names.any fun (n, k) => n == y && (k == .local || k == .cell))) = true) (hi : XI X Γ B ρ (.Name x px) it mxs) (hsc : relS scope sc = sc') (hB : blkC N sc scope [(x, i)] = true) (hx : N[i]? = some x) (hxl : scope.names.lookup x = some .local) (hxl' : sc'.names.lookup x = some .local)
    (ht : ∀ X', Cok X' Γ N sc' k → ∀ a : α, PTs X' ifs (cT Γ B (ρ.set i (vl a)) (t a)))
    (he : ∀ X', Cok X' Γ N sc' k → ∀ a : α, XE X' Γ B (ρ.set i (vl a)) elt (f a)) (hs : ∀ x, foldedSetIterable it X.env x = pure x := by intro _; rfl) (hρ : Nat.ble (i + 1) ρ.length = true := by rfl) (hfc : fx.contains i = false := by rfl) (hρ2 : Nat.ble (j + 1) ρ.length = true := by rfl) (hf2 : fx.contains j = false := by rfl) :
    XP1 X Γ B ρ (.Assign [.Name y py] (.ListComp elt [⟨.Name x px, it, ifs, 0⟩] scope p) pos) (mxs.bind (lcB t f)) (fun z => ρ.set j (vl z)) := by
  have h := xp_setLcN (α := α) (γ := γ) d (elt := elt) (pos := pos) hj hyl hsw hi hsc hB hx hxl hxl' ht he hs hρ hfc hρ2 hf2
  refine imS (lkS' h) fun D σ H ⟨G, s, A, e, q⟩ => ⟨G, s, A, e, fun G' H' σ' A' => ?_⟩
  have hx : (ρ.set j (ow (OL.mk s)))[j]? = some (ow (OL.mk s)) := by rw [List.getElem?_set_self (Nat.le_of_ble_eq_true hρ2)]
  refine (At.freeze A' hx rfl).mono fun H2 ⟨G2, l2, A2⟩ => ?_
  rw [List.set_set] at A2
  exact q G2 H2 σ' A2
theorem xts_nil (ρ : α → Sto) (a : α) : PTs X [] (cT Γ B (ρ a) (some true)) := ⟨fun pins s σ H Q I ⟨G, z, A, e, q⟩ => pts_nil.run pins s σ H Q I (by cases e; exact q G H (.refl A.sub))⟩
theorem xts_one {m : Option Bool} (h : XT X Γ B ρ e m) : PTs X [e] (cT Γ B ρ m) := pts_one h
/-- what a def hands back, new -/
theorem xb_retN {L C : Type} {F : Kt L (List γ) C} {m : Option (List γ)} {c : C} (he : XN X Γ B ρ e m) (hc : F.str c = ρ') (ops : List (Nat × Bool)) (hw : Sim.wks ρ ops = ρ') (hM : F.fr = true → B.M = []) : XB1 X Γ B F ρ (.Return (some e) pos) (S := S) (m.bind fun b => some (.ret b c)) sto := imS (lkS' (ps_ret he)) fun D σ H ⟨G, s, A, e, q⟩ => by
  cases m with
  | none => cases e
  | some b =>
    cases e
    refine ⟨G, b, A, rfl, fun p vs G1 H1 g hp r => ?_⟩
    have g2 := Grow.new g.sub hp (.lst vs)
    refine ((A.grow (g.trans g2)).wks ops).mono fun H2 ⟨G2, l2, A2⟩ => ?_
    refine q (.ref p) G2 _ σ (by rw [hc, ← hw]; exact A2) ⟨p, vs, rfl, l2 _ _ upd_same, r.mono (g2.leG.trans l2)⟩ fun hfr p' hp' => ?_
    cases hp'
    cases z : B.H p with
    | none => rfl
    | some o =>
      have := A.keep p o (by rw [hM hfr]; simp) z
      have := g.leH p o this
      rw [hp] at this
      cases this
end
end Sim

set_option Elab.async false
set_option autoImplicit false
set_option linter.all false
set_option maxRecDepth 100000
set_option maxHeartbeats 1000000
namespace Sim
open PySem L2
open Rp (rep)
open At1 (toV)
open K1 (key)
open KT (keys)
open Ow (own)
open RpA (repA stoA)

abbrev XC (X : Cx) (Γ : Gm) (B : Bs) (ρ : Sto) (op : CmpOp) (a b : Expr) (m : Option Bool) : Prop := PC X op a b (cE Γ B ρ m)
section
variable {X : Cx} {Γ : Gm} {B : Bs} {ρ ρ' : Sto} {N : List Str} {sc : Scope} {k : Nat} {fx : List Nat} {W : WX} {M : List Addr} {pos p p' : Pos} {e a b o tg it elt : Expr} {es : List Expr} {S : Type} {sto : S → Sto}
variable {α β γ : Type} [Rp α] [Rp β] [Rp γ]

/-! ### comparisons -/
theorem imC {op : CmpOp} {t t' : TE} (h : PC X op a b t) (k : ∀ σ H Q, t' σ H Q → t σ H Q) : PC X op a b t' := ⟨fun pins s σ H Q I q => h.run pins s σ H Q I (k σ H Q q)⟩
theorem pc_R {op : CmpOp} {r : R2} {ta tb : TE} (ho : OpR X (compareOp op) r) (ha : PE X a ta) (hb : PE X b tb) : PC X op a b (tOp r ta tb) := ⟨fun pins s σ H Q I h => bin ha hb I h fun v u s2 x y H2 I2 rx ry q => ho pins s2 σ H2 x y v u Q I2 rx ry q⟩
theorem xe_ofC {op : CmpOp} {m : Option Bool} (h : XC X Γ B ρ op a b m) (h1 : behindInMarks op b = false := by rfl) : XE X Γ B ρ (.Compare a [op] [b] pos) m := pe_cmp h h1
theorem xt_ofC {op : CmpOp} {m : Option Bool} (h : XC X Γ B ρ op a b m) (h1 : behindInMarks op b = false := by rfl) : XT X Γ B ρ (.Compare a [op] [b] pos) m := imT (pt_cmp h h1) fun σ H Q ⟨G, z, A, e, q⟩ => ⟨G, z, A, e, fun v G' H' g r => ⟨z, rep1 r, q G' H' g⟩⟩
theorem xc_op2 {op : CmpOp} {r : R2} {ma : Option α} {mb : Option β} {f : α → β → Option Bool} (ho : OpR X (compareOp op) r) (hf : Op2 Γ r f) (ha : XE X Γ B ρ a ma) (hb : XE X Γ B ρ b mb) : XC X Γ B ρ op a b (b2 ma mb f) := imC (pc_R ho ha hb) fun _ _ _ h => sim2 hf h
theorem xc_isN {m : Option (Option α)} {j : Nat} {p2 : Pos} (h : XE X Γ B ρ a m) : XC X Γ B ρ .Is a (.Constant .none j p2) (m.bind fun o => some o.isNone) := imC (pc_R op_isN h pe_non) fun σ H Q ⟨G, z, A, e, q⟩ => by
  cases m with
  | none => cases e
  | some o =>
    refine ⟨G, o, A, rfl, fun v G1 H1 g1 r => ⟨rfl, ?_⟩⟩
    have e' : o.isNone = z := Option.some.inj e
    subst e'
    refine q _ G1 H1 g1 ?_
    show V.bl (decide (v = .non)) = V.bl o.isNone
    cases o with
    | none => rw [show v = .non from r]; rfl
    | some y => rw [decide_eq_false r.1]; rfl
theorem xc_notN {m : Option (Option α)} {j : Nat} {p2 : Pos} (h : XE X Γ B ρ a m) : XC X Γ B ρ .IsNot a (.Constant .none j p2) (m.bind fun o => some o.isSome) := imC (pc_R op_notN h pe_non) fun σ H Q ⟨G, z, A, e, q⟩ => by
  cases m with
  | none => cases e
  | some o =>
    refine ⟨G, o, A, rfl, fun v G1 H1 g1 r => ⟨rfl, ?_⟩⟩
    have e' : o.isSome = z := Option.some.inj e
    subst e'
    refine q _ G1 H1 g1 ?_
    show V.bl (!decide (v = .non)) = V.bl o.isSome
    cases o with
    | none => rw [show v = .non from r]; rfl
    | some y => rw [decide_eq_false r.1]; rfl
theorem xc_in {α : Type} [At1 α] [DecidableEq α] [AtE α] {ma : Option α} {mb : Option (List α)} (ha : XE X Γ B ρ a ma) (hb : XR X Γ B ρ b mb) : XC X Γ B ρ .In a b (b2 ma mb fun x xs => some (isIn x xs)) := imC (pc_R op_in_seq ha hb) fun σ H Q ⟨G, z, A, e, q⟩ => by
  cases ma with
  | none => cases e
  | some x =>
    cases mb with
    | none => cases e
    | some xs =>
      cases e
      refine ⟨G, x, A, rfl, fun v G1 H1 g1 r1 => ⟨G1, xs, A.grow g1, rfl, fun p vs G2 H2 g2 hp r2 => ⟨p, vs, rfl, .inl (SqL.of hp), by rw [rep1 r1]; exact At1.flat x, by rw [r2.toV]; exact flat_map xs, q _ G2 H2 (g1.trans g2) ?_⟩⟩⟩
      show V.bl (inV v vs) = V.bl _
      rw [rep1 r1, r2.toV, inV_dec]
theorem xc_notIn {α : Type} [At1 α] [DecidableEq α] [AtE α] {ma : Option α} {mb : Option (List α)} (ha : XE X Γ B ρ a ma) (hb : XR X Γ B ρ b mb) : XC X Γ B ρ .NotIn a b (b2 ma mb fun x xs => some (!isIn x xs)) := imC (pc_R op_notIn_seq ha hb) fun σ H Q ⟨G, z, A, e, q⟩ => by
  cases ma with
  | none => cases e
  | some x =>
    cases mb with
    | none => cases e
    | some xs =>
      cases e
      refine ⟨G, x, A, rfl, fun v G1 H1 g1 r1 => ⟨G1, xs, A.grow g1, rfl, fun p vs G2 H2 g2 hp r2 => ⟨p, vs, rfl, .inl (SqL.of hp), by rw [rep1 r1]; exact At1.flat x, by rw [r2.toV]; exact flat_map xs, q _ G2 H2 (g1.trans g2) ?_⟩⟩⟩
      show V.bl (!inV v vs) = V.bl _
      rw [rep1 r1, r2.toV, inV_dec]
theorem xc_din (c : Cok X Γ N sc k) {κ : Type} [K1 κ] [At1 κ] [KAt κ] [DecidableEq κ] {md : Option (List (κ × α))} {mk : Option κ} (ha : XE X Γ B ρ a mk) (hb : XDK X Γ B ρ b md) : XC X Γ B ρ .In a b (b2 mk md fun x d => some (look d x).isSome) := imC (pc_din c.hu ha hb) fun σ H Q ⟨G, z, A, e, q⟩ => by
  cases mk with
  | none => cases e
  | some x =>
    cases md with
    | none => cases e
    | some d =>
      cases e
      refine ⟨G, x, A, rfl, fun v G1 H1 g1 r1 => ⟨G1, d, A.grow g1, rfl, fun p kvs G2 H2 g2 hp r2 => ⟨p, valV kvs (key x), rfl, .inl ⟨kvs, key x, hp, by rw [KAt.same]; exact rep1 r1, rfl⟩, q _ G2 H2 (g1.trans g2) ?_⟩⟩⟩
      show V.bl _ = V.bl _
      cases hl : look d x with
      | none => rw [(RpK.look (x := x) r2).2 hl]; rfl
      | some y =>
        obtain ⟨v', hv, _⟩ := (RpK.look (x := x) r2).1 y hl
        rw [hv]; rfl
theorem xc_dnotIn (c : Cok X Γ N sc k) {κ : Type} [K1 κ] [At1 κ] [KAt κ] [DecidableEq κ] {md : Option (List (κ × α))} {mk : Option κ} (ha : XE X Γ B ρ a mk) (hb : XDK X Γ B ρ b md) : XC X Γ B ρ .NotIn a b (b2 mk md fun x d => some (!(look d x).isSome)) := imC (pc_dnotin c.hu ha hb) fun σ H Q ⟨G, z, A, e, q⟩ => by
  cases mk with
  | none => cases e
  | some x =>
    cases md with
    | none => cases e
    | some d =>
      cases e
      refine ⟨G, x, A, rfl, fun v G1 H1 g1 r1 => ⟨G1, d, A.grow g1, rfl, fun p kvs G2 H2 g2 hp r2 => ⟨p, valV kvs (key x), rfl, .inl ⟨kvs, key x, hp, by rw [KAt.same]; exact rep1 r1, rfl⟩, q _ G2 H2 (g1.trans g2) ?_⟩⟩⟩
      show V.bl _ = V.bl _
      cases hl : look d x with
      | none => rw [(RpK.look (x := x) r2).2 hl]; rfl
      | some y =>
        obtain ⟨v', hv, _⟩ := (RpK.look (x := x) r2).1 y hl
        rw [hv]; rfl
/-- dicts with tuple keys: the key a tuple -/
class TKey (κ : Type) [KT κ] [Rp κ] : Prop where
  tup : ∀ {Γ : Gm} {G : Hp} {v : V} {x : κ}, rep Γ G v x → ∃ p, v = .ref p ∧ G p = some (.tup ((keys x).map kV))
instance {α β : Type} [K1 α] [K1 β] [At1 α] [At1 β] [KAt α] [KAt β] : TKey (α × β) := ⟨fun {Γ G v x} ⟨p, u, w, h1, h2, h3, h4⟩ => ⟨p, h1, by rw [h2, rep1 h3, rep1 h4, ← KAt.same, ← KAt.same]; rfl⟩⟩
theorem map_kV {α : Type} [K1 α] [At1 α] [KAt α] : ∀ xs : List α, xs.map toV = (xs.map key).map kV
  | [] => rfl
  | x :: r => by rw [List.map_cons, List.map_cons, List.map_cons, map_kV r, KAt.same]
instance {α : Type} [K1 α] [At1 α] [KAt α] : TKey (TL α) := ⟨fun {Γ G v x} ⟨p, vs, h1, h2, h3⟩ => ⟨p, h1, by
  have := RpL.toV h3
  rw [h2, this, map_kV]; rfl⟩⟩
theorem RpT.look {κ : Type} [KT κ] [DecidableEq κ] {G : Hp} {x : κ} : ∀ {kvs : List (List Key × V)} {d : List (κ × α)}, RpT Γ G kvs d → (∀ y, Sim.look d x = some y → ∃ v, valV kvs (keys x) = some v ∧ rep Γ G v y) ∧ (Sim.look d x = none → valV kvs (keys x) = none)
  | _, _, .nil => ⟨fun y h => (by cases h), fun _ => rfl⟩
  | p :: _, q :: d', .cons r t => by
    have ih := RpT.look (x := x) t
    by_cases e : q.1 = x
    · refine ⟨fun y h => ?_, fun h => ?_⟩
      · rw [look_pos e] at h
        cases h
        exact ⟨p.2, valV_pos (by rw [r.1, e]), r.2⟩
      · rw [look_pos e] at h
        cases h
    · have ne : ¬ p.1 = keys x := fun z => e (KT.inj _ _ (r.1.symm.trans z))
      rw [look_neg e, valV_neg ne]
      exact ih
theorem xc_tin (c : Cok X Γ N sc k) {κ : Type} [KT κ] [Rp κ] [TKey κ] [DecidableEq κ] {md : Option (List (κ × α))} {mk : Option κ} (ha : XE X Γ B ρ a mk) (hb : XDT X Γ B ρ b md) : XC X Γ B ρ .In a b (b2 mk md fun x d => some (look d x).isSome) := imC (pc_din c.hu ha hb) fun σ H Q ⟨G, z, A, e, q⟩ => by
  cases mk with
  | none => cases e
  | some x =>
    cases md with
    | none => cases e
    | some d =>
      cases e
      refine ⟨G, x, A, rfl, fun v G1 H1 g1 r1 => ⟨G1, d, A.grow g1, rfl, fun p kvs G2 H2 g2 hp r2 => ?_⟩⟩
      obtain ⟨t, e1, e2⟩ := TKey.tup (Rp.mono g2.leG r1)
      refine ⟨p, valV kvs (keys x), rfl, .inr ⟨kvs, keys x, t, hp, e1, g2.sub.tup e2, rfl⟩, q _ G2 H2 (g1.trans g2) ?_⟩
      show V.bl _ = V.bl _
      cases hl : look d x with
      | none => rw [(RpT.look (x := x) r2).2 hl]; rfl
      | some y =>
        obtain ⟨v', hv, _⟩ := (RpT.look (x := x) r2).1 y hl
        rw [hv]; rfl
theorem xe_tget (c : Cok X Γ N sc k) {κ : Type} [KT κ] [Rp κ] [TKey κ] [DecidableEq κ] {md : Option (List (κ × α))} {mk : Option κ} (ha : XDT X Γ B ρ a md) (hb : XE X Γ B ρ b mk) (hs : NoSl b := by intro _ _; rfl) : XE X Γ B ρ (.Subscript a b pos) (b2 md mk look) := imE (pe_dget c.hu ha hb hs) fun σ H Q ⟨G, z, A, e, q⟩ => by
  cases md with
  | none => cases e
  | some d =>
    cases mk with
    | none => cases e
    | some x =>
      refine ⟨G, d, A, rfl, fun p kvs G1 H1 g1 hp r1 => ⟨G1, x, A.grow g1, rfl, fun v2 G2 H2 g2 r2 => ?_⟩⟩
      obtain ⟨v, hv, r⟩ := (RpT.look (x := x) r1).1 z e
      have rd : Rd H2 p (.dT kvs) := by
        rcases hp with hp | ⟨ob, hp⟩
        · exact .inl (g2.leH _ _ hp)
        · exact .inr ⟨ob, g2.leH _ _ hp⟩
      obtain ⟨t, e1, e2⟩ := TKey.tup r2
      exact ⟨p, v, rfl, .inr ⟨kvs, keys x, t, rd, e1, g2.sub.tup e2, hv.symm⟩, q v G2 H2 (g1.trans g2) (Rp.mono g2.leG r)⟩

/-! ### truth -/
theorem xt_truthR (c : Cok X Γ N sc k) {m : Option (List α)} (h : XR X Γ B ρ a m) (he : ∀ whole, isTrue a X.env whole = (do let v ← whole; standAt a.pos; holding [v] (truthy v)) := by intro _; rfl) : XT X Γ B ρ a (m.bind fun xs => some (!xs.isEmpty)) := imT (pt_truth h he) fun σ H Q ⟨G, z, A, e, q⟩ => by
  cases m with
  | none => cases e
  | some xs =>
    cases e
    refine ⟨G, xs, A, rfl, fun p vs G1 H1 g1 hp r1 => ⟨!xs.isEmpty, .inl ⟨vs, SqL.of hp, ?_⟩, q G1 H1 g1⟩⟩
    cases r1 <;> rfl

/-! ### dicts of one's own -/
theorem xp_setDK (d : Dok X Γ B N sc k fx W M) {κ : Type} [K1 κ] {x : Str} (i : Nat) (hi : N[i]? = some x) (hx : Loc sc x) (hρ : Nat.ble (i + 1) ρ.length = true := by rfl) (hf : fx.contains i = false := by rfl) (hs : swapsWith (.Dict [] [] p) (some (.Name x p')) pos.line X.env = pure false := by rfl) :
    XP1 X Γ B ρ (.Assign [.Name x p'] (.Dict [] [] p) pos) (some ()) (fun _ => ρ.set i (ow (OK.mk ([] : List (κ × α))))) := imS (ps_set (i := i) (by rw [d.hN]; exact d.nd) (by rw [d.hN]; exact hi) (by rw [d.hsc]; exact hx) pe_dnewK hs (.inl (d.hfn x))) fun D σ H ⟨G, s, A, e, q⟩ =>
  fun p hp => q G _ _ (A.setN (Nat.le_of_ble_eq_true hρ) hp ⟨p, [], rfl, rfl, upd_same, .nil⟩ fun hm => by
    rw [d.hfx] at hm
    rw [List.contains_iff_mem.mpr hm] at hf
    cases hf)
theorem xp_setDT (d : Dok X Γ B N sc k fx W M) {κ : Type} [KT κ] {x : Str} (i : Nat) (hi : N[i]? = some x) (hx : Loc sc x) (hρ : Nat.ble (i + 1) ρ.length = true := by rfl) (hf : fx.contains i = false := by rfl) (hs : swapsWith (.Dict [] [] p) (some (.Name x p')) pos.line X.env = pure false := by rfl) :
    XP1 X Γ B ρ (.Assign [.Name x p'] (.Dict [] [] p) pos) (some ()) (fun _ => ρ.set i (ow (OT.mk ([] : List (κ × α))))) := imS (ps_set (i := i) (by rw [d.hN]; exact d.nd) (by rw [d.hN]; exact hi) (by rw [d.hsc]; exact hx) pe_dnewT hs (.inl (d.hfn x))) fun D σ H ⟨G, s, A, e, q⟩ =>
  fun p hp => q G _ _ (A.setN (Nat.le_of_ble_eq_true hρ) hp ⟨p, [], rfl, rfl, upd_same, .nil⟩ fun hm => by
    rw [d.hfx] at hm
    rw [List.contains_iff_mem.mpr hm] at hf
    cases hf)
def put {κ α : Type} [DecidableEq κ] (d : List (κ × α)) (k : κ) (v : α) : List (κ × α) := if (d.any fun kv => decide (kv.1 = k)) = true then d.map fun kv => if kv.1 = k then (kv.1, v) else kv else d ++ [(k, v)]
@[irreducible] def dput {κ α : Type} [DecidableEq κ] (d : List (κ × α)) (k : κ) (v : α) : Option (List (κ × α)) := if d.length + 1 ≤ BIG then some (put d k v) else none
theorem any_K {κ : Type} [K1 κ] [DecidableEq κ] {G : Hp} {x : κ} : ∀ {kvs : List (Key × V)} {d : List (κ × α)}, RpK Γ G kvs d → (kvs.any fun kv => decide (kv.1 = key x)) = d.any fun kv => decide (kv.1 = x)
  | _, _, .nil => rfl
  | p :: _, q :: _, .cons r t => by
    rw [List.any_cons, List.any_cons, any_K t]
    congr 1
    rw [r.1]
    exact decide_eq_decide.mpr ⟨fun z => K1.inj _ _ z, fun z => by rw [z]⟩
theorem RpK.put {κ : Type} [K1 κ] [DecidableEq κ] {G : Hp} {x : κ} {v : V} {y : α} {kvs : List (Key × V)} {d : List (κ × α)} (h : RpK Γ G kvs d) (r : rep Γ G v y) : RpK Γ G (putK kvs (key x) v) (Sim.put d x y) := by
  unfold putK Sim.put
  rw [any_K h]
  by_cases hc : (d.any fun kv => decide (kv.1 = x)) = true
  · rw [if_pos hc, if_pos hc]
    clear hc
    induction h with
    | nil => exact .nil
    | @cons p q _ _ h t ih =>
      refine .cons ?_ ih
      dsimp only
      by_cases e : q.1 = x
      · rw [if_pos e, if_pos (by rw [h.1, e])]; exact ⟨h.1, r⟩
      · rw [if_neg e, if_neg fun z => e (K1.inj _ _ (h.1.symm.trans z))]; exact h
  · rw [if_neg hc, if_neg hc]
    clear hc
    induction h with
    | nil => exact .cons ⟨rfl, r⟩ .nil
    | cons h t ih => exact .cons h ih
theorem any_T {κ : Type} [KT κ] [DecidableEq κ] {G : Hp} {x : κ} : ∀ {kvs : List (List Key × V)} {d : List (κ × α)}, RpT Γ G kvs d → (kvs.any fun kv => decide (kv.1 = keys x)) = d.any fun kv => decide (kv.1 = x)
  | _, _, .nil => rfl
  | p :: _, q :: _, .cons r t => by
    rw [List.any_cons, List.any_cons, any_T t]
    congr 1
    rw [r.1]
    exact decide_eq_decide.mpr ⟨fun z => KT.inj _ _ z, fun z => by rw [z]⟩
theorem RpT.put {κ : Type} [KT κ] [DecidableEq κ] {G : Hp} {x : κ} {v : V} {y : α} {kvs : List (List Key × V)} {d : List (κ × α)} (h : RpT Γ G kvs d) (r : rep Γ G v y) : RpT Γ G (putK kvs (keys x) v) (Sim.put d x y) := by
  unfold putK Sim.put
  rw [any_T h]
  by_cases hc : (d.any fun kv => decide (kv.1 = x)) = true
  · rw [if_pos hc, if_pos hc]
    clear hc
    induction h with
    | nil => exact .nil
    | @cons p q _ _ h t ih =>
      refine .cons ?_ ih
      dsimp only
      by_cases e : q.1 = x
      · rw [if_pos e, if_pos (by rw [h.1, e])]; exact ⟨h.1, r⟩
      · rw [if_neg e, if_neg fun z => e (KT.inj _ _ (h.1.symm.trans z))]; exact h
  · rw [if_neg hc, if_neg hc]
    clear hc
    induction h with
    | nil => exact .cons ⟨rfl, r⟩ .nil
    | cons h t ih => exact .cons h ih
/-- d[k] = v, d of one's own: v first, then k -/
theorem xp_dput (c : Dok X Γ B N sc k fx W M) {κ : Type} [K1 κ] [At1 κ] [KAt κ] [DecidableEq κ] {x : Str} (i : Nat) {d : List (κ × α)} {mk : Option κ} {mv : Option α} {p2 : Pos} (hi : ρ[i]? = some (ow (OK.mk d))) (hN : N[i]? = some x) (hv : Vis sc x) (hk : XE X Γ B ρ a mk) (he : XE X Γ B ρ e mv) (hd : (x == ("__debug__" : Str)) = false := by decide) (hcd : (x == ("__classdict__" : Str)) = false := by decide)
    (hs : swapsWith e (some (.Subscript (.Name x p) a p2)) pos.line X.env = pure false := by rfl) :
    XP1 X Γ B ρ (.Assign [.Subscript (.Name x p) a p2] e pos) (mv.bind fun v => mk.bind fun y => dput d y v) (fun d' => ρ.set i (ow (OK.mk d'))) := imS (ps_dput c.hu (pv_ c.toCok hN hv hd hcd) hk he hs) fun D σ H ⟨G, s, A, e, q⟩ => by
  cases mv with
  | none => cases e
  | some v =>
    cases mk with
    | none => cases e
    | some y =>
      obtain ⟨hl, e⟩ := ite_some (by have qq : dput d y v = some s := e; unfold dput at qq; exact qq)
      subst e
      refine ⟨G, v, A, rfl, fun w G1 H1 g1 r1 => ?_⟩
      obtain ⟨u, fp, h1, ⟨p, kvs, rfl, h3, h4, h5⟩, h6⟩ := (A.grow g1).getO hi
      refine ⟨.ref p, h1, G1, y, A.grow g1, rfl, fun z G2 H2 g2 r2 => ⟨p, _, rfl, .inl ⟨kvs, key y, g2.leH _ _ h4, by rw [KAt.same]; exact rep1 r2, by rw [show kvs.length = d.length from Paired.length h5]; exact big_lt (by omega), rfl⟩, ?_⟩⟩
      refine q G2 _ σ ((A.grow (g1.trans g2)).setO hi (fun v fp ⟨q, us, e3, e4, _⟩ => ⟨q, e3, e4⟩) h1 ⟨p, _, rfl, rfl, upd_same, ?_⟩)
      exact (h5.mono g2.leG).put (Rp.mono g2.leG r1)
theorem xp_tput (c : Dok X Γ B N sc k fx W M) {κ : Type} [KT κ] [Rp κ] [TKey κ] [DecidableEq κ] {x : Str} (i : Nat) {d : List (κ × α)} {mk : Option κ} {mv : Option α} {p2 : Pos} (hi : ρ[i]? = some (ow (OT.mk d))) (hN : N[i]? = some x) (hv : Vis sc x) (hk : XE X Γ B ρ a mk) (he : XE X Γ B ρ e mv) (hd : (x == ("__debug__" : Str)) = false := by decide) (hcd : (x == ("__classdict__" : Str)) = false := by decide)
    (hs : swapsWith e (some (.Subscript (.Name x p) a p2)) pos.line X.env = pure false := by rfl) :
    XP1 X Γ B ρ (.Assign [.Subscript (.Name x p) a p2] e pos) (mv.bind fun v => mk.bind fun y => dput d y v) (fun d' => ρ.set i (ow (OT.mk d'))) := imS (ps_dput c.hu (pv_ c.toCok hN hv hd hcd) hk he hs) fun D σ H ⟨G, s, A, e, q⟩ => by
  cases mv with
  | none => cases e
  | some v =>
    cases mk with
    | none => cases e
    | some y =>
      obtain ⟨hl, e⟩ := ite_some (by have qq : dput d y v = some s := e; unfold dput at qq; exact qq)
      subst e
      refine ⟨G, v, A, rfl, fun w G1 H1 g1 r1 => ?_⟩
      obtain ⟨u, fp, h1, ⟨p, kvs, rfl, h3, h4, h5⟩, h6⟩ := (A.grow g1).getO hi
      refine ⟨.ref p, h1, G1, y, A.grow g1, rfl, fun z G2 H2 g2 r2 => ?_⟩
      obtain ⟨t, e1, e2⟩ := TKey.tup r2
      refine ⟨p, _, rfl, .inr ⟨kvs, keys y, t, g2.leH _ _ h4, e1, g2.sub.tup e2, by rw [show kvs.length = d.length from Paired.length h5]; exact big_lt (by omega), rfl⟩, ?_⟩
      refine q G2 _ σ ((A.grow (g1.trans g2)).setO hi (fun v fp ⟨q, us, e3, e4, _⟩ => ⟨q, e3, e4⟩) h1 ⟨p, _, rfl, rfl, upd_same, ?_⟩)
      exact (h5.mono g2.leG).put (Rp.mono g2.leG r1)
end
end Sim

set_option Elab.async false
set_option autoImplicit false
set_option linter.all false
set_option maxRecDepth 100000
set_option maxHeartbeats 1000000
namespace Sim
open PySem L2
open Rp (rep)
open At1 (toV)
open K1 (key)
open KT (keys)
open Ow (own)
open RpA (repA stoA)

section
variable {X : Cx} {Γ : Gm} {B : Bs} {L β C : Type} [Rp β] {F : Kt L β C} {ρ ρ' : Sto} {N : List Str} {sc : Scope} {k : Nat} {fx : List Nat} {W : WX} {M : List Addr} {pos p p' : Pos} {e a b o tg it : Expr} {st : Stmt} {sts : List Stmt} {es : List Expr} {S : Type} {sto : S → Sto}
variable {α γ : Type} [Rp α] [Rp γ]

/-! ### ends, and readings told in another way -/
theorem xp_end (ops : List (Nat × Bool)) (s : S) (e : Sim.wks ρ ops = sto s) : XP X Γ B ρ [] (some s) sto := imB (lkB' pss_nil) fun D σ H ⟨G, s', A, e1, q⟩ => by
  cases e1
  exact (A.wks ops).mono fun H2 ⟨G', l, A'⟩ => q G' H2 σ (e ▸ A')
theorem xb_end (ops : List (Nat × Bool)) (s : S) (e : Sim.wks ρ ops = sto s) : XB X Γ B F ρ [] (some (Fl.nx s)) sto := xb_of (m := some s) (xp_end ops s e)
theorem xp1_eq {m m' : Option S} (h : XP1 X Γ B ρ st m sto) (q : m = m') : XP1 X Γ B ρ st m' sto := q ▸ h
theorem xn_eq {m m' : Option (List α)} (h : XN X Γ B ρ e m) (q : m = m') : XN X Γ B ρ e m' := q ▸ h
theorem xi_eq {m m' : Option (List α)} (h : XI X Γ B ρ tg e m) (q : m = m') : XI X Γ B ρ tg e m' := q ▸ h
theorem xc_eq {op : CmpOp} {m m' : Option Bool} (h : XC X Γ B ρ op a b m) (q : m = m') : XC X Γ B ρ op a b m' := q ▸ h

/-! ### ints -/
theorem xe_neg {m : Option Int} (h : XE X Γ B ρ a m) : XE X Γ B ρ (.UnaryOp .USub a pos) (m.bind fun i => some (-i)) := imE (pe_un un_neg h) fun σ H Q ⟨G, z, A, e, q⟩ => by
  cases m with
  | none => cases e
  | some i =>
    cases e
    exact ⟨G, i, A, rfl, fun v G1 H1 g1 r1 => ⟨i, rep1 r1, q _ G1 H1 g1 rfl⟩⟩
theorem xe_intI (c : Cok X Γ N sc k) {m : Option Int} (ha : XE X Γ B ρ a m) (hg : Glb sc "int") (hm : Γ.mg "int" = none) (s1 : starEach [a] X.env = (false, eval a X.env) :: starEach [] X.env := by rfl) : XE X Γ B ρ (.Call (.Name "int" p) [a] [] pos) m :=
  imE (pe_callTy call_int1 (c.gl hg) (by rw [c.hmg]; exact hm) (by decide +kernel) (pa_cons ha pa_nil s1) (he := s1)) fun σ H Q ⟨G, z, A, e, q⟩ =>
  ⟨G, z, A, e, fun v G1 H1 g1 r1 => .inl ⟨z, by rw [rep1 r1]; rfl, q _ G1 H1 g1 rfl⟩⟩
def minI (i j : Int) : Int := if j < i then j else i
def maxI (i j : Int) : Int := if j > i then j else i
theorem xe_min2 (c : Cok X Γ N sc k) {ma mb : Option Int} (ha : XE X Γ B ρ a ma) (hb : XE X Γ B ρ b mb) (hg : Glb sc "min") (hm : Γ.mg "min" = none) (s1 : starEach [a, b] X.env = (false, eval a X.env) :: starEach [b] X.env := by rfl) (s2 : starEach [b] X.env = (false, eval b X.env) :: starEach [] X.env := by rfl) (hpl : (backTo pos (starEach [b] X.env)).any (·.1) = false := by rfl) :
    XE X Γ B ρ (.Call (.Name "min" p) [a, b] [] pos) (b2 ma mb fun i j => some (minI i j)) :=
  imE (pe_callB (call_min2 c.calm) (c.gl hg) (by rw [c.hmg]; exact hm) PyProof.Rows.boot_min (pa_cons ha (pa_cons hb pa_nil s2) s1) (he := s1) (hpl := hpl)) fun σ H Q ⟨G, z, A, e, q⟩ => by
  cases ma with
  | none => cases e
  | some x =>
    cases mb with
    | none => cases e
    | some y =>
      cases e
      exact ⟨G, x, A, rfl, fun v G1 H1 g1 r1 => ⟨G1, y, A.grow g1, rfl, fun v2 G2 H2 g2 r2 => ⟨x, y, by rw [rep1 r1, rep1 r2]; rfl, q _ G2 H2 (g1.trans g2) rfl⟩⟩⟩
theorem xe_max2 (c : Cok X Γ N sc k) {ma mb : Option Int} (ha : XE X Γ B ρ a ma) (hb : XE X Γ B ρ b mb) (hg : Glb sc "max") (hm : Γ.mg "max" = none) (s1 : starEach [a, b] X.env = (false, eval a X.env) :: starEach [b] X.env := by rfl) (s2 : starEach [b] X.env = (false, eval b X.env) :: starEach [] X.env := by rfl) (hpl : (backTo pos (starEach [b] X.env)).any (·.1) = false := by rfl) :
    XE X Γ B ρ (.Call (.Name "max" p) [a, b] [] pos) (b2 ma mb fun i j => some (maxI i j)) :=
  imE (pe_callB (call_max2 c.calm) (c.gl hg) (by rw [c.hmg]; exact hm) PyProof.Rows.boot_max (pa_cons ha (pa_cons hb pa_nil s2) s1) (he := s1) (hpl := hpl)) fun σ H Q ⟨G, z, A, e, q⟩ => by
  cases ma with
  | none => cases e
  | some x =>
    cases mb with
    | none => cases e
    | some y =>
      cases e
      exact ⟨G, x, A, rfl, fun v G1 H1 g1 r1 => ⟨G1, y, A.grow g1, rfl, fun v2 G2 H2 g2 r2 => ⟨x, y, by rw [rep1 r1, rep1 r2]; rfl, q _ G2 H2 (g1.trans g2) rfl⟩⟩⟩

/-! ### the script -/
theorem SqL.up {K : PySem.W.Frag} {G H : Hp} {q : Addr} {xs : List V} (s : Sub G H) (h : SqL K G q xs) : SqL K H q xs := by
  rcases h with (h | ⟨o, h⟩) | h
  · exact .inl (.inl (s.lst h))
  · exact .inl (.inr ⟨o, s _ _ h⟩)
  · exact .inr h
theorem xe_lenScr (c : Cok X Γ N sc k) {m : Option Scr} (ha : XE X Γ B ρ a m) (hg : Glb sc "len") (hm : Γ.mg "len" = none) (s1 : starEach [a] X.env = (false, eval a X.env) :: starEach [] X.env := by rfl) (hpl : (backTo pos (starEach [] X.env)).any (·.1) = false := by rfl) : XE X Γ B ρ (.Call (.Name "len" p) [a] [] pos) (m.bind fun xs => some (xs.l.length : Int)) :=
  imE (pe_callB call_len_seq (c.gl hg) (by rw [c.hmg]; exact hm) PySem.boot_len (pa_cons ha pa_nil s1) (he := s1)) fun σ H Q ⟨G, z, A, e, q⟩ => by
  cases m with
  | none => cases e
  | some xs =>
    cases e
    refine ⟨G, xs, A, rfl, fun v G1 H1 g1 ⟨p, h1, h2⟩ => ⟨p, xs.l.map V.int, by rw [h1], .inl ?_, q _ G1 H1 g1 (by show V.int _ = V.int _; rw [List.length_map])⟩⟩
    rw [c.hK]; exact SqL.up g1.sub h2
theorem xe_ixScr (c : Cok X Γ N sc k) {ma : Option Scr} {mb : Option Int} (ha : XE X Γ B ρ a ma) (hb : XE X Γ B ρ b mb) (hs : PlainIx b := by intro _ _; rfl) : XE X Γ B ρ (.Subscript a b pos) (b2 ma mb fun xs i => atI xs.l i) := imE (pe_ix ix_list ha hb hs) fun σ H Q ⟨G, z, A, e, q⟩ => by
  cases ma with
  | none => cases e
  | some xs =>
    cases mb with
    | none => cases e
    | some i =>
      refine ⟨G, xs, A, rfl, fun v G1 H1 g1 ⟨p, h1, h2⟩ => ⟨G1, i, A.grow g1, rfl, fun v2 G2 H2 g2 r2 => ?_⟩⟩
      refine ⟨p, xs.l.map V.int, i, .int z, h1, rep1 r2, by rw [c.hK]; exact SqL.up (fun x o q => g2.sub x o (g2.leG x o q)) h2, ?_, q _ G2 H2 (g1.trans g2) rfl⟩
      have e : atI xs.l i = some z := e
      unfold atI at e ⊢
      rw [List.length_map]
      cases hi : ixN xs.l.length i with
      | none => rw [hi] at e; cases e
      | some j =>
        rw [hi] at e
        simp only [List.getElem?_map]
        show Option.map V.int xs.l[j]? = _
        rw [show xs.l[j]? = some z from e]; rfl
theorem xn_sliceScr (c : Cok X Γ N sc k) {m : Option Scr} {lo hi : Option Expr} {ml mh : Option (Option Int)} {p2 : Pos} (ha : XE X Γ B ρ a m) (hl : XO X Γ B ρ lo ml) (hh : XO X Γ B ρ hi mh) : XN X Γ B ρ (.Subscript a (.Slice lo hi none p2) pos) (m.bind fun xs => ml.bind fun l => mh.bind fun h => some (cut xs.l l h)) := imE (pe_slice sl_list ha hl hh) fun σ H Q ⟨G, z, A, e, q⟩ => by
  cases m with
  | none => cases e
  | some xs =>
    cases ml with
    | none => cases e
    | some l =>
      cases mh with
      | none => cases e
      | some h =>
        cases e
        refine ⟨G, xs, A, rfl, fun v G1 H1 g1 ⟨p, h1, h2⟩ => ⟨G1, l, A.grow g1, rfl, fun G2 H2 g2 => ⟨G2, h, A.grow (g1.trans g2), rfl, fun G3 H3 g3 =>
          ⟨p, xs.l.map V.int, h1, by rw [c.hK]; exact SqL.up (fun x o q => g3.sub x o (g3.leG x o (g2.leG x o q))) h2, fun q' hq => q q' _ G3 H3 ((g1.trans g2).trans g3) hq ?_⟩⟩⟩⟩
        exact cutV_rep (RpL.ofV (α := Int) xs.l) l h

/-! ### texts -/
@[irreducible] def sadd (x y : Tt) : Option Tt := if x.s.length + y.s.length ≤ BIG then some ⟨x.s ++ y.s, by
  have h1 := x.ok
  have h2 := y.ok
  unfold PyData.strOk at *
  show Array.all (x.s.cps ++ y.s.cps) _ = true
  rw [Array.all_append, h1, h2]; rfl⟩ else none
theorem o_addS : Op2 Γ (fun x y H Q => ∃ i j, x = .str i ∧ y = .str j ∧ i.length + j.length ≤ sizeLine ∧ Q (.str (i ++ j)) H) sadd := op2_pure fun p q z H Q e k => by
  unfold sadd at e
  obtain ⟨h, e⟩ := ite_some e
  exact ⟨p.s, q.s, rfl, rfl, big_le h, by subst e; exact k⟩
theorem all_flat (x : Array Nat) (f : Nat → Bool) (h : x.all f = true) : ∀ (n : Nat) (z : Array Nat), z.all f = true → ((List.replicate n x).foldl (· ++ ·) z).all f = true
  | 0, z, hz => hz
  | n + 1, z, hz => by
    rw [List.replicate_succ, List.foldl_cons]
    exact all_flat x f h n (z ++ x) (by rw [Array.all_append, hz, h]; rfl)
theorem op_repS : OpR X (binaryOp .Mult) (fun x y H Q => ∃ i n, x = .str i ∧ y = .int n ∧ MulOk i n ∧ Q (.str (Txt.mul i n)) H) := by
  intro pins s σ H x y v u Q I rx ry h
  obtain ⟨i, n, rfl, rfl, hm, q⟩ := h
  obtain ⟨t, rfl⟩ := rx
  obtain ⟨t', rfl⟩ := ry
  exact SB.mul hm fun t2 k => ⟨.str (Txt.mul i n), H, I.tok _, ⟨_, rfl⟩, q⟩
theorem mulOk {x : Str} {n : Int} (h : 0 ≤ n ∧ n ≤ 1000 ∧ x.length ≤ 1000) : MulOk x n := by
  obtain ⟨h0, h1, h2⟩ := h
  refine ⟨?_, fun hn _ => ?_, fun hn _ => ?_⟩
  · have a1 : ¬ n < -(2 ^ 63 : Int) := by omega
    have a2 : ¬ n ≥ (2 ^ 63 : Int) := by omega
    rw [decide_eq_false a1, decide_eq_false a2]; rfl
  · intro hc
    have h3 : (1000 : Int) ≤ (2 ^ 63 - 1) / n := by
      rw [Int.le_ediv_iff_mul_le (by omega)]
      omega
    omega
  · have : x.length * n.toNat ≤ 1000 * 1000 := Nat.mul_le_mul h2 (by omega)
    show decide (x.length * n.toNat > sizeLine) = false
    rw [decide_eq_false]
    have : (1000 * 1000 : Nat) ≤ sizeLine := by decide
    omega
@[irreducible] def srep (x : Tt) (n : Int) : Option Tt := if 0 ≤ n ∧ n ≤ 1000 ∧ x.s.length ≤ 1000 then some ⟨Txt.mul x.s n, by
  have h1 := x.ok
  unfold PyData.strOk Txt.mul at *
  by_cases c : n < 1
  · rw [if_pos c]; decide +kernel
  · rw [if_neg c]
    split
    · exact h1
    · exact all_flat _ _ h1 _ _ (by decide +kernel)⟩ else none
theorem o_repS : Op2 Γ (fun x y H Q => ∃ i n, x = .str i ∧ y = .int n ∧ MulOk i n ∧ Q (.str (Txt.mul i n)) H) srep := op2_pure fun p q z H Q e k => by
  unfold srep at e
  obtain ⟨h, e⟩ := ite_some e
  exact ⟨p.s, q, rfl, rfl, mulOk h, by subst e; exact k⟩
def chS (c : Ch) : Tt := ⟨⟨#[c.c]⟩, by
  unfold PyData.strOk
  have : decide (c.c < 0x110000) = true := decide_eq_true c.ok
  simp [this, c.ok]⟩
theorem xe_chS {m : Option Ch} (h : XE X Γ B ρ e m) : XE X Γ B ρ e (m.bind fun c => some (chS c)) := imE h fun σ H Q ⟨G, z, A, e, q⟩ => by
  cases m with
  | none => cases e
  | some c =>
    cases e
    exact ⟨G, c, A, rfl, fun v G1 H1 g1 r1 => q v G1 H1 g1 r1⟩
def atS (z : Tt) (i : Int) : Option Ch := if z.s.length ≤ BIG then atI (signs z) i else none
theorem xe_ixS {ma : Option Tt} {mb : Option Int} (ha : XE X Γ B ρ a ma) (hb : XE X Γ B ρ b mb) (hs : PlainIx b := by intro _ _; rfl) : XE X Γ B ρ (.Subscript a b pos) (b2 ma mb atS) := imE (pe_ix ix_str ha hb hs) fun σ H Q ⟨G, z, A, e, q⟩ => by
  cases ma with
  | none => cases e
  | some x =>
    cases mb with
    | none => cases e
    | some i =>
      have e : (if x.s.length ≤ BIG then atI (signs x) i else none) = some z := e
      by_cases hl : x.s.length ≤ BIG
      · rw [if_pos hl] at e
        refine ⟨G, x, A, rfl, fun v1 G1 H1 g1 r1 => ⟨G1, i, A.grow g1, rfl, fun v2 G2 H2 g2 r2 => ⟨x.s, i, z.c, rep1 r1, rep1 r2, big_le hl, ?_, q _ G2 H2 (g1.trans g2) rfl⟩⟩⟩
        unfold atI at e ⊢
        have hsz : x.s.cps.toList.length = (signs x).length := by rw [signs_length, Array.length_toList]
        rw [hsz]
        cases hi : ixN (signs x).length i with
        | none => rw [hi] at e; cases e
        | some j =>
          rw [hi] at e
          have e : (signs x)[j]? = some z := e
          have hj : j < x.s.cps.size := by
            rw [← signs_length]; exact (List.getElem?_eq_some_iff.mp e).1
          have h2 := signs_get x (i := j) (c := x.s.cps[j]) (by simp [hj])
          rw [h2] at e
          cases e
          show x.s.cps.toList[j]? = _
          simp [hj]
      · rw [if_neg hl] at e; cases e
theorem strOk_list {l : List Nat} {x : Str} (h : x.cps.toList = l) (q : ∀ c ∈ l, c < 0x110000) : PyData.strOk x = true := by
  unfold PyData.strOk
  rw [← Array.all_toList, h, List.all_eq_true]
  intro c hc
  exact decide_eq_true (q c hc)
/-- a slice -/
theorem strOk_cut (x : Tt) (lo hi : Option Int) : PyData.strOk (cutS x.s lo hi) = true := strOk_list (l := (x.s.cps.toList.drop (HT.sIx x.s.length 0 lo)).take (HT.sIx x.s.length x.s.length hi - HT.sIx x.s.length 0 lo)) (by simp [cutS]) fun c hc => x.mem (List.mem_of_mem_drop (List.mem_of_mem_take hc))
@[irreducible] def scut (x : Tt) (lo hi : Option Int) : Option Tt := if x.s.length ≤ BIG then some ⟨cutS x.s lo hi, strOk_cut x lo hi⟩ else none
theorem xe_sliceS {m : Option Tt} {lo hi : Option Expr} {ml mh : Option (Option Int)} {p2 : Pos} (ha : XE X Γ B ρ a m) (hl : XO X Γ B ρ lo ml) (hh : XO X Γ B ρ hi mh) : XE X Γ B ρ (.Subscript a (.Slice lo hi none p2) pos) (m.bind fun x => ml.bind fun l => mh.bind fun h => scut x l h) := imE (pe_slice sl_str ha hl hh) fun σ H Q ⟨G, z, A, e, q⟩ => by
  cases m with
  | none => cases e
  | some x =>
    cases ml with
    | none => cases e
    | some l =>
      cases mh with
      | none => cases e
      | some h =>
        obtain ⟨c1, e⟩ := ite_some (by have qq : scut x l h = some z := e; unfold scut at qq; exact qq)
        subst e
        exact ⟨G, x, A, rfl, fun v G1 H1 g1 r1 => ⟨G1, l, A.grow g1, rfl, fun G2 H2 g2 => ⟨G2, h, A.grow (g1.trans g2), rfl, fun G3 H3 g3 => ⟨x.s, rep1 r1, big_le c1, q _ G3 H3 ((g1.trans g2).trans g3) rfl⟩⟩⟩⟩
end
end Sim

set_option Elab.async false
set_option autoImplicit false
set_option linter.all false
set_option maxRecDepth 100000
set_option maxHeartbeats 1000000
namespace Sim
open PySem L2
open Rp (rep)
open At1 (toV)
open K1 (key)
open KT (keys)
open Ow (own)
open RpA (repA stoA)

/-- a list of three things of their kinds -/
structure R3 (α β γ : Type) where
  a : α
  b : β
  c : γ
  deriving DecidableEq
instance instRpR3 {α β γ : Type} [Rp α] [Rp β] [Rp γ] : Rp (R3 α β γ) := ⟨fun Γ G v p => ∃ a x y z, v = .ref a ∧ G a = some (.lst [x, y, z]) ∧ rep Γ G x p.a ∧ rep Γ G y p.b ∧ rep Γ G z p.c, fun e ⟨a, x, y, z, h1, h2, h3, h4, h5⟩ => ⟨a, x, y, z, h1, e _ _ h2, Rp.mono e h3, Rp.mono e h4, Rp.mono e h5⟩⟩
/-- data that == and in go down into -/
class Dat (α : Type) [Rp α] [DecidableEq α] where
  toD : α → PyData
  dep : Nat
  reads : ∀ {Γ : Gm} {G : Hp} {v : V} {a : α}, rep Γ G v a → Dp Γ.K G v (toD a)
  lay : ∀ a, (toD a).canLay0 = true
  deep : ∀ a, (toD a).depth ≤ dep
  eqv : ∀ a b, PyData.eqv (toD a) (toD b) = decide (a = b)
open Dat (toD)
mutual
theorem Dp.up {K : PySem.W.Frag} {G H : Hp} (s : Sub G H) : ∀ {v : V} {d : PyData}, Dp K G v d → Dp K H v d
  | _, _, .non => .non
  | _, _, .bl b => .bl b
  | _, _, .int i => .int i
  | _, _, .str x => .str x
  | _, _, .lst h t => .lst (SqL.up s h) (DpAll.up s t)
  | _, _, .tup h t => .tup (by
      rcases h with (h | ⟨o, h⟩) | h
      · exact .inl (.inl (s.tup h))
      · exact .inl (.inr ⟨o, s _ _ h⟩)
      · exact .inr h) (DpAll.up s t)
theorem DpAll.up {K : PySem.W.Frag} {G H : Hp} (s : Sub G H) : ∀ {vs : List V} {ds : List PyData}, DpAll K G vs ds → DpAll K H vs ds
  | _, _, .nil => .nil
  | _, _, .cons h t => .cons (Dp.up s h) (DpAll.up s t)
end
instance : Dat Int := ⟨fun i => .int i, 0, fun h => by rw [rep1 h]; exact .int _, fun _ => by simp [PyData.canLay0], fun _ => by simp [PyData.depth], fun a b => by simp only [PyData.eqv]; exact Bool.beq_eq_decide_eq a b⟩
instance : Dat Bool := ⟨fun i => .bool i, 0, fun h => by rw [rep1 h]; exact .bl _, fun _ => by simp [PyData.canLay0], fun _ => by simp [PyData.depth], fun a b => by simp only [PyData.eqv]; exact Bool.beq_eq_decide_eq a b⟩
instance : Dat Tt := ⟨fun i => .str i.s, 0, fun h => by rw [rep1 h]; exact .str _, fun a => by simp only [PyData.canLay0]; exact a.ok, fun _ => by simp [PyData.depth], fun a b => by
  simp only [PyData.eqv]
  rw [Bool.beq_eq_decide_eq]
  exact decide_eq_decide.mpr ⟨fun h => Tt.ext' h, fun h => by rw [h]⟩⟩
theorem dat_reads {α : Type} [Rp α] [DecidableEq α] [Dat α] {Γ : Gm} {G : Hp} : ∀ {vs : List V} {xs : List α}, RpL Γ G vs xs → DpAll Γ.K G vs (xs.map toD)
  | _, _, .nil => .nil
  | _, _, .cons r t => .cons (Dat.reads r) (dat_reads t)
theorem dat_lay {α : Type} [Rp α] [DecidableEq α] [Dat α] : ∀ xs : List α, PyData.canLayAll0 (xs.map toD) = true
  | [] => by simp [PyData.canLayAll0]
  | x :: r => by rw [List.map_cons]; simp only [PyData.canLayAll0]; rw [Dat.lay x, dat_lay r]; rfl
theorem dat_deep {α : Type} [Rp α] [DecidableEq α] [Dat α] : ∀ xs : List α, PyData.depthAll (xs.map toD) ≤ Dat.dep α
  | [] => by simp [PyData.depthAll]
  | x :: r => by
    rw [List.map_cons]
    simp only [PyData.depthAll]
    exact Nat.max_le.mpr ⟨Dat.deep x, dat_deep r⟩
theorem dat_eqv {α : Type} [Rp α] [DecidableEq α] [Dat α] : ∀ xs ys : List α, PyData.eqvAll (xs.map toD) (ys.map toD) = decide (xs = ys)
  | [], [] => by simp [PyData.eqvAll]
  | [], y :: t => by simp [PyData.eqvAll]
  | x :: r, [] => by simp [PyData.eqvAll]
  | x :: r, y :: t => by
    rw [List.map_cons, List.map_cons]
    simp only [PyData.eqvAll]
    rw [Dat.eqv x y, dat_eqv r t, ← Bool.decide_and]
    exact decide_eq_decide.mpr ⟨fun ⟨h1, h2⟩ => by rw [h1, h2], fun h => by cases h; exact ⟨rfl, rfl⟩⟩
instance {α : Type} [Rp α] [DecidableEq α] [Dat α] : Dat (List α) := ⟨fun xs => .list (xs.map toD), Dat.dep α + 1, fun ⟨a, vs, h1, h2, h3⟩ => by
    subst h1; exact .lst (SqL.of h2) (dat_reads h3), fun xs => by simp only [PyData.canLay0]; exact dat_lay xs, fun xs => by simp only [PyData.depth]; exact Nat.succ_le_succ (dat_deep xs), fun a b => by simp only [PyData.eqv]; exact dat_eqv a b⟩
instance {α : Type} [Rp α] [DecidableEq α] [Dat α] : Dat (TL α) := ⟨fun xs => .tuple (xs.l.map toD), Dat.dep α + 1, fun ⟨a, vs, h1, h2, h3⟩ => by
    subst h1; exact .tup (SqT.of h2) (dat_reads h3), fun xs => by simp only [PyData.canLay0]; exact dat_lay xs.l, fun xs => by simp only [PyData.depth]; exact Nat.succ_le_succ (dat_deep xs.l), fun a b => by
    simp only [PyData.eqv]; rw [dat_eqv]; exact decide_eq_decide.mpr ⟨fun h => by cases a; cases b; cases h; rfl, fun h => by rw [h]⟩⟩
instance {α β : Type} [Rp α] [DecidableEq α] [Dat α] [Rp β] [DecidableEq β] [Dat β] : Dat (α × β) := ⟨fun p => .tuple [toD p.1, toD p.2], max (Dat.dep α) (Dat.dep β) + 1, fun ⟨a, x, y, h1, h2, h3, h4⟩ => by
    subst h1; exact .tup (SqT.of h2) (.cons (Dat.reads h3) (.cons (Dat.reads h4) .nil)), fun p => by simp only [PyData.canLay0, PyData.canLayAll0]; rw [Dat.lay p.1, Dat.lay p.2]; rfl, fun p => by
    simp only [PyData.depth, PyData.depthAll]
    have h1 := Dat.deep p.1
    have h2 := Dat.deep p.2
    omega, fun a b => by
    simp only [PyData.eqv, PyData.eqvAll, Bool.and_true]
    rw [Dat.eqv a.1 b.1, Dat.eqv a.2 b.2, ← Bool.decide_and]
    exact decide_eq_decide.mpr ⟨fun ⟨h1, h2⟩ => Prod.ext h1 h2, fun h => by rw [h]; exact ⟨rfl, rfl⟩⟩⟩
instance {α β γ : Type} [Rp α] [DecidableEq α] [Dat α] [Rp β] [DecidableEq β] [Dat β] [Rp γ] [DecidableEq γ] [Dat γ] : Dat (T3 α β γ) := ⟨fun p => .tuple [toD p.a, toD p.b, toD p.c], max (Dat.dep α) (max (Dat.dep β) (Dat.dep γ)) + 1, fun ⟨a, x, y, z, h1, h2, h3, h4, h5⟩ => by
    subst h1; exact .tup (SqT.of h2) (.cons (Dat.reads h3) (.cons (Dat.reads h4) (.cons (Dat.reads h5) .nil))), fun p => by simp only [PyData.canLay0, PyData.canLayAll0]; rw [Dat.lay p.a, Dat.lay p.b, Dat.lay p.c]; rfl, fun p => by
    simp only [PyData.depth, PyData.depthAll]
    have h1 := Dat.deep p.a
    have h2 := Dat.deep p.b
    have h3 := Dat.deep p.c
    omega, fun a b => by
    simp only [PyData.eqv, PyData.eqvAll, Bool.and_true]
    rw [Dat.eqv a.a b.a, Dat.eqv a.b b.b, Dat.eqv a.c b.c, ← Bool.decide_and, ← Bool.decide_and]
    exact decide_eq_decide.mpr ⟨fun ⟨h1, h2, h3⟩ => by cases a; cases b; cases h1; cases h2; cases h3; rfl, fun h => by rw [h]; exact ⟨rfl, rfl, rfl⟩⟩⟩
instance {α β γ : Type} [Rp α] [DecidableEq α] [Dat α] [Rp β] [DecidableEq β] [Dat β] [Rp γ] [DecidableEq γ] [Dat γ] : Dat (R3 α β γ) := ⟨fun p => .list [toD p.a, toD p.b, toD p.c], max (Dat.dep α) (max (Dat.dep β) (Dat.dep γ)) + 1, fun ⟨a, x, y, z, h1, h2, h3, h4, h5⟩ => by
    subst h1; exact .lst (SqL.of h2) (.cons (Dat.reads h3) (.cons (Dat.reads h4) (.cons (Dat.reads h5) .nil))), fun p => by simp only [PyData.canLay0, PyData.canLayAll0]; rw [Dat.lay p.a, Dat.lay p.b, Dat.lay p.c]; rfl, fun p => by
    simp only [PyData.depth, PyData.depthAll]
    have h1 := Dat.deep p.a
    have h2 := Dat.deep p.b
    have h3 := Dat.deep p.c
    omega, fun a b => by
    simp only [PyData.eqv, PyData.eqvAll, Bool.and_true]
    rw [Dat.eqv a.a b.a, Dat.eqv a.b b.b, Dat.eqv a.c b.c, ← Bool.decide_and, ← Bool.decide_and]
    exact decide_eq_decide.mpr ⟨fun ⟨h1, h2, h3⟩ => by cases a; cases b; cases h1; cases h2; cases h3; rfl, fun h => by rw [h]; exact ⟨rfl, rfl, rfl⟩⟩⟩
theorem dat_shaped {α : Type} [Rp α] [DecidableEq α] [Dat α] (h : Dat.dep α ≤ 64) (a : α) : SeqAt.shaped (toD a) = true := by
  unfold SeqAt.shaped
  rw [Dat.lay a, decide_eq_true (by have := Dat.deep a; omega)]; rfl
theorem dat_shapedL {α : Type} [Rp α] [DecidableEq α] [Dat α] (h : Dat.dep α ≤ 60) (xs : List α) : SeqAt.shaped (.list (xs.map toD)) = true := dat_shaped (α := List α) (by show Dat.dep α + 1 ≤ 64; omega) xs
section
variable {X : Cx} {Γ : Gm} {B : Bs} {L β C : Type} [Rp β] {F : Kt L β C} {ρ ρ' : Sto} {N : List Str} {sc : Scope} {k : Nat} {fx : List Nat} {W : WX} {M : List Addr} {pos p p' : Pos} {e a b o tg it : Expr} {st : Stmt} {sts : List Stmt} {es : List Expr} {S : Type} {sto : S → Sto}
variable {α γ : Type} [Rp α] [Rp γ]
theorem Cok.hu65 (c : Cok X Γ N sc k) : X.A.units + 65 < cLine := by have := c.room.un; omega
theorem any_eqv {α : Type} [Rp α] [DecidableEq α] [Dat α] (x : α) (xs : List α) : ((xs.map toD).any fun z => PyData.eqv z (toD x)) = decide (x ∈ xs) := by
  rw [List.any_map, Bool.eq_iff_iff, List.any_eq_true, decide_eq_true_iff]
  constructor
  · rintro ⟨y, hy, e⟩
    have e : PyData.eqv (toD y) (toD x) = true := e
    rw [Dat.eqv] at e
    rw [← of_decide_eq_true e]
    exact hy
  · intro h
    exact ⟨x, h, by show PyData.eqv (toD x) (toD x) = true; rw [Dat.eqv]; exact decide_eq_true rfl⟩

theorem xc_deepIn (c : Cok X Γ N sc k) [DecidableEq α] [Dat α] {ma : Option α} {mb : Option (List α)} (ha : XE X Γ B ρ a ma) (hb : XR X Γ B ρ b mb) (hd : Dat.dep α ≤ 60 := by decide) : XC X Γ B ρ .In a b (b2 ma mb fun x xs => some (isIn x xs)) := imC (pc_R (op_inD c.hu65) ha hb) fun σ H Q ⟨G, z, A, e, q⟩ => by
  cases ma with
  | none => cases e
  | some x =>
    cases mb with
    | none => cases e
    | some xs =>
      cases e
      refine ⟨G, x, A, rfl, fun v G1 H1 g1 r1 => ⟨G1, xs, A.grow g1, rfl, fun p vs G2 H2 g2 hp r2 => ⟨toD x, xs.map toD, ?_, ?_, dat_shaped (by omega) x, dat_shapedL hd xs, q _ G2 H2 (g1.trans g2) ?_⟩⟩⟩
      · rw [c.hK]; exact Dp.up g2.sub (Dat.reads (Rp.mono g2.leG r1))
      · rw [c.hK]; exact .lst (SqL.of hp) (DpAll.up g2.sub (dat_reads r2))
      · show V.bl _ = V.bl _
        rw [any_eqv]
theorem xc_deepNotIn (c : Cok X Γ N sc k) [DecidableEq α] [Dat α] {ma : Option α} {mb : Option (List α)} (ha : XE X Γ B ρ a ma) (hb : XR X Γ B ρ b mb) (hd : Dat.dep α ≤ 60 := by decide) : XC X Γ B ρ .NotIn a b (b2 ma mb fun x xs => some (!isIn x xs)) := imC (pc_R (op_notInD c.hu65) ha hb) fun σ H Q ⟨G, z, A, e, q⟩ => by
  cases ma with
  | none => cases e
  | some x =>
    cases mb with
    | none => cases e
    | some xs =>
      cases e
      refine ⟨G, x, A, rfl, fun v G1 H1 g1 r1 => ⟨G1, xs, A.grow g1, rfl, fun p vs G2 H2 g2 hp r2 => ⟨toD x, xs.map toD, ?_, ?_, dat_shaped (by omega) x, dat_shapedL hd xs, q _ G2 H2 (g1.trans g2) ?_⟩⟩⟩
      · rw [c.hK]; exact Dp.up g2.sub (Dat.reads (Rp.mono g2.leG r1))
      · rw [c.hK]; exact .lst (SqL.of hp) (DpAll.up g2.sub (dat_reads r2))
      · show V.bl _ = V.bl _
        rw [any_eqv]
/-- == and != of data -/
theorem xc_eqD (c : Cok X Γ N sc k) [DecidableEq α] [Dat α] {ma mb : Option α} (ha : XE X Γ B ρ a ma) (hb : XE X Γ B ρ b mb) (hd : Dat.dep α ≤ 60 := by decide) : XC X Γ B ρ .Eq a b (b2 ma mb fun x y => some (decide (x = y))) := imC (pc_R (op_eqD c.hu64) ha hb) fun σ H Q ⟨G, z, A, e, q⟩ => by
  cases ma with
  | none => cases e
  | some x =>
    cases mb with
    | none => cases e
    | some y =>
      cases e
      refine ⟨G, x, A, rfl, fun v G1 H1 g1 r1 => ⟨G1, y, A.grow g1, rfl, fun w G2 H2 g2 r2 => ⟨toD x, toD y, ?_, ?_, dat_shaped (by omega) x, dat_shaped (by omega) y, q _ G2 H2 (g1.trans g2) ?_⟩⟩⟩
      · rw [c.hK]; exact Dp.up g2.sub (Dat.reads (Rp.mono g2.leG r1))
      · rw [c.hK]; exact Dp.up g2.sub (Dat.reads r2)
      · show V.bl _ = V.bl _
        rw [Dat.eqv]
theorem xc_neD (c : Cok X Γ N sc k) [DecidableEq α] [Dat α] {ma mb : Option α} (ha : XE X Γ B ρ a ma) (hb : XE X Γ B ρ b mb) (hd : Dat.dep α ≤ 60 := by decide) : XC X Γ B ρ .NotEq a b (b2 ma mb fun x y => some (!decide (x = y))) := imC (pc_R (op_neD c.hu64) ha hb) fun σ H Q ⟨G, z, A, e, q⟩ => by
  cases ma with
  | none => cases e
  | some x =>
    cases mb with
    | none => cases e
    | some y =>
      cases e
      refine ⟨G, x, A, rfl, fun v G1 H1 g1 r1 => ⟨G1, y, A.grow g1, rfl, fun w G2 H2 g2 r2 => ⟨toD x, toD y, ?_, ?_, dat_shaped (by omega) x, dat_shaped (by omega) y, q _ G2 H2 (g1.trans g2) ?_⟩⟩⟩
      · rw [c.hK]; exact Dp.up g2.sub (Dat.reads (Rp.mono g2.leG r1))
      · rw [c.hK]; exact Dp.up g2.sub (Dat.reads r2)
      · show V.bl _ = V.bl _
        rw [Dat.eqv]

/-! ### optional plain values -/
class AtO (α : Type) [At1 α] : Prop where
  nn : ∀ a : α, toV a ≠ .non
  inj : ∀ a b : α, toV a = toV b → a = b
  s0 : scal .non .non = true
  s1 : ∀ a : α, scal (toV a) .non = true
  s2 : ∀ a : α, scal .non (toV a) = true
  s3 : ∀ a b : α, scal (toV a) (toV b) = true
instance : AtO Int := ⟨fun _ h => V.noConfusion h, fun a b h => V.int.inj h, rfl, fun _ => rfl, fun _ => rfl, fun _ _ => rfl⟩
instance : AtO Tt := ⟨fun _ h => V.noConfusion h, fun a b h => Tt.ext' (V.str.inj h), rfl, fun _ => rfl, fun _ => rfl, fun _ _ => rfl⟩
theorem opt_scal {α : Type} [At1 α] [AtO α] [DecidableEq α] {G : Hp} {v w : V} {x y : Option α} (h1 : rep Γ G v x) (h2 : rep Γ G w y) : scal v w = true ∧ decide (v = w) = decide (x = y) := by
  cases x with
  | none =>
    obtain rfl : v = .non := h1
    cases y with
    | none =>
      obtain rfl : w = .non := h2
      exact ⟨AtO.s0 α, by simp⟩
    | some b =>
      obtain rfl : w = toV b := h2.2
      exact ⟨AtO.s2 b, by rw [decide_eq_false fun z => AtO.nn b z.symm]; simp⟩
  | some a =>
    obtain rfl : v = toV a := h1.2
    cases y with
    | none =>
      obtain rfl : w = .non := h2
      exact ⟨AtO.s1 a, by rw [decide_eq_false fun z => AtO.nn a z]; simp⟩
    | some b =>
      obtain rfl : w = toV b := h2.2
      exact ⟨AtO.s3 a b, decide_eq_decide.mpr ⟨fun z => by rw [AtO.inj a b z], fun z => by cases z; rfl⟩⟩
theorem o_eqO {α : Type} [At1 α] [AtO α] [DecidableEq α] : Op2 Γ rEq fun (i j : Option α) => some (decide (i = j)) := fun G H x y p q z s h1 h2 e Q k => by
  cases e
  obtain ⟨a1, a2⟩ := opt_scal h1 h2
  exact ⟨a1, by rw [a2]; exact k _ G H (.refl s) rfl⟩
theorem o_neO {α : Type} [At1 α] [AtO α] [DecidableEq α] : Op2 Γ rNe fun (i j : Option α) => some (!decide (i = j)) := fun G H x y p q z s h1 h2 e Q k => by
  cases e
  obtain ⟨a1, a2⟩ := opt_scal h1 h2
  exact ⟨a1, by rw [a2]; exact k _ G H (.refl s) rfl⟩
theorem nn_at {α : Type} [At1 α] [AtO α] : ∀ Γ G v (a : α), rep Γ G v a → v ≠ .non := fun Γ G v a h => by rw [rep1 h]; exact AtO.nn a
theorem nn_list : ∀ Γ G v (a : List α), rep Γ G v a → v ≠ .non := fun Γ G v a ⟨p, _, h, _⟩ => by rw [h]; intro z; cases z
theorem nn_prod : ∀ Γ G v (a : α × γ), rep Γ G v a → v ≠ .non := fun Γ G v a ⟨p, _, _, h, _⟩ => by rw [h]; intro z; cases z

/-! ### lists of three kinds -/
theorem xe_r3a {δ : Type} [Rp δ] {m : Option (R3 α γ δ)} {j : Nat} {p1 : Pos} (ha : XE X Γ B ρ a m) : XE X Γ B ρ (.Subscript a (.Constant (.int 0) j p1) pos) (m.bind fun t => some t.a) := imE (pe_ix ix_list ha pe_int fun _ _ => rfl) fun σ H Q ⟨G, z, A, e, q⟩ => by
  cases m with
  | none => cases e
  | some t =>
    cases e
    refine ⟨G, t, A, rfl, fun v G1 H1 g1 ⟨p, x, y, w, h1, h2, h3, h4, h5⟩ => ?_⟩
    exact ⟨p, [x, y, w], 0, x, h1, rfl, SqL.of (g1.sub.lst h2), rfl, q x G1 H1 g1 h3⟩
theorem xe_r3b {δ : Type} [Rp δ] {m : Option (R3 α γ δ)} {j : Nat} {p1 : Pos} (ha : XE X Γ B ρ a m) : XE X Γ B ρ (.Subscript a (.Constant (.int 1) j p1) pos) (m.bind fun t => some t.b) := imE (pe_ix ix_list ha pe_int fun _ _ => rfl) fun σ H Q ⟨G, z, A, e, q⟩ => by
  cases m with
  | none => cases e
  | some t =>
    cases e
    refine ⟨G, t, A, rfl, fun v G1 H1 g1 ⟨p, x, y, w, h1, h2, h3, h4, h5⟩ => ?_⟩
    exact ⟨p, [x, y, w], 1, y, h1, rfl, SqL.of (g1.sub.lst h2), rfl, q y G1 H1 g1 h4⟩
theorem xe_r3c {δ : Type} [Rp δ] {m : Option (R3 α γ δ)} {j : Nat} {p1 : Pos} (ha : XE X Γ B ρ a m) : XE X Γ B ρ (.Subscript a (.Constant (.int 2) j p1) pos) (m.bind fun t => some t.c) := imE (pe_ix ix_list ha pe_int fun _ _ => rfl) fun σ H Q ⟨G, z, A, e, q⟩ => by
  cases m with
  | none => cases e
  | some t =>
    cases e
    refine ⟨G, t, A, rfl, fun v G1 H1 g1 ⟨p, x, y, w, h1, h2, h3, h4, h5⟩ => ?_⟩
    exact ⟨p, [x, y, w], 2, w, h1, rfl, SqL.of (g1.sub.lst h2), rfl, q w G1 H1 g1 h5⟩
theorem xe_r3 {δ : Type} [Rp δ] {c : Expr} {ma : Option α} {mb : Option γ} {mc : Option δ} (ha : XE X Γ B ρ a ma) (hb : XE X Γ B ρ b mb) (hc : XE X Γ B ρ c mc) (s1 : starEach [a, b, c] X.env = (false, eval a X.env) :: starEach [b, c] X.env := by rfl)
    (s2 : starEach [b, c] X.env = (false, eval b X.env) :: starEach [c] X.env := by rfl) (s3 : starEach [c] X.env = (false, eval c X.env) :: starEach [] X.env := by rfl) : XE X Γ B ρ (.List [a, b, c] pos) (ma.bind fun x => mb.bind fun y => mc.bind fun z => some (R3.mk x y z)) :=
  imE (pe_lst (pa_cons ha (pa_cons hb (pa_cons hc pa_nil s3) s2) s1)) fun σ H Q ⟨G, z, A, e, q⟩ => by
  cases ma with
  | none => cases e
  | some x =>
    cases mb with
    | none => cases e
    | some y =>
      cases mc with
      | none => cases e
      | some w =>
        cases e
        refine ⟨G, x, A, rfl, fun v1 G1 H1 g1 r1 => ⟨G1, y, A.grow g1, rfl, fun v2 G2 H2 g2 r2 => ⟨G2, w, A.grow (g1.trans g2), rfl, fun v3 G3 H3 g3 r3 => ⟨(by show 3 ≤ sizeLine; decide), fun p hp => ?_⟩⟩⟩⟩
        have g4 := Grow.new g3.sub hp (.lst [v1, v2, v3])
        exact q _ _ _ (((g1.trans g2).trans g3).trans g4) ⟨p, v1, v2, v3, rfl, upd_same, Rp.mono ((g2.leG.trans g3.leG).trans g4.leG) r1, Rp.mono (g3.leG.trans g4.leG) r2, Rp.mono g4.leG r3⟩

/-! ### targets of two, of three -/
theorem xg_pair (d : Dok X Γ B N sc k fx W M) {ρ : S → Sto} {x y : Str} (i j : Nat) {n : Nat} {p1 p2 : Pos} (hi : N[i]? = some x) (hx : Loc sc x) (hj : N[j]? = some y) (hy : Loc sc y) (hρ : ∀ s, Nat.ble (i + 1) (ρ s).length = true := by intro _; rfl) (hf : fx.contains i = false := by rfl)
    (hρ2 : ∀ s, Nat.ble (j + 1) (ρ s).length = true := by intro _; rfl) (hf2 : fx.contains j = false := by rfl) : XG X Γ B (.Tuple [.Name x p1, .Name y p2] n pos) ρ (fun s (t : α × γ) => ((ρ s).set i (vl t.1)).set j (vl t.2)) :=
  imG (pg_tup d.calm (pgs_cons (pg_name (i := i) (by rw [d.hN]; exact d.nd) (by rw [d.hN]; exact hi) (by rw [d.hsc]; exact hx) (.inl (d.hfn x))) (pgs_cons (pg_name (i := j) (by rw [d.hN]; exact d.nd) (by rw [d.hN]; exact hj) (by rw [d.hsc]; exact hy) (.inl (d.hfn y))) pgs_nil))) fun v σ H Q ⟨s, t, G, A, ⟨p, u, w, h1, h2, h3, h4⟩, q⟩ => by
  refine ⟨p, [u, w], h1, SqT.of (A.sub.tup h2), rfl, u, [w], rfl, w, [], rfl, rfl, ?_⟩
  have no : ∀ n, fx.contains n = false → n ∉ B.fx := fun n hn hm => by
    rw [d.hfx] at hm
    rw [List.contains_iff_mem.mpr hm] at hn
    cases hn
  have A1 := A.setV (Nat.le_of_ble_eq_true (hρ s)) h3 (no i hf)
  exact q G H _ (.refl _) (A1.setV (by rw [List.length_set]; exact Nat.le_of_ble_eq_true (hρ2 s)) h4 (no j hf2))
theorem xg_trip {δ : Type} [Rp δ] (d : Dok X Γ B N sc k fx W M) {ρ : S → Sto} {x y z : Str} (i j l : Nat) {n : Nat} {p1 p2 p3 : Pos} (hi : N[i]? = some x) (hj : N[j]? = some y) (hl : N[l]? = some z) (hx : Loc sc x) (hy : Loc sc y) (hz : Loc sc z) (hρ : ∀ s, Nat.ble (i + 1) (ρ s).length = true := by intro _; rfl) (hf : fx.contains i = false := by rfl)
    (hρ2 : ∀ s, Nat.ble (j + 1) (ρ s).length = true := by intro _; rfl) (hf2 : fx.contains j = false := by rfl) (hρ3 : ∀ s, Nat.ble (l + 1) (ρ s).length = true := by intro _; rfl) (hf3 : fx.contains l = false := by rfl) : XG X Γ B (.Tuple [.Name x p1, .Name y p2, .Name z p3] n pos) ρ (fun s (t : T3 α γ δ) => (((ρ s).set i (vl t.a)).set j (vl t.b)).set l (vl t.c)) :=
  imG (pg_tup d.calm (pgs_cons (pg_name (i := i) (by rw [d.hN]; exact d.nd) (by rw [d.hN]; exact hi) (by rw [d.hsc]; exact hx) (.inl (d.hfn x))) (pgs_cons (pg_name (i := j) (by rw [d.hN]; exact d.nd) (by rw [d.hN]; exact hj) (by rw [d.hsc]; exact hy) (.inl (d.hfn y))) (pgs_cons (pg_name (i := l) (by rw [d.hN]; exact d.nd) (by rw [d.hN]; exact hl) (by rw [d.hsc]; exact hz) (.inl (d.hfn z))) pgs_nil)))) fun v σ H Q ⟨s, t, G, A, ⟨p, u, w, u3, h1, h2, h3, h4, h5⟩, q⟩ => by
  refine ⟨p, [u, w, u3], h1, SqT.of (A.sub.tup h2), rfl, u, [w, u3], rfl, w, [u3], rfl, u3, [], rfl, rfl, ?_⟩
  have no : ∀ n, fx.contains n = false → n ∉ B.fx := fun n hn hm => by
    rw [d.hfx] at hm
    rw [List.contains_iff_mem.mpr hm] at hn
    cases hn
  have A1 := A.setV (Nat.le_of_ble_eq_true (hρ s)) h3 (no i hf)
  have A2 := A1.setV (i := j) (by rw [List.length_set]; exact Nat.le_of_ble_eq_true (hρ2 s)) h4 (no j hf2)
  exact q G H _ (.refl _) (A2.setV (by rw [List.length_set, List.length_set]; exact Nat.le_of_ble_eq_true (hρ3 s)) h5 (no l hf3))
/-- enumerate -/
def enumL {α : Type} (xs : List α) : List (Int × α) := xs.zipIdx.map fun q => ((q.2 : Int), q.1)
theorem xi_enum (c : Cok X Γ N sc k) {m : Option (List α)} {tpos : Pos} {elts : List Expr} {kk : Nat} (ha : XE X Γ B ρ e m) (hg : Glb sc "enumerate") (hm : Γ.mg "enumerate" = none) (s1 : starEach [e] X.env = [(false, eval e X.env)] := by rfl) : XI X Γ B ρ (.Tuple elts kk tpos) (.Call (.Name "enumerate" p) [e] [] pos) (m.bind fun xs => some (enumL xs)) :=
  imI (pi_enum (c.gl hg) (by rw [c.hmg]; exact hm) (pa_cons ha pa_nil (by rw [s1]; rfl)) s1) fun σ H R ⟨G, zs, A, e, q⟩ => by
  cases m with
  | none => cases e
  | some xs =>
    cases e
    refine ⟨G, xs, A, rfl, fun v G1 H1 g1 ⟨p, vs, h1, h2, h3⟩ => ⟨p, vs, by rw [h1], SqL.of (g1.sub.lst h2), q _ G1 H1 g1 ⟨YPair (fun i => some (.int (i : Nat))) (fun i => vs[i]?), ?_, ?_⟩⟩⟩
    · have : (enumL xs).length = vs.length := by rw [h3.length]; simp [enumL]
      rw [this]
      exact (walk_enum (K := X.K) (a := p) (xs := vs)).mono (fun H ⟨G2, l2, s2⟩ => SqL.of (s2.lst (l2 _ _ h2))) (fun i H x H' hi _ y => y)
    · rintro i H v H1 hi ⟨T, x, y, e1, e2, e3, e4, e5⟩ G2 l2 s2
      obtain ⟨z, hz, r⟩ := h3.getV e5
      subst e1
      have g3 := Grow.new s2 e2 (.tup [x, y])
      refine ⟨((i : Int), z), _, by simp [enumL, hz], e3 ▸ g3, T, x, y, rfl, upd_same, ?_, Rp.mono (l2.trans g3.leG) r⟩
      have e4 := Option.some.inj e4
      exact e4.symm
end
end Sim

set_option Elab.async false
set_option autoImplicit false
set_option linter.all false
set_option maxRecDepth 100000
set_option maxHeartbeats 1000000
namespace Sim
open PySem L2
open Rp (rep)
open At1 (toV)
open K1 (key)
open KT (keys)
open Ow (own)
open RpA (repA stoA)

/-- an expression that changes the store as it is reckoned -/
def cF (Γ : Gm) (B : Bs) (ρ : Sto) {α S : Type} [Rp α] (m : Option (α × S)) (sto : S → Sto) : TE := fun σ H Q => ∃ G x s, At Γ B ρ G H σ ∧ m = some (x, s) ∧ ∀ v G' H', Le G G' → At Γ B (sto s) G' H' σ → rep Γ G' v x → Q v H'
abbrev XF (X : Cx) (Γ : Gm) (B : Bs) (ρ : Sto) (e : Expr) {α S : Type} [Rp α] (m : Option (α × S)) (sto : S → Sto) : Prop := PE X e (cF Γ B ρ m sto)
section
variable {X : Cx} {Γ : Gm} {B : Bs} {L β C : Type} [Rp β] {F : Kt L β C} {ρ ρ' : Sto} {N : List Str} {sc : Scope} {k : Nat} {fx : List Nat} {W : WX} {M : List Addr} {pos p p' : Pos} {e a b o tg it : Expr} {st : Stmt} {sts : List Stmt} {es : List Expr} {S : Type} {sto : S → Sto}
variable {α γ : Type} [Rp α] [Rp γ]
theorem xf_eq {m m' : Option (α × S)} (h : XF X Γ B ρ e m sto) (q : m = m') : XF X Γ B ρ e m' sto := q ▸ h
/-- xs.pop(i), 0 ≤ i -/
@[irreducible] def ppopAt {α : Type} (xs : List α) (i : Int) : Option (α × List α) := if 0 ≤ i ∧ xs.length ≤ BIG then (xs[i.toNat]?).bind fun y => some (y, xs.eraseIdx i.toNat) else none
theorem xf_popAt (c : Cok X Γ N sc k) {x : Str} (i : Nat) {xs : List α} {mi : Option Int} {apos cpos : Pos} (hi : ρ[i]? = some (ow (OL.mk xs))) (hN : N[i]? = some x) (hv : Vis sc x) (he : XE X Γ B ρ e mi) (hd : (x == ("__debug__" : Str)) = false := by decide) (hcd : (x == ("__classdict__" : Str)) = false := by decide)
    (hfew : ((backTo cpos (starEach [e] X.env)).all (fun x => !x.1) && (backToKw cpos (keywordEach [] X.env)).all (fun x => x.1.isSome)
      && decide ([e].length + ([] : List Keyword).length + (if ([] : List Keyword).isEmpty then 0 else 1) < 30)) = true := by rfl)
    (hline : (apos.endLine == cpos.line) = true := by rfl) (hs : starEach [e] X.env = (false, eval e X.env) :: starEach [] X.env := by rfl) :
    XF X Γ B ρ (.Call (.Attribute (.Name x p) "pop" apos) [e] [] cpos) (mi.bind fun j => ppopAt xs j) (fun ys => ρ.set i (ow (OL.mk ys))) :=
  imE (pe_bm PySem.F.plainAttrs_list PySem.F.slot_list_pop PySem.F.type_list_pop mt_popAt (pv_ c hN hv hd hcd) (pa_cons he pa_nil hs) (by rfl) hfew hline hs (by rfl)) fun σ H Q ⟨G, y, s, A, e, q⟩ => by
  cases mi with
  | none => cases e
  | some j =>
    have e : ppopAt xs j = some (y, s) := e
    unfold ppopAt at e
    by_cases hc : 0 ≤ j ∧ xs.length ≤ BIG
    · rw [if_pos hc] at e
      cases hy : xs[j.toNat]? with
      | none => rw [hy] at e; cases e
      | some y' =>
        rw [hy] at e
        cases e
        have hl : j.toNat < xs.length := (List.getElem?_eq_some_iff.mp hy).1
        obtain ⟨v, fp, h1, ⟨p, vs, rfl, h3, h4, h5⟩, h6⟩ := A.getO hi
        refine ⟨.ref p, h1, .inl ⟨rfl, vs, SqL.of h4⟩, G, j, A, rfl, fun v G1 H1 g1 r1 => ?_⟩
        obtain ⟨u, hu, ru⟩ := h5.get hy
        have hb : xs.length ≤ 1000000 := hc.2
        have hlen : vs.length = xs.length := h5.length
        have hj0 : 0 ≤ j := hc.1
        have hj1 : j < (vs.length : Int) := by omega
        have hj2 : -(2 ^ 63) ≤ j := by omega
        have hj3 : j < 2 ^ 63 := by omega
        refine ⟨p, vs, j, j.toNat, u, rfl, by rw [rep1 r1]; rfl, g1.leH _ _ h4, hj2, hj3, PySem.StrLaws.seqIndex_nonneg hj0 hj1, hu, ?_⟩
        exact q u G1 _ g1.leG ((A.grow g1).setL hi h1 ((h5.mono g1.leG).erase j.toNat)) (Rp.mono g1.leG ru)
    · rw [if_neg hc] at e; cases e
/-- xs.pop() -/
def ppop {α : Type} (xs : List α) : Option (α × List α) := (xs[xs.length - 1]?).bind fun y => some (y, xs.dropLast)
theorem xf_pop (c : Cok X Γ N sc k) {x : Str} (i : Nat) {xs : List α} {apos cpos : Pos} (hi : ρ[i]? = some (ow (OL.mk xs))) (hN : N[i]? = some x) (hv : Vis sc x) (hd : (x == ("__debug__" : Str)) = false := by decide) (hcd : (x == ("__classdict__" : Str)) = false := by decide)
    (hline : (apos.endLine == cpos.line) = true := by rfl) :
    XF X Γ B ρ (.Call (.Attribute (.Name x p) "pop" apos) [] [] cpos) (ppop xs) (fun ys => ρ.set i (ow (OL.mk ys))) :=
  imE (pe_bm0 PySem.F.plainAttrs_list PySem.F.slot_list_pop PySem.F.type_list_pop mt_pop (pv_ c hN hv hd hcd) (by rfl) hline) fun σ H Q ⟨G, y, s, A, e, q⟩ => by
  unfold ppop at e
  cases hy : xs[xs.length - 1]? with
  | none => rw [hy] at e; cases e
  | some y' =>
    rw [hy] at e
    cases e
    obtain ⟨v, fp, h1, ⟨p, vs, rfl, h3, h4, h5⟩, h6⟩ := A.getO hi
    obtain ⟨u, hu, ru⟩ := h5.get hy
    refine ⟨.ref p, h1, .inl ⟨rfl, vs, SqL.of h4⟩, p, vs, u, rfl, rfl, h4, by rw [h5.length]; exact hu, ?_⟩
    exact q u G _ (.refl _) (A.setL hi h1 h5.dropLast) ru
/-- ys.append(F) -/
theorem xp_appF (d : Dok X Γ B N sc k fx W M) {m : Option (α × S)} {x : Str} (i : Nat) {xs0 : List α} {us : S → List α} {apos cpos : Pos} (he : XF X Γ B ρ e m sto) (hi0 : ρ[i]? = some (ow (OL.mk xs0))) (hi : ∀ s, (sto s)[i]? = some (ow (OL.mk (us s)))) (hN : N[i]? = some x) (hv : Vis sc x) (hd : (x == ("__debug__" : Str)) = false := by decide) (hcd : (x == ("__classdict__" : Str)) = false := by decide)
    (hfew : ((backTo cpos (starEach [e] X.env)).all (fun x => !x.1) && (backToKw cpos (keywordEach [] X.env)).all (fun x => x.1.isSome)
      && decide ([e].length + ([] : List Keyword).length + (if ([] : List Keyword).isEmpty then 0 else 1) < 30)) = true := by rfl)
    (hline : (apos.endLine == cpos.line) = true := by rfl) (hs : starEach [e] X.env = (false, eval e X.env) :: starEach [] X.env := by rfl) (hw : swapsWith (.Call (.Attribute (.Name x p) "append" apos) [e] [] cpos) none pos.line X.env = pure false := by rfl) :
    XP1 X Γ B ρ (.Expr (.Call (.Attribute (.Name x p) "append" apos) [e] [] cpos) pos) (m.bind fun q => (push (us q.2) q.1).bind fun ys => some (q.2, ys)) (fun q => (sto q.1).set i (ow (OL.mk q.2))) :=
  imS (ps_expr (pe_bm PySem.F.plainAttrs_list PySem.F.slot_list_append PySem.F.type_list_append mt_append (pv_ d.toCok hN hv hd hcd) (pa_cons he pa_nil hs) (by rfl) hfew hline hs (by rfl)) hw) fun D σ H ⟨G, s, A, e, q⟩ => by
  cases m with
  | none => cases e
  | some y =>
    have e : ((push (us y.2) y.1).bind fun ys => some (y.2, ys)) = some s := e
    cases hp : push (us y.2) y.1 with
    | none => rw [hp] at e; cases e
    | some ys =>
      rw [hp] at e
      cases e
      obtain ⟨hl, e⟩ := ite_some (by have qq : (push (us y.2) y.1) = some ys := hp; unfold push at qq; exact qq)
      subst e
      obtain ⟨v, fp, h1, ⟨p, vs, rfl, h3, h4, h5⟩, h6⟩ := A.getO hi0
      refine ⟨.ref p, h1, .inl ⟨rfl, vs, SqL.of h4⟩, G, y.1, y.2, A, rfl, fun v G1 H1 l1 A1 r1 => ?_⟩
      obtain ⟨w, fp1, k1, ⟨p1, vs1, e1, k3, k4, k5⟩, k6⟩ := A1.getO (hi y.2)
      rw [h1] at k1
      cases k1
      cases e1
      refine ⟨p, vs1, v, rfl, rfl, k4, by rw [show vs1.length = (us y.2).length from k5.length]; exact big_lt (by omega), ?_⟩
      exact q G1 _ σ (A1.setL (hi y.2) h1 (k5.append (.cons r1 .nil)))
/-- x = F -/
theorem xp_setF (d : Dok X Γ B N sc k fx W M) {m : Option (α × S)} {x : Str} (i : Nat) (he : XF X Γ B ρ e m sto) (hi : N[i]? = some x) (hx : Loc sc x) (hρ : ∀ s, Nat.ble (i + 1) (sto s).length = true := by intro _; rfl) (hf : fx.contains i = false := by rfl) (hs : swapsWith e (some (.Name x p')) pos.line X.env = pure false := by rfl) :
    XP1 X Γ B ρ (.Assign [.Name x p'] e pos) m (fun q => (sto q.2).set i (vl q.1)) := imS (ps_set (i := i) (by rw [d.hN]; exact d.nd) (by rw [d.hN]; exact hi) (by rw [d.hsc]; exact hx) he hs (.inl (d.hfn x))) fun D σ H ⟨G, s, A, e, q⟩ =>
  ⟨G, s.1, s.2, A, e, fun v G1 H1 l1 A1 r1 => q G1 _ _ (A1.setV (Nat.le_of_ble_eq_true (hρ s.2)) r1 fun hm => by
    rw [d.hfx] at hm
    rw [List.contains_iff_mem.mpr hm] at hf
    cases hf)⟩
/-- F alone -/
theorem xp_doF (d : Dok X Γ B N sc k fx W M) {m : Option (α × S)} (he : XF X Γ B ρ e m sto) (hw : swapsWith e none pos.line X.env = pure false := by rfl) : XP1 X Γ B ρ (.Expr e pos) (m.bind fun q => some q.2) sto := imS (ps_expr he hw) fun D σ H ⟨G, s, A, e, q⟩ => by
  cases m with
  | none => cases e
  | some y =>
    cases e
    exact ⟨G, y.1, y.2, A, rfl, fun v G1 H1 l1 A1 r1 => q G1 H1 σ A1⟩
/-- a < b < c of ints, as a test -/
theorem xt_chain {op op' : CmpOp} {p p' : Int → Int → Bool} {c : Expr} {ma mb mc : Option Int} (ho : OpR X (compareOp op) (rI0 fun i j => .bl (p i j))) (ho' : OpR X (compareOp op') (rI0 fun i j => .bl (p' i j))) (ha : XE X Γ B ρ a ma) (hb : XE X Γ B ρ b mb) (hc : XE X Γ B ρ c mc)
    (h1 : lastMarks [op, op'] [b, c] = false := by rfl) : XT X Γ B ρ (.Compare a [op, op'] [b, c] pos) (ma.bind fun x => mb.bind fun y => if p x y = true then mc.bind fun z => some (p' y z) else some false) := imT (pt_chain ho ho' ha hb hc h1) fun σ H Q ⟨G, z, A, e, q⟩ => by
  cases ma with
  | none => cases e
  | some x =>
    cases mb with
    | none => cases e
    | some y =>
      refine ⟨G, x, A, rfl, fun v1 G1 H1 g1 r1 => ⟨G1, y, A.grow g1, rfl, fun v2 G2 H2 g2 r2 => ⟨x, y, rep1 r1, rep1 r2, p x y, rfl, ?_⟩⟩⟩
      have e : (if p x y = true then mc.bind (fun z => some (p' y z)) else some false) = some z := e
      cases hp : p x y with
      | true =>
        rw [hp, if_pos rfl] at e
        rw [if_pos rfl]
        cases mc with
        | none => cases e
        | some w =>
          cases e
          exact ⟨G2, w, A.grow (g1.trans g2), rfl, fun v3 G3 H3 g3 r3 => ⟨y, w, rep1 r2, rep1 r3, _, rfl, q G3 H3 ((g1.trans g2).trans g3)⟩⟩
      | false =>
        rw [hp, if_neg Bool.false_ne_true] at e
        rw [if_neg Bool.false_ne_true]
        cases e
        exact ⟨_, rfl, q G2 H2 (g1.trans g2)⟩
end
end Sim

set_option Elab.async false
set_option autoImplicit false
set_option linter.all false
set_option maxRecDepth 100000
set_option maxHeartbeats 1000000
namespace Sim
open PySem L2
open Rp (rep)
open At1 (toV)
open K1 (key)
open KT (keys)
open Ow (own)
open RpA (repA stoA)

/-! ### a slot of one's own, opened: anything may be done at its footprint -/
theorem At.openO {Γ : Gm} {B : Bs} {ρ : Sto} {G H : Hp} {σ : St} {α : Type} {I : Ow α} {a : α} {i : Nat} (A : At Γ B ρ G H σ) (h : ρ[i]? = some (.own α I a)) : ∃ v fp, σ[i]? = some (some v) ∧ I.own Γ G H v fp a ∧ (∀ x ∈ fp, G x = none) ∧
    ∀ (β : Type) (J : Ow β) (b : β) (G' H' : Hp) (fp' : List Addr), Le G G' → Sub G' H' → (∀ x, H x ≠ none → G x = none → Th (H x) (G' x)) → (∀ x o, x ∉ fp → H x = some o → H' x = some o) → (∀ x ∈ fp, H' x ≠ none) → (∀ x ∈ fp', x ∈ fp ∨ (H x = none ∧ G' x = none)) → J.own Γ G' H' v fp' b →
      At Γ B (ρ.set i (.own β J b)) G' H' σ := by
  obtain ⟨φ, h1, h3⟩ := A.slots
  have hi : i < ρ.length := (List.getElem?_eq_some_iff.mp h).1
  obtain ⟨o, e1, v, e2, ow⟩ := h1.ok i _ h
  have e1 : σ[i]? = some (some v) := by rw [e1, e2]
  refine ⟨v, φ i, e1, ow, fun x hx => (h3 i x hx).1, fun β J b G' H' fp' leG sub thin keep live hfp own' => ?_⟩
  have hs : i < σ.length := by rw [h1.len]; exact hi
  have eσ : σ.set i (some v) = σ := by
    have := List.getElem?_eq_getElem hs
    rw [this] at e1
    rw [← Option.some.inj e1]; simp
  have thr : ∀ x, H x ≠ none → H' x ≠ none := fun x hx => by
    by_cases hm : x ∈ φ i
    · exact live x hm
    · cases q : H x with
      | none => exact absurd q hx
      | some u => rw [keep x u hm q]; simp
  have hfp2 : ∀ j x, j ≠ i → x ∈ fp' → x ∉ φ j := fun j x hj hx hm => by
    rcases hfp x hx with q | ⟨q, _⟩
    · exact hj (h1.apart j i x hm q)
    · exact h1.there j x hm q
  refine ⟨sub, A.le.trans leG, fun x u hx e => ?_, fun x hx => thr x (A.live x hx), A.thinT thin, ⟨setφ φ i fp', ?_, fun j x hx => ?_⟩, A.fix⟩
  · have hm : x ∉ φ i := fun hm => by
      rcases (h3 i x hm).2 with w | w
      · rw [w] at e; cases e
      · exact hx w
    exact keep x u hm (A.keep x u hx e)
  · refine ⟨by simp [h1.len], fun j s hj => ?_, fun j k x hx hy => ?_, fun j hj => ?_⟩
    · by_cases z : j = i
      · subst z
        rw [List.getElem?_set_self hi] at hj
        cases hj
        exact ⟨some v, e1, v, rfl, by rw [setφ_same]; exact own'⟩
      · rw [List.getElem?_set_ne (Ne.symm z)] at hj
        obtain ⟨o', q1, q2⟩ := h1.ok j s hj
        refine ⟨o', q1, ?_⟩
        rw [setφ_ne z]
        exact q2.grow leG fun x hx u e => keep x u (fun hm => z (h1.apart j i x hx hm)) e
    · rcases mem_setφ hx with ⟨e, hx⟩ | ⟨e, hx⟩ <;> rcases mem_setφ hy with ⟨e', hy⟩ | ⟨e', hy⟩
      · rw [e, e']
      · exact absurd hy (hfp2 k x e' hx)
      · exact absurd hx (hfp2 j x e hy)
      · exact h1.apart j k x hx hy
    · have z : j ≠ i := by
        intro z
        rw [List.length_set, z] at hj
        omega
      rw [setφ_ne z]
      exact h1.out j (by simpa using hj)
  · rcases mem_setφ hx with ⟨_, q⟩ | ⟨hj, q⟩
    · rcases hfp x q with w | ⟨w1, w2⟩
      · refine ⟨(thin x ?_ (h3 i x w).1).none (h1.nt i x w), (h3 i x w).2⟩
        exact h1.there i x w
      · refine ⟨w2, .inl ?_⟩
        cases z : B.H x with
        | none => rfl
        | some u => exact absurd w1 (A.live x (some_ne z))
    · exact ⟨(thin x (h1.there j x q) (h3 j x q).1).none (h1.nt j x q), (h3 j x q).2⟩

end Sim

set_option Elab.async false
set_option autoImplicit false
set_option linter.all false
set_option maxRecDepth 100000
set_option maxHeartbeats 1000000
namespace LR
open PySem PySem.Spec PyProof.Rows RT
section
variable {prog : Program} {w : World} {A : Around} {E : Value → Shared → Prop} {s : Shared}
/-- S (empty) is filled from the reversed iterator at it -/
theorem ext_rev {R : Result → Shared → Prop} {S it l : Addr} {items : Array Value} {c₀ : Nat} (hh : A.handled = none) (hi : s.heap.IsRevIter it l ((items.size : Int) - 1)) (hl : s.heap.IsList l items) (hne : l ≠ it) (h1 : S ≠ it) (h2 : S ≠ l) (hS : s.heap.get? S = some { cls := .type "list", data := .seq #[] c₀ }) (hn : items.size ≤ sizeLine)
    (hR : ∀ h' tk acc c, (∀ b o, b ≠ S → b ≠ it → s.heap.get? b = some o → h'.get? b = some o) → h'.get? S = some { cls := .type "list", dict := none, data := .seq acc c, slots := #[] } → ItemsOf (fun i v => items[items.size - 1 - i]? = some v) acc items.size → R (.ok (.ret .none)) { s with heap := h', toks := tk }) :
    wpAny (model prog w) A.in1 (Builtin.List.listExtendWith (.ref S) (.ref it) .none)
      (fun fin s' => match fin with | .done f => R (.ok f) s' | .again c' => c'.quiet = true ∧ codeAny (model prog w) A c' R s') (fun e s' => R (.error e) s') s := by
  have W := (Walks.listRev (prog := prog) (w := w) (A := A.in1) hh it l hne items).toS
  have hf : S ∉ [it, l] := by simp only [List.mem_cons, List.not_mem_nil, or_false, not_or]; exact ⟨h1, h2⟩
  have hT : s.TypeIs (.ref it) "list_reverseiterator" := hi.typeIs
  have hr : Builtin.List.listSameRef (.ref S) (.ref it) = false := by simp [Builtin.List.listSameRef, h1]
  unfold Builtin.List.listExtendWith
  refine wpAny_bind (wpAny_typeOf hT ?_)
  rw [if_neg (by rw [hr]; decide)]
  refine wpAny_bind (wpAny_pyIter_revIter hi ?_)
  refine wpAny_bind (wpAny_holding ?_)
  unfold Builtin.List.listLengthHint
  refine wpAny_bind (wpAny_specialOf hT nolen_lri ?_)
  show wpAny _ A.in1 (specialOf (Value.ref it) (Str.ofString "__length_hint__") >>= _) _ _ _
  refine wpAny_bind (wpAny_specialOf hT hint_lri ?_)
  generalize hd : ("list_reverseiterator.__length_hint__" : String) = idh
  wp_delta
  rw [show splitId idh = some ("list_reverseiterator", "__length_hint__") from by subst hd; decide +kernel]
  subst hd
  refine wpAny_bind (wpAny_isInstance (b := true) hT (by rw [isSubtype_type]; kernel_rfl) ?_)
  refine wpAny_pure ?_
  rw [if_neg (by decide)]
  have e0 : ((items.size : Nat) : Int) - 1 - ((0 : Nat) : Int) = (items.size : Int) - 1 := by omega
  refine wpAny_pure ⟨plainId_quiet F.plain_extend_loop _, codeAny_extend_loopS W hn S hf .none items.size 0 _ _ _ rfl (Nat.zero_le _) ⟨Nat.zero_le _, by rw [e0]; exact hi, hl⟩ hS (ItemsOf.nil _) fun s' acc c hm hS' hacc => ?_⟩
  rw [Moved.eq_with hm]
  refine hR s'.heap s'.toks acc c (fun b o hb hb2 e => hm.heap b o (fun hmem => ?_) e) hS' hacc
  rcases List.mem_cons.mp hmem with e' | hmem
  · exact hb e'
  · exact hb2 (List.mem_singleton.mp hmem)
theorem init_rev {R : Result → Shared → Prop} {S it l : Addr} {items : Array Value} (hh : A.handled = none) (hi : s.heap.IsRevIter it l ((items.size : Int) - 1)) (hl : s.heap.IsList l items) (hne : l ≠ it) (h1 : S ≠ it) (h2 : S ≠ l) (hS : s.heap.get? S = some { cls := .type "list", data := .seq #[] }) (hn : items.size ≤ sizeLine)
    (hR : ∀ h' tk acc c, (∀ b o, b ≠ S → b ≠ it → s.heap.get? b = some o → h'.get? b = some o) → h'.get? S = some { cls := .type "list", dict := none, data := .seq acc c, slots := #[] } → ItemsOf (fun i v => items[items.size - 1 - i]? = some v) acc items.size → R (.ok (.ret .none)) { s with heap := h', toks := tk }) :
    wpAny (model prog w) A.in1 (Builtin.«list.__init__» ⟨[.ref S, .ref it], []⟩)
      (fun fin s' => match fin with | .done f => R (.ok f) s' | .again c' => c'.quiet = true ∧ codeAny (model prog w) A c' R s') (fun e s' => R (.error e) s') s := by
  show wpAny _ A.in1 (do
    let was ← Builtin.List.listItems (.ref S)
    Builtin.List.listUpdate (.ref S) (fun _ => #[])
    letGo was.toList.reverse
    Builtin.List.listExtendWith (.ref S) (.ref it) .none) _ _ s
  refine wpAny_bind ?_
  unfold Builtin.List.listItems
  refine wpAny_bind (wpAny_seqItems hS rfl (wpAny_pure ?_))
  refine wpAny_bind ?_
  show wpAny _ A.in1 (updateSeq S fun _ => #[]) _ _ s
  refine wpAny_updateSeq hS rfl ?_
  refine wpAny_bind (wpAny_letGo ?_)
  have k : ∀ b o, b ≠ S → s.heap.get? b = some o → (s.heap.update S (Obj.mapSeq fun _ => (#[] : Array Value))).get? b = some o := fun b o hb e => by
    rw [Heap.get?_update_other _ _ (Ne.symm hb)]; exact e
  have hl2 : (s.heap.update S (Obj.mapSeq fun _ => (#[] : Array Value))).IsList l items := hl.at fun o e => k l o (Ne.symm h2) e
  exact ext_rev (s := { s with heap := s.heap.update S (Obj.mapSeq fun _ => (#[] : Array Value)) }) hh (hi.at fun o e => k it o (Ne.symm h1) e) hl2 hne h1 h2 (Heap.get?_update_self (Obj.mapSeq fun _ => (#[] : Array Value)) hS rfl) hn
    fun h' tk acc c q => hR h' tk acc c fun b o hb hb2 e => q b o hb hb2 (k b o hb e)
theorem call_list_rev {it l : Addr} {items : Array Value} {Q : Value → Shared → Prop} (hh : A.handled = none) (hi : s.heap.IsRevIter it l ((items.size : Int) - 1)) (hl : s.heap.IsList l items) (hne : l ≠ it) (hn : items.size ≤ sizeLine)
    (hQ : ∀ h' tk acc c, (∀ b o, b ≠ it → s.heap.get? b = some o → h'.get? b = some o) → h'.get? s.heap.objs.size = some { cls := .type "list", dict := none, data := .seq acc c, slots := #[] } → ItemsOf (fun i v => items[items.size - 1 - i]? = some v) acc items.size → Q (.ref s.heap.objs.size) { s with heap := h', toks := tk }) :
    wpAny (model prog w) A (call (.type "list") [.ref it]) Q E s := by
  obtain ⟨oi, hoi, _⟩ := id hi
  obtain ⟨ol, hol, _⟩ := id hl
  have n1 : s.heap.objs.size ≠ it := Nat.ne_of_gt (Heap.lt_size hoi)
  have n2 : s.heap.objs.size ≠ l := Nat.ne_of_gt (Heap.lt_size hol)
  refine callType_codes (Q₁ := fun obj s₁ => obj = .ref s.heap.objs.size ∧ s₁ = { s with heap := s.heap.push { cls := .type "list", data := .seq #[] } }) F.called_list (F.typeCall_list_1 _) F.entry_list_init
    (code_list_new _ ⟨rfl, rfl⟩) fun obj s₁ hb => ?_
  obtain ⟨rfl, rfl⟩ := hb
  have hS : (s.heap.push { cls := .type "list", data := .seq #[] }).get? s.heap.objs.size = some { cls := .type "list", data := .seq #[] } := Heap.get?_push_size _ rfl
  refine ⟨⟨_, hS, rfl⟩, F.args_list_init_2 _ _, ?_⟩
  refine init_rev (A := A.in1) (s := { s with heap := s.heap.push { cls := .type "list", data := .seq #[] } }) hh (hi.at fun o e => Heap.get?_push_of_some _ e) (hl.push _) hne n1 n2 hS hn fun h' tk acc c q hS' hacc => ⟨rfl, ?_⟩
  exact hQ h' tk acc c (fun b o hb e => q b o (Nat.ne_of_lt (Heap.lt_size e)) hb (Heap.get?_push_of_some _ e)) hS' hacc
end
end LR
namespace Sim
open PySem PySem.Spec PyProof.Rows L2 RT
open Rp (rep)
open At1 (toV)
/-- list(reversed(x)), x a list: a new list -/
def tListRev (K : PySem.W.Frag) (te : TE) : TE := fun σ H Q => te σ H fun v H1 => ∃ (a : Addr) (xs : List V), v = .ref a ∧ SqL K H1 a xs ∧ ∀ q, H1 q = none → Q (.ref q) (upd H1 q (.lst xs.reverse))
theorem pe_listRev {X : Cx} {e : Expr} {te : TE} {p p2 pos pos2 : Pos} (hc : X.calm = true) (hg : Gl X "list") (hm : X.mg "list" = none) (hg2 : Gl X "reversed") (hm2 : X.mg "reversed" = none) (he : PE X e te)
    (s1 : starEach [e] X.env = (false, eval e X.env) :: starEach [] X.env := by rfl)
    (s2 : starEach [.Call (.Name "reversed" p2) [e] [] pos2] X.env = (false, eval (.Call (.Name "reversed" p2) [e] [] pos2) X.env) :: starEach [] X.env := by rfl) :
    PE X (.Call (.Name "list" p) [.Call (.Name "reversed" p2) [e] [] pos2] [] pos) (tListRev X.K te) := by
  refine ⟨fun pins s σ H Q I h => ?_⟩
  refine Call_ (ld_blt I hg hm (by decide +kernel : bootBuiltins "list" = some (.type "list")) (callWith_type1 (args_cons ?_ s2) s2 rfl))
  refine Call_ (ld_blt I hg2 hm2 boot_reversed (callWith_type1 (args_cons (thn (he.run pins s σ H _ I h) fun u s3 ⟨v, H1, I1, r1, q1⟩ => args_nil ?_) s1) s1 rfl))
  obtain ⟨a, xs, ev, hq, q⟩ := q1
  subst ev
  obtain rfl : u = Value.ref a := r1
  obtain ⟨its, rv, pl, hz⟩ := I1.list hq
  refine call_reversed_list pl.isList (args_nil ?_)
  have hl := pl.isList
  obtain ⟨ol, hol, _⟩ := id hl
  have hne : a ≠ s3.heap.objs.size := Nat.ne_of_lt (Heap.lt_size hol)
  have hn : its.toArray.size ≤ sizeLine := by rw [List.size_toArray, ← rv.length]; exact hz
  have keep0 : ∀ b o, s3.heap.get? b = some o → (s3.heap.push (revObj a ((its.toArray.size : Int) - 1))).get? b = some o := fun b o e => Heap.get?_push_of_some _ e
  have I2 : Inv X pins σ H1 { s3 with heap := s3.heap.push (revObj a ((its.toArray.size : Int) - 1)) } := I1.kept (t' := s3.toks) keep0
  obtain ⟨f0, f1, f2, f3, f4, f5⟩ := I1.fpOk (H' := H1) (b := s3.heap.objs.size) (Nat.le_refl _) (I1.hok.fresh (Nat.le_refl _))
  refine LR.call_list_rev (s := { s3 with heap := s3.heap.push (revObj a ((its.toArray.size : Int) - 1)) }) (I1.ok.hd hc) ⟨_, Heap.get?_push_size _ rfl, rfl, rfl⟩ (hl.push _) hne hn fun h' tk acc c hk hS hi => ?_
  have new : ObjOk X.prog X.w (upd H1 (s3.heap.push (revObj a ((its.toArray.size : Int) - 1))).objs.size (.lst xs.reverse)) h' (s3.heap.push (revObj a ((its.toArray.size : Int) - 1))).objs.size (.lst xs.reverse) :=
    ⟨by rw [List.length_reverse]; exact hz, acc.toList, c, vals_rev rv hi, by rw [Array.toArray_toList]; exact hS⟩
  exact ⟨.ref (s3.heap.push (revObj a ((its.toArray.size : Int) - 1))).objs.size, _, I2.turnedNew (t' := tk) (ch := [s3.heap.objs.size]) (fun b ob hb q => hk b ob (fun z => hb (List.mem_singleton.mpr z)) q) (fun b hb => by
    rw [List.mem_singleton.mp hb]
    exact ⟨f0, f1, f2, f3, f4, f5⟩) (Nat.le_refl _) new, rfl, q _ (I2.hok.fresh (Nat.le_refl _))⟩
section
open K1 (key)
variable {X : Cx} {Γ : Gm} {B : Bs} {ρ : Sto} {N : List Str} {sc : Scope} {k : Nat} {pos p p2 pos2 : Pos} {e a b tg it elt kx : Expr}
variable {α γ : Type} [Rp α] [Rp γ]
theorem xn_listRev (c : Cok X Γ N sc k) {m : Option (List α)} (ha : XR X Γ B ρ e m) (hg : Glb sc "list") (hm : Γ.mg "list" = none) (hg2 : Glb sc "reversed") (hm2 : Γ.mg "reversed" = none) (s1 : starEach [e] X.env = (false, eval e X.env) :: starEach [] X.env := by rfl)
    (s2 : starEach [.Call (.Name "reversed" p2) [e] [] pos2] X.env = (false, eval (.Call (.Name "reversed" p2) [e] [] pos2) X.env) :: starEach [] X.env := by rfl) :
    XN X Γ B ρ (.Call (.Name "list" p) [.Call (.Name "reversed" p2) [e] [] pos2] [] pos) (m.bind fun xs => some xs.reverse) := imE (pe_listRev c.calm (c.gl hg) (by rw [c.hmg]; exact hm) (c.gl hg2) (by rw [c.hmg]; exact hm2) ha s1 s2) fun σ H Q ⟨G, z, A, e, q⟩ => by
  cases m with
  | none => cases e
  | some xs =>
    cases e
    exact ⟨G, xs, A, rfl, fun p vs G1 H1 g1 hp r1 => ⟨p, vs, rfl, SqL.of hp, fun q' hq => q q' _ G1 H1 g1 hq r1.reverse⟩⟩
/-- the keys of a dict -/
theorem xi_keys {κ : Type} [K1 κ] [At1 κ] [KAt κ] {m : Option (DK κ α)} (h : XE X Γ B ρ e m) : XI X Γ B ρ tg e (m.bind fun d => some (d.l.map (·.1))) := imI (pi_keys h) fun σ H R ⟨G, zs, A, e, q⟩ => by
  cases m with
  | none => cases e
  | some d =>
    cases e
    refine ⟨G, d, A, rfl, fun v G1 H1 g1 ⟨a, kvs, ob, h1, h2, h3⟩ => ⟨a, ob, h1, .inl ⟨kvs, g1.sub _ _ h2, q _ G1 H1 g1 ⟨fun i H v H' => H' = H ∧ ∃ k x, kvs[i]? = some (k, x) ∧ v = kV k, ?_, ?_⟩⟩⟩⟩
    · have hl : (d.l.map (·.1)).length = kvs.length := by rw [List.length_map]; exact (Paired.length h3).symm
      rw [hl]
      exact (walk_keys (d := a) (o := ob) (kvs := kvs)).mono (fun H ⟨G2, l2, s2⟩ => s2 _ _ (l2 _ _ h2)) (fun i H x H' _ _ y => y)
    · rintro i H v H2 hi ⟨y1, k, x, y2, y3⟩ G2 l2 s2
      subst y1
      obtain ⟨q, hq, r⟩ := paired_get h3 y2
      refine ⟨q.1, G2, by rw [List.getElem?_map, hq]; rfl, .refl s2, ?_⟩
      show v = toV q.1
      rw [y3, ← KAt.same, ← r.1]
/-- d.get(k) -/
theorem xe_get1 (c : Cok X Γ N sc k) {κ : Type} [K1 κ] [At1 κ] [KAt κ] [DecidableEq κ] {md : Option (List (κ × α))} {mk : Option κ} {apos : Pos} (ha : XDK X Γ B ρ a md) (hb : XE X Γ B ρ b mk) (nn : ∀ Γ G v (x : α), rep Γ G v x → v ≠ .non) (m1 : M1 X a "get" apos b pos) : XE X Γ B ρ (.Call (.Attribute a "get" apos) [b] [] pos) (b2 md mk fun d x => some (look d x)) := imE (pe_dget1 c.hu ha hb m1) fun σ H Q ⟨G, z, A, e, q⟩ => by
  cases md with
  | none => cases e
  | some d =>
    cases mk with
    | none => cases e
    | some x =>
      cases e
      refine ⟨G, d, A, rfl, fun p kvs G1 H1 g1 hp r1 => ⟨p, rfl, .inl ⟨kvs, hp⟩, G1, x, A.grow g1, rfl, fun v2 G2 H2 g2 r2 => ?_⟩⟩
      have rd : Rd H2 p (.dK kvs) := by
        rcases hp with hp | ⟨ob, hp⟩
        · exact .inl (g2.leH _ _ hp)
        · exact .inr ⟨ob, g2.leH _ _ hp⟩
      refine ⟨valV kvs (key x), .inl ⟨kvs, key x, rd, by rw [KAt.same]; exact rep1 r2, rfl⟩, q _ G2 H2 (g1.trans g2) ?_⟩
      cases hl : look d x with
      | none => rw [(RpK.look (x := x) r1).2 hl]; rfl
      | some y =>
        obtain ⟨v', hv, rv⟩ := (RpK.look (x := x) r1).1 y hl
        rw [hv]
        exact ⟨nn _ _ _ _ rv, Rp.mono g2.leG rv⟩
end
end Sim

set_option Elab.async false
set_option autoImplicit false
set_option linter.all false
set_option maxRecDepth 100000
set_option maxHeartbeats 1000000
namespace Sim
open PySem L2
open Rp (rep)
open At1 (toV)
open K1 (key)
open KT (keys)
open Ow (own)
open RpA (repA stoA)

/-- a kind of value has one built-in type -/
class TyN (α : Type) [Rp α] (n : outParam String) : Prop where
  ty : ∀ {Γ : Gm} {G H : Hp} {v : V} {a : α} {K : PySem.W.Frag}, rep Γ G v a → Sub G H → TyOf K H v (.type n)
instance : TyN Int "int" := ⟨fun h _ => by rw [rep1 h]; exact .int _⟩
instance : TyN Bool "bool" := ⟨fun h _ => by rw [rep1 h]; exact .bl _⟩
instance : TyN Tt "str" := ⟨fun h _ => by rw [rep1 h]; exact .str _⟩
instance {α : Type} [Rp α] : TyN (List α) "list" := ⟨fun ⟨a, vs, h1, h2, h3⟩ s => by rw [h1]; exact .lst (s _ _ h2)⟩
instance {α β : Type} [Rp α] [Rp β] : TyN (α × β) "tuple" := ⟨fun ⟨a, x, y, h1, h2, h3⟩ s => by rw [h1]; exact .tup (s _ _ h2)⟩
instance {α β γ : Type} [Rp α] [Rp β] [Rp γ] : TyN (T3 α β γ) "tuple" := ⟨fun ⟨a, x, y, z, h1, h2, h3⟩ s => by rw [h1]; exact .tup (s _ _ h2)⟩
section
variable {X : Cx} {Γ : Gm} {B : Bs} {L β C : Type} [Rp β] {F : Kt L β C} {ρ ρ' : Sto} {N : List Str} {sc : Scope} {k : Nat} {fx : List Nat} {W : WX} {M : List Addr} {pos p p' p2 : Pos} {e a b o tg it elt kx : Expr} {st : Stmt} {sts : List Stmt} {es : List Expr} {S : Type} {sto : S → Sto}
variable {α γ : Type} [Rp α] [Rp γ]
/-- isinstance(x, T), T a built-in type -/
theorem xe_isi (c : Cok X Γ N sc k) {n T : String} [TyN α n] {x : Str} {r : Bool} {m : Option α} (he : XE X Γ B ρ e m) (hg : Glb sc "isinstance") (hm : Γ.mg "isinstance" = none) (hg2 : Glb sc x) (hm2 : Γ.mg x = none) (hv : bootBuiltins x = some (.type T)) (hr : kitB n T = some r) (hn : x ≠ "__name__" := by decide) (hdb : (x == ("__debug__" : Str)) = false := by decide)
    (s1 : starEach [e, .Name x p2] X.env = (false, eval e X.env) :: starEach [.Name x p2] X.env := by rfl) (s2 : starEach [.Name x p2] X.env = (false, eval (.Name x p2) X.env) :: starEach [] X.env := by rfl) (hpl : (backTo pos (starEach [.Name x p2] X.env)).any (·.1) = false := by rfl) :
    XE X Γ B ρ (.Call (.Name "isinstance" p) [e, .Name x p2] [] pos) (m.bind fun _ => some r) :=
  imE (pe_callB call_isi (c.gl hg) (by rw [c.hmg]; exact hm) PyProof.Rows.boot_isinstance (pa_cons he (pa_cons (pe_bltn (c.gl hg2) (by rw [c.hmg]; exact hm2) hv (show RelV (.ty T) (.type T) from rfl) hn hdb) pa_nil s2) s1) (he := s1) (hpl := hpl)) fun σ H Q ⟨G, z, A, e, q⟩ => by
  cases m with
  | none => cases e
  | some w =>
    cases e
    exact ⟨G, w, A, rfl, fun v G1 H1 g1 r1 => ⟨v, .ty T, .type n, .type T, r, rfl, .ty T, .base (TyN.ty r1 g1.sub), kit_ty hr, q _ G1 H1 g1 rfl⟩⟩
/-- len of a pair -/
theorem xe_lenP (c : Cok X Γ N sc k) {m : Option (α × γ)} (ha : XE X Γ B ρ a m) (hg : Glb sc "len") (hm : Γ.mg "len" = none) (s1 : starEach [a] X.env = (false, eval a X.env) :: starEach [] X.env := by rfl) (hpl : (backTo pos (starEach [] X.env)).any (·.1) = false := by rfl) : XE X Γ B ρ (.Call (.Name "len" p) [a] [] pos) (m.bind fun _ => some (2 : Int)) :=
  imE (pe_callB call_len_seq (c.gl hg) (by rw [c.hmg]; exact hm) PySem.boot_len (pa_cons ha pa_nil s1) (he := s1)) fun σ H Q ⟨G, z, A, e, q⟩ => by
  cases m with
  | none => cases e
  | some xs =>
    cases e
    exact ⟨G, xs, A, rfl, fun v G1 H1 g1 ⟨p, x, y, h1, h2, _⟩ => ⟨p, [x, y], by rw [h1], .inr (SqT.of (g1.sub.tup h2)), q _ G1 H1 g1 rfl⟩⟩
/-- xs.index(x), plain items -/
@[irreducible] def pindex {α : Type} [DecidableEq α] (xs : List α) (x : α) : Option Int := if x ∈ xs then some ((xs.findIdx fun y => decide (y = x) : Nat) : Int) else none
theorem xe_index {α : Type} [At1 α] [DecidableEq α] [AtE α] {mx : Option (List α)} {my : Option α} {apos : Pos} (ha : XR X Γ B ρ a mx) (hb : XE X Γ B ρ b my) (hbase : attributeBase a "index" X.env (eval a X.env) = eval a X.env := by rfl)
    (hfew : ((backTo pos (starEach [b] X.env)).all (fun x => !x.1) && (backToKw pos (keywordEach [] X.env)).all (fun x => x.1.isSome)
      && decide ([b].length + ([] : List Keyword).length + (if ([] : List Keyword).isEmpty then 0 else 1) < 30)) = true := by rfl)
    (hline : (apos.endLine == pos.line) = true := by rfl) (hs : starEach [b] X.env = (false, eval b X.env) :: starEach [] X.env := by rfl) :
    XE X Γ B ρ (.Call (.Attribute a "index" apos) [b] [] pos) (b2 mx my pindex) :=
  imE (pe_bm PySem.F.plainAttrs_list PySem.F.slot_list_index PySem.F.type_list_index mt_index ha (pa_cons hb pa_nil hs) hbase hfew hline hs (by rfl)) fun σ H Q ⟨G, z, A, e, q⟩ => by
  cases mx with
  | none => cases e
  | some xs =>
    cases my with
    | none => cases e
    | some x =>
      obtain ⟨hm, e⟩ := ite_some (by have qq : pindex xs x = some z := e; unfold pindex at qq; exact qq)
      subst e
      refine ⟨G, xs, A, rfl, fun p vs G1 H1 g1 hp r1 => ⟨.inl ⟨rfl, vs, SqL.of hp⟩, G1, x, A.grow g1, rfl, fun v G2 H2 g2 r2 => ?_⟩⟩
      have hv := r1.toV
      have hlt : (xs.findIdx fun y => decide (y = x)) < xs.length := List.findIdx_lt_length_of_exists ⟨x, hm, decide_eq_true rfl⟩
      have hx : xs[xs.findIdx fun y => decide (y = x)] = x := of_decide_eq_true (List.findIdx_getElem (xs := xs) (p := fun y => decide (y = x)) (w := hlt))
      refine ⟨p, vs, toV x, xs.findIdx fun y => decide (y = x), toV x, rfl, by rw [rep1 r2], SqL.of (g2.leH _ _ hp), At1.flat x, by rw [hv]; exact flat_map xs, ?_, ?_, fun j z hj hz => ?_, q _ G2 H2 (g1.trans g2) rfl⟩
      · rw [hv, List.getElem?_map, List.getElem?_eq_getElem hlt, hx]; rfl
      · rw [AtE.eqv]; exact decide_eq_true rfl
      · rw [hv, List.getElem?_map] at hz
        have hjl : j < xs.length := Nat.lt_trans hj hlt
        rw [List.getElem?_eq_getElem hjl] at hz
        cases hz
        show eqV (toV xs[j]) (toV x) = false
        rw [AtE.eqv]
        have := List.not_of_lt_findIdx hj
        simpa using this
end
end Sim

set_option Elab.async false
set_option autoImplicit false
set_option linter.all false
set_option maxRecDepth 100000
set_option maxHeartbeats 1000000
namespace Sim
open PySem L2
open Rp (rep)
open At1 (toV)
open K1 (key)
open KT (keys)
open Ow (own)
open RpA (repA stoA)

/-- a new dict -/
def cKN (Γ : Gm) (B : Bs) (ρ : Sto) {κ α : Type} [K1 κ] [Rp α] (m : Option (List (κ × α))) : TE := fun σ H Q => ∃ G xs, At Γ B ρ G H σ ∧ m = some xs ∧ ∀ p vs G1 H1, Grow G H G1 H1 → H1 p = none → RpK Γ G1 vs xs → Q (.ref p) (upd H1 p (.dK vs))
abbrev XKN (X : Cx) (Γ : Gm) (B : Bs) (ρ : Sto) (e : Expr) {κ α : Type} [K1 κ] [Rp α] (m : Option (List (κ × α))) : Prop := PE X e (cKN Γ B ρ m)
def dcM {α κ γ : Type} [DecidableEq κ] (t : α → Option Bool) (fk : α → Option κ) (fv : α → Option γ) : List (κ × γ) → List α → Option (List (κ × γ))
  | d, [] => some d
  | d, x :: r => (t x).bind fun b => if b = true then (fk x).bind fun y => (fv x).bind fun z => dcM t fk fv (put d y z) r else dcM t fk fv d r
@[irreducible] def dcB {α κ γ : Type} [DecidableEq κ] (t : α → Option Bool) (fk : α → Option κ) (fv : α → Option γ) (xs : List α) : Option (List (κ × γ)) := if xs.length ≤ BIG then dcM t fk fv [] xs else none
theorem put_len {κ γ : Type} [DecidableEq κ] (d : List (κ × γ)) (y : κ) (z : γ) : (put d y z).length ≤ d.length + 1 := by
  unfold put
  split <;> simp
/-- a dict comprehension over a walk -/
theorem dc_it {J : It} {n : Nat} {G : Hp → Prop} {Y : Nat → Hp → V → Hp → Prop} (w : Walk J n G Y) {g : TG} {tt : TT} {tk tv : TE} {vs : List Nat} {σ : St} {H1 : Hp} {D : Addr} {Qd : Hp → Prop} (Pv : Nat → Hp → Prop) (h0 : Pv 0 (upd H1 D (.dK []))) (hG : ∀ i H, i ≤ n → Pv i H → G H)
    (hs : ∀ i x H H', i < n → Pv i H → Y i H x H' → g x (wipe σ vs) H' fun σ2 H2 => wipe σ2 vs = wipe σ vs ∧ tt σ2 H2 fun b H3 =>
      if b = true then tk σ2 H3 fun y H4 => tv σ2 H4 fun z H5 => ∃ kvs k, y = kV k ∧ H5 D = some (.dK kvs) ∧ kvs.length < sizeLine ∧ Pv (i + 1) (upd H5 D (.dK (putK kvs k z))) else Pv (i + 1) H3) (hd : ∀ H, Pv n H → Qd H) :
    ∃ W : Nat → Nat → Hp → Prop, (∃ m, W 0 m (upd H1 D (.dK []))) ∧ ∀ i m H, W i m H →
      (J.stop i H ∧ Qd H) ∨ (J.go i H ∧ ∃ Nx : Hp → Prop, (∀ H', Nx H' → ∃ m', m' < m ∧ W (i + 1) m' H') ∧ ∀ x H', J.yld i H x H' → g x (wipe σ vs) H' fun σ2 H2 => wipe σ2 vs = wipe σ vs ∧ tt σ2 H2 fun b H3 =>
        if b = true then tk σ2 H3 fun y H4 => tv σ2 H4 fun z H5 => ∃ kvs k, y = kV k ∧ H5 D = some (.dK kvs) ∧ kvs.length < sizeLine ∧ Nx (upd H5 D (.dK (putK kvs k z))) else Nx H3) := by
  refine ⟨fun i m H => m = n - i ∧ i ≤ n ∧ Pv i H, ⟨n, rfl, Nat.zero_le _, h0⟩, fun i m H ⟨em, hi, p⟩ => ?_⟩
  by_cases hl : i < n
  · exact .inr ⟨w.goes i H hl (hG i H hi p), Pv (i + 1), fun H' p' => ⟨n - (i + 1), by omega, rfl, hl, p'⟩, fun x H' y => hs i x H H' hl p (w.yields i H x H' hl (hG i H hi p) y)⟩
  · obtain rfl : i = n := by omega
    exact .inl ⟨w.stops H (hG i H hi p), hd H p⟩
section
variable {X : Cx} {Γ : Gm} {B : Bs} {L β C : Type} [Rp β] {F : Kt L β C} {ρ ρ' : Sto} {N : List Str} {sc : Scope} {k : Nat} {fx : List Nat} {W : WX} {M : List Addr} {pos p p' p2 : Pos} {e a b o tg it elt kx vx : Expr} {st : Stmt} {sts : List Stmt} {es : List Expr} {S : Type} {sto : S → Sto}
variable {α γ κ : Type} [Rp α] [Rp γ] [K1 κ] [At1 κ] [KAt κ] [DecidableEq κ]
/-- a step of growth beside the dict in the making, then an item -/
theorem Grow.itemK {G0 H0 G1 H1 G2 H2 : Hp} {D : Addr} {o o' : HO} (g : Grow G0 H0 G1 H1) (h0 : H0 D = none) (hG : G1 D = none) (hD : H1 D = some o) (g2 : Grow G1 H1 G2 H2) (no : ∀ ws, o ≠ .tup ws := by intro ws e; cases e) :
    Grow G0 H0 G2 (upd H2 D o') ∧ G2 D = none ∧ H2 D = some o := by
  have hG2 : G2 D = none := (g2.thin D (some_ne hD) hG).none fun ws e => by rw [hD] at e; exact no ws (Option.some.inj e)
  have g3 := g.trans g2
  refine ⟨⟨g3.leG, fun a o e => ?_, fun a o e => ?_, g3.thin⟩, hG2, g2.leH _ _ hD⟩
  · have z : a ≠ D := fun z => by rw [z, h0] at e; cases e
    rw [upd_ne z]; exact g3.leH a o e
  · have z : a ≠ D := fun z => by rw [z, hG2] at e; cases e
    rw [upd_ne z]; exact g3.sub a o e
theorem dc_sim {i : Nat} {mxs : Option (List α)} {t : α → Option Bool} {fk : α → Option κ} {fv : α → Option γ} (hf : i ∉ B.fx) (hρ : i < ρ.length) {σ : St} {H : Hp} {Q : VK} (h : cKN Γ B ρ (mxs.bind (dcB t fk fv)) σ H Q) :
    tDc (cI Γ B ρ mxs) (gName i) (fun σ H Q => ∃ a, cT Γ B (ρ.set i (vl a)) (t a) σ H Q) (fun σ H Q => ∃ a, cE Γ B (ρ.set i (vl a)) (fk a) σ H Q) (fun σ H Q => ∃ a, cE Γ B (ρ.set i (vl a)) (fv a) σ H Q) [i] σ H Q := by
  obtain ⟨G, zs, A, e, q⟩ := h
  cases mxs with
  | none => cases e
  | some xs =>
    obtain ⟨hl, e⟩ : xs.length ≤ BIG ∧ dcM t fk fv [] xs = some zs := by
      have e : dcB t fk fv xs = some zs := e
      unfold dcB at e
      by_cases hc : xs.length ≤ BIG
      · rw [if_pos hc] at e; exact ⟨hc, e⟩
      · rw [if_neg hc] at e; cases e
    refine ⟨G, xs, A, rfl, fun J G' H' g ⟨Y, hw, hy⟩ D hD => ?_⟩
    have hGD : G' D = none := g.sub.none hD
    refine dc_it (g := gName i) (tt := fun σ H Q => ∃ a, cT Γ B (ρ.set i (vl a)) (t a) σ H Q) (tk := fun σ H Q => ∃ a, cE Γ B (ρ.set i (vl a)) (fk a) σ H Q) (tv := fun σ H Q => ∃ a, cE Γ B (ρ.set i (vl a)) (fv a) σ H Q) (vs := [i]) (σ := σ) (Qd := fun H2 => Q (.ref D) H2) hw (fun j H2 => ∃ G1 vs ys, Grow G' H' G1 H2 ∧ G1 D = none ∧ H2 D = some (.dK vs) ∧ RpK Γ G1 vs ys ∧ ys.length ≤ j ∧ dcM t fk fv ys (xs.drop j) = some zs)
      ⟨G', [], [], Grow.newO g.sub hD _, hGD, upd_same, .nil, Nat.le_refl _, e⟩ (fun j H2 _ ⟨G1, vs, ys, g1, _⟩ => ⟨G1, g1.leG, g1.sub⟩) ?_ ?_
    · rintro j v H2 H3 hj ⟨G1, vs, ys, g1, hG1, hD1, r1, hl1, e1⟩ y
      obtain ⟨x0, G2, hx0, g2, rv⟩ := hy j H2 v H3 hj y G1 g1.leG g1.sub
      have ed : xs.drop j = x0 :: xs.drop (j + 1) := by
        obtain ⟨h1, h2⟩ := List.getElem?_eq_some_iff.mp hx0
        rw [List.drop_eq_getElem_cons h1, h2]
      rw [ed] at e1
      unfold dcM at e1
      have A2 := ((A.grow g).grow g1).grow g2
      have A3 : At Γ B (ρ.set i (vl x0)) G2 H3 ((σ.set i none).set i (some v)) := by
        have := (A2.wiped i hf).setV (i := i) (by simpa using hρ) rv hf
        simpa using this
      show wipe ((wipe σ [i]).set i (some v)) [i] = wipe σ [i] ∧ _
      refine ⟨wipe_set1, ?_⟩
      cases hb : t x0 with
      | none => rw [hb] at e1; cases e1
      | some b =>
        rw [hb] at e1
        refine ⟨x0, G2, b, A3, hb, fun G4 H4 g4 => ?_⟩
        cases b with
        | false =>
          have e1 : dcM t fk fv ys (xs.drop (j + 1)) = some zs := e1
          obtain ⟨z1, z2, z3⟩ := Grow.itemK (o' := .dK vs) g1 hD hG1 hD1 (g2.trans g4)
          exact ⟨G4, vs, ys, ⟨z1.leG, ((g1.trans g2).trans g4).leH, ((g1.trans g2).trans g4).sub, z1.thin⟩, z2, z3, r1.mono (g2.trans g4).leG, by omega, e1⟩
        | true =>
          have e1 : (fk x0).bind (fun y => (fv x0).bind fun z => dcM t fk fv (put ys y z) (xs.drop (j + 1))) = some zs := e1
          cases hfk : fk x0 with
          | none => rw [hfk] at e1; cases e1
          | some y =>
            cases hfv : fv x0 with
            | none => rw [hfk, hfv] at e1; cases e1
            | some z =>
              rw [hfk, hfv] at e1
              have e1 : dcM t fk fv (put ys y z) (xs.drop (j + 1)) = some zs := e1
              refine ⟨x0, G4, y, A3.grow g4, hfk, fun wk G5 H5 g5 r5 => ⟨x0, G5, z, A3.grow (g4.trans g5), hfv, fun wv G6 H6 g6 r6 => ?_⟩⟩
              have gg := ((g2.trans g4).trans g5).trans g6
              obtain ⟨z1, z2, z3⟩ := Grow.itemK (o' := .dK (putK vs (key y) wv)) g1 hD hG1 hD1 gg
              have hvl : vs.length = ys.length := Paired.length r1
              have hb1 : xs.length ≤ 1000000 := hl
              refine ⟨vs, key y, by rw [KAt.same]; exact rep1 r5, z3, big_lt (show vs.length ≤ 1000000 by omega), G6, _, put ys y z, z1, z2, upd_same, (r1.mono gg.leG).put r6, ?_, e1⟩
              have := put_len ys y z
              omega
    · rintro H2 ⟨G1, vs, ys, g1, hG1, hD1, r1, _, e1⟩
      rw [List.drop_length] at e1
      have e1 : some ys = some zs := e1
      have e1 := Option.some.inj e1
      subst e1
      have := q D vs G1 (hideD H2 D) (g.trans (g1.hide hD hG1)) (if_pos rfl) r1
      rw [upd_hide hD1] at this
      exact this
/-- {kx: vx for x in it if t} -/
theorem xkn_dc (d : Cok X Γ N sc k) {x : Str} {px : Pos} {i : Nat} {ifs : List Expr} {scope sc' : Scope} {mxs : Option (List α)} {t : α → Option Bool} {fk : α → Option κ} {fv : α → Option γ} (hi : XI X Γ B ρ (.Name x px) it mxs) (hsc : relS scope sc = sc') (hB : blkC N sc scope [(x, i)] = true) (hx : N[i]? = some x) (hxl : scope.names.lookup x = some .local) (hxl' : sc'.names.lookup x = some .local) (hfx : B.fx = fx)
    (ht : ∀ X', Cok X' Γ N sc' k → ∀ a : α, PTs X' ifs (cT Γ B (ρ.set i (vl a)) (t a)))
    (hk : ∀ X', Cok X' Γ N sc' k → ∀ a : α, XE X' Γ B (ρ.set i (vl a)) kx (fk a))
    (he : ∀ X', Cok X' Γ N sc' k → ∀ a : α, XE X' Γ B (ρ.set i (vl a)) vx (fv a)) (hs : ∀ x, foldedSetIterable it X.env x = pure x := by intro _; rfl) (hρ : Nat.ble (i + 1) ρ.length = true := by rfl) (hfc : fx.contains i = false := by rfl) :
    XKN X Γ B ρ (.DictComp kx vx [⟨.Name x px, it, ifs, 0⟩] scope pos) (mxs.bind (dcB t fk fv)) := by
  have cb : ∀ (s : Shared) (H : Hp) (C : Addr) (cl : List (Str × Addr)) (fp : List Addr), Cok (X.blk s H scope (compEnvC scope cl C X.env) fp) Γ N sc' k := fun s H C cl fp => d.blk hsc
  exact imE (pe_dc (own := [(x, i)]) (g := gName i) (tt := fun σ H Q => ∃ a, cT Γ B (ρ.set i (vl a)) (t a) σ H Q) (tk := fun σ H Q => ∃ a, cE Γ B (ρ.set i (vl a)) (fk a) σ H Q) (tv := fun σ H Q => ∃ a, cE Γ B (ρ.set i (vl a)) (fv a) σ H Q) d.calm (by rw [d.hN]; exact d.nd) hi (by rw [d.hN, d.hsc]; exact blkOk_by hB)
    (fun s H C cl fp => pg_name (i := i) (by rw [(cb s H C cl fp).hN]; exact d.nd) (by rw [(cb s H C cl fp).hN]; exact hx) (by rw [(cb s H C cl fp).hsc]; exact .inl hxl') (.inr (by rw [(cb s H C cl fp).hsc]; exact hxl')))
    (fun s H C cl fp => ⟨fun pins s' σ H' Q I ⟨a, q⟩ => (ht _ (cb s H C cl fp) a).run pins s' σ H' Q I q⟩) (fun s H C cl fp => allE fun a => hk _ (cb s H C cl fp) a) (fun s H C cl fp => allE fun a => he _ (cb s H C cl fp) a) hs) fun σ H Q h => dc_sim (lc_pre hρ hfc hfx).1 (lc_pre hρ hfc hfx).2 h
end
end Sim

set_option Elab.async false
set_option autoImplicit false
set_option linter.all false
set_option maxRecDepth 100000
set_option maxHeartbeats 1000000
namespace Sim
open PySem PySem.Spec PyProof.Rows L2
open Rp (rep)
open At1 (toV)
open K1 (key)
open KT (keys)
open Ow (own)
open RpA (repA stoA)
/-- name = {..} on one line, the name a plain local -/
theorem ps_setDc {X : Cx} {i : Nat} {y : Str} {py : Pos} {kx vx tg iter : Expr} {ifs : List Expr} {scope : Scope} {own : List (Str × Nat)} {pos spos : Pos} {wi : TI} {g : TG} {tt : TT} {tk tv : TE} (hc : X.calm = true) (hN : X.N.Nodup) (hy : X.N[i]? = some y) (hyl : X.env.scope.names.lookup y = some .local)
    (hsw : swapsWith (.DictComp kx vx [⟨tg, iter, ifs, 0⟩] scope pos) (some (.Name y py)) spos.line X.env = pure true) (hi : PI X tg iter wi) (ok : BlkOk X.N X.env.scope scope own)
    (hg : ∀ (s : Shared) (H : Hp) (C : Addr) (cl : List (Str × Addr)) (fp : List Addr), PG (X.blk s H scope (compEnvC scope cl C X.env) fp) tg g) (ht : ∀ (s : Shared) (H : Hp) (C : Addr) (cl : List (Str × Addr)) (fp : List Addr), PTs (X.blk s H scope (compEnvC scope cl C X.env) fp) ifs tt)
    (hk : ∀ (s : Shared) (H : Hp) (C : Addr) (cl : List (Str × Addr)) (fp : List Addr), PE (X.blk s H scope (compEnvC scope cl C X.env) fp) kx tk)
    (he : ∀ (s : Shared) (H : Hp) (C : Addr) (cl : List (Str × Addr)) (fp : List Addr), PE (X.blk s H scope (compEnvC scope cl C X.env) fp) vx tv) (hs : ∀ x, foldedSetIterable iter X.env x = pure x := by intro _; rfl) :
    PS X (.Assign [.Name y py] (.DictComp kx vx [⟨tg, iter, ifs, 0⟩] scope pos) spos) (tAsg (tDc wi g tt tk tv (own.map (·.2))) (gName i)) := by
  refine ⟨fun pins s σ H D I h => ?_⟩
  rw [exec_Assign_Name_used _ _ _ _ hsw]
  refine wpAny_bind (wpAny_standAt (wpAny_bind ?_))
  show wpAny _ X.A (do
    let _ ← comprehension (.DictComp kx vx [⟨tg, iter, ifs, 0⟩] scope pos) scope X.env (firstIterPos [⟨tg, iter, ifs, 0⟩] pos) newDict false (eval iter X.env) (some (assign (.Name y py) X.env))) _ _ s
  have h2 : tDc wi g tt tk tv (own.map (·.2)) σ H (fun x H1 => gName i x σ H1 D.nx) := h
  refine wpAny_bind (thn (dc_core (Qf := fun _ s2 => SP X pins D .next s2) hc hN I hi ok hg ht hk he hs h2 fun L C s2 m H2 I2 q hn f => ?_) fun _ s2 hq => wpAny_pure (wpAny_pure hq))
  show wpAny _ _ (assign (.Name y py) X.env (.ref L)) _ _ _
  obtain ⟨f0, f1, f2, f3, f4, f5⟩ := f
  refine wpAny_assign_Name (store_ok2 (v := V.ref L) I2 hN hy (.inl hyl) rfl (fun s4 I4 ⟨a, sb, ha⟩ => ?_) (.inr hyl))
  have hne : C ≠ a := by
    rcases ha with z | z
    · rw [z]; exact f1
    · exact fun e => f4 y a z e.symm
  exact ⟨m, hn.sameBut sb hne, fun h5 sb5 => ⟨_, H2, I4.turned (t' := s4.toks) (fun b o hb e => (sb5.2 b hb).trans e) f0 f1 f3 f4 f5, q⟩⟩
section
variable {X : Cx} {Γ : Gm} {B : Bs} {L β C : Type} [Rp β] {F : Kt L β C} {ρ ρ' : Sto} {N : List Str} {sc : Scope} {k : Nat} {fx : List Nat} {W : WX} {M : List Addr} {pos p p' p2 : Pos} {e a b o tg it elt kx vx : Expr} {st : Stmt} {sts : List Stmt} {es : List Expr} {S : Type} {sto : S → Sto}
variable {α γ κ : Type} [Rp α] [Rp γ] [K1 κ] [At1 κ] [KAt κ] [DecidableEq κ]
theorem sw_dc (c : Cok X Γ N sc k) {gens : List Comprehension} {scope : Scope} {y : Str} {py pos : Pos} {line : Nat} : swapsWith (.DictComp kx vx gens scope pos) (some (.Name y py)) line X.env =
    pure ((if sc.kind.isAnnotationScope then ScopeKind.function else sc.kind) == .function && sc.names.lookup y == some .local && py.line == pos.line && !(scope.names.any fun (n, k) => n == y && (k == .local || k == .cell))) := by
  rw [← c.hsc]; rfl
theorem xp_setDcN (d : Dok X Γ B N sc k fx W M) {x y : Str} {px py : Pos} {i j : Nat} {ifs : List Expr} {scope sc' : Scope} {p : Pos} {mxs : Option (List α)} {t : α → Option Bool} {fk : α → Option κ} {fv : α → Option γ} (hj : N[j]? = some y) (hyl : sc.names.lookup y = some .local) (hsw : ((if sc.kind.isAnnotationScope then ScopeKind.function else sc.kind) == .function && sc.names.lookup y == some .local && py.line == p.line && !(scope.names.any fun (n, k) => n == y && (k == .local || k == .cell))) = true) (hi : XI X Γ B ρ (.Name x px) it mxs) (hsc : relS scope sc = sc') (hB : blkC N sc scope [(x, i)] = true) (hx : N[i]? = some x) (hxl : scope.names.lookup x = some .local) (hxl' : sc'.names.lookup x = some .local)
    (ht : ∀ X', Cok X' Γ N sc' k → ∀ a : α, PTs X' ifs (cT Γ B (ρ.set i (vl a)) (t a)))
    (hk : ∀ X', Cok X' Γ N sc' k → ∀ a : α, XE X' Γ B (ρ.set i (vl a)) kx (fk a))
    (he : ∀ X', Cok X' Γ N sc' k → ∀ a : α, XE X' Γ B (ρ.set i (vl a)) vx (fv a)) (hs : ∀ x, foldedSetIterable it X.env x = pure x := by intro _; rfl) (hρ : Nat.ble (i + 1) ρ.length = true := by rfl) (hfc : fx.contains i = false := by rfl) (hρ2 : Nat.ble (j + 1) ρ.length = true := by rfl) (hf2 : fx.contains j = false := by rfl) :
    XP1 X Γ B ρ (.Assign [.Name y py] (.DictComp kx vx [⟨.Name x px, it, ifs, 0⟩] scope p) pos) (mxs.bind (dcB t fk fv)) (fun z => ρ.set j (ow (OK.mk z))) := by
  have cb : ∀ (s : Shared) (H : Hp) (C : Addr) (cl : List (Str × Addr)) (fp : List Addr), Cok (X.blk s H scope (compEnvC scope cl C X.env) fp) Γ N sc' k := fun s H C cl fp => d.toCok.blk hsc
  exact imS (ps_setDc (own := [(x, i)]) (g := gName i) (tt := fun σ H Q => ∃ a, cT Γ B (ρ.set i (vl a)) (t a) σ H Q) (tk := fun σ H Q => ∃ a, cE Γ B (ρ.set i (vl a)) (fk a) σ H Q) (tv := fun σ H Q => ∃ a, cE Γ B (ρ.set i (vl a)) (fv a) σ H Q) d.calm (by rw [d.hN]; exact d.nd) (by rw [d.hN]; exact hj) (by rw [d.hsc]; exact hyl) ((sw_dc d.toCok).trans (by rw [hsw])) hi (by rw [d.hN, d.hsc]; exact blkOk_by hB)
    (fun s H C cl fp => pg_name (i := i) (by rw [(cb s H C cl fp).hN]; exact d.nd) (by rw [(cb s H C cl fp).hN]; exact hx) (by rw [(cb s H C cl fp).hsc]; exact .inl hxl') (.inr (by rw [(cb s H C cl fp).hsc]; exact hxl')))
    (fun s H C cl fp => ⟨fun pins s' σ H' Q I ⟨a, q⟩ => (ht _ (cb s H C cl fp) a).run pins s' σ H' Q I q⟩) (fun s H C cl fp => allE fun a => hk _ (cb s H C cl fp) a) (fun s H C cl fp => allE fun a => he _ (cb s H C cl fp) a) hs) fun D σ H ⟨G, s, A, e, q⟩ => dc_sim (lc_pre hρ hfc d.hfx).1 (lc_pre hρ hfc d.hfx).2 (Q := fun v H1 => gName j v σ H1 D.nx) ⟨G, s, A, e, fun p vs G1 H1 g hp r => q G1 _ _ ((A.grow g).setN (Nat.le_of_ble_eq_true hρ2) hp ⟨p, vs, rfl, rfl, upd_same, r⟩ (lc_pre hρ2 hf2 d.hfx).1)⟩
theorem xp_setDcT (d : Dok X Γ B N sc k fx W M) {ρ1 : Sto} {x y : Str} {px py : Pos} {i j : Nat} {ifs : List Expr} {scope sc' : Scope} {p : Pos} {mxs : Option (List α)} {t : α → Option Bool} {fk : α → Option κ} {fv : α → Option γ} (hj : N[j]? = some y) (hyl : sc.names.lookup y = some .local) (hsw : ((if sc.kind.isAnnotationScope then ScopeKind.function else sc.kind) == .function && sc.names.lookup y == some .local && py.line == p.line && !(scope.names.any fun (n, k) => n == y && (k == .local || k == .cell))) = true) (hth : ∀ σ H Q, cKN Γ B ρ (mxs.bind (dcB t fk fv)) σ H Q → cKN Γ B ρ1 (mxs.bind (dcB t fk fv)) σ H Q) (hi : XI X Γ B ρ1 (.Name x px) it mxs) (hsc : relS scope sc = sc') (hB : blkC N sc scope [(x, i)] = true) (hx : N[i]? = some x) (hxl : scope.names.lookup x = some .local) (hxl' : sc'.names.lookup x = some .local)
    (ht : ∀ X', Cok X' Γ N sc' k → ∀ a : α, PTs X' ifs (cT Γ B (ρ1.set i (vl a)) (t a)))
    (hk : ∀ X', Cok X' Γ N sc' k → ∀ a : α, XE X' Γ B (ρ1.set i (vl a)) kx (fk a))
    (he : ∀ X', Cok X' Γ N sc' k → ∀ a : α, XE X' Γ B (ρ1.set i (vl a)) vx (fv a)) (hs : ∀ x, foldedSetIterable it X.env x = pure x := by intro _; rfl) (hρ : Nat.ble (i + 1) ρ1.length = true := by rfl) (hfc : fx.contains i = false := by rfl) (hρ2 : Nat.ble (j + 1) ρ.length = true := by rfl) (hf2 : fx.contains j = false := by rfl) :
    XP1 X Γ B ρ (.Assign [.Name y py] (.DictComp kx vx [⟨.Name x px, it, ifs, 0⟩] scope p) pos) (mxs.bind (dcB t fk fv)) (fun z => ρ.set j (ow (OK.mk z))) := by
  have cb : ∀ (s : Shared) (H : Hp) (C : Addr) (cl : List (Str × Addr)) (fp : List Addr), Cok (X.blk s H scope (compEnvC scope cl C X.env) fp) Γ N sc' k := fun s H C cl fp => d.toCok.blk hsc
  exact imS (ps_setDc (own := [(x, i)]) (g := gName i) (tt := fun σ H Q => ∃ a, cT Γ B (ρ1.set i (vl a)) (t a) σ H Q) (tk := fun σ H Q => ∃ a, cE Γ B (ρ1.set i (vl a)) (fk a) σ H Q) (tv := fun σ H Q => ∃ a, cE Γ B (ρ1.set i (vl a)) (fv a) σ H Q) d.calm (by rw [d.hN]; exact d.nd) (by rw [d.hN]; exact hj) (by rw [d.hsc]; exact hyl) ((sw_dc d.toCok).trans (by rw [hsw])) hi (by rw [d.hN, d.hsc]; exact blkOk_by hB)
    (fun s H C cl fp => pg_name (i := i) (by rw [(cb s H C cl fp).hN]; exact d.nd) (by rw [(cb s H C cl fp).hN]; exact hx) (by rw [(cb s H C cl fp).hsc]; exact .inl hxl') (.inr (by rw [(cb s H C cl fp).hsc]; exact hxl')))
    (fun s H C cl fp => ⟨fun pins s' σ H' Q I ⟨a, q⟩ => (ht _ (cb s H C cl fp) a).run pins s' σ H' Q I q⟩) (fun s H C cl fp => allE fun a => hk _ (cb s H C cl fp) a) (fun s H C cl fp => allE fun a => he _ (cb s H C cl fp) a) hs) fun D σ H ⟨G, s, A, e, q⟩ => dc_sim (lc_pre hρ hfc d.hfx).1 (lc_pre hρ hfc d.hfx).2 (Q := fun v H1 => gName j v σ H1 D.nx) (hth _ _ _ ⟨G, s, A, e, fun p vs G1 H1 g hp r => q G1 _ _ ((A.grow g).setN (Nat.le_of_ble_eq_true hρ2) hp ⟨p, vs, rfl, rfl, upd_same, r⟩ (lc_pre hρ2 hf2 d.hfx).1)⟩)
theorem xp_setDc (d : Dok X Γ B N sc k fx W M) {x y : Str} {px py : Pos} {i j : Nat} {ifs : List Expr} {scope sc' : Scope} {p : Pos} {mxs : Option (List α)} {t : α → Option Bool} {fk : α → Option κ} {fv : α → Option γ} (hj : N[j]? = some y) (hyl : sc.names.lookup y = some .local) (hsw : ((if sc.kind.isAnnotationScope then ScopeKind.function else sc.kind) == .function && sc.names.lookup y == some .local && py.line == p.line && !(scope.names.any fun (n, k) => n == y && (k == .local || k == .cell))) = true) (hi : XI X Γ B ρ (.Name x px) it mxs) (hsc : relS scope sc = sc') (hB : blkC N sc scope [(x, i)] = true) (hx : N[i]? = some x) (hxl : scope.names.lookup x = some .local) (hxl' : sc'.names.lookup x = some .local)
    (ht : ∀ X', Cok X' Γ N sc' k → ∀ a : α, PTs X' ifs (cT Γ B (ρ.set i (vl a)) (t a)))
    (hk : ∀ X', Cok X' Γ N sc' k → ∀ a : α, XE X' Γ B (ρ.set i (vl a)) kx (fk a))
    (he : ∀ X', Cok X' Γ N sc' k → ∀ a : α, XE X' Γ B (ρ.set i (vl a)) vx (fv a)) (hs : ∀ x, foldedSetIterable it X.env x = pure x := by intro _; rfl) (hρ : Nat.ble (i + 1) ρ.length = true := by rfl) (hfc : fx.contains i = false := by rfl) (hρ2 : Nat.ble (j + 1) ρ.length = true := by rfl) (hf2 : fx.contains j = false := by rfl) :
    XP1 X Γ B ρ (.Assign [.Name y py] (.DictComp kx vx [⟨.Name x px, it, ifs, 0⟩] scope p) pos) (mxs.bind (dcB t fk fv)) (fun z => ρ.set j (vl (DK.mk z))) := by
  have h := xp_setDcN (α := α) (γ := γ) d (kx := kx) (vx := vx) (pos := pos) hj hyl hsw hi hsc hB hx hxl hxl' ht hk he hs hρ hfc hρ2 hf2
  refine imS (lkS' h) fun D σ H ⟨G, s, A, e, q⟩ => ⟨G, s, A, e, fun G' H' σ' A' => ?_⟩
  have hx : (ρ.set j (ow (OK.mk s)))[j]? = some (ow (OK.mk s)) := by rw [List.getElem?_set_self (Nat.le_of_ble_eq_true hρ2)]
  refine (At.freeze A' hx rfl).mono fun H2 ⟨G2, l2, A2⟩ => ?_
  rw [List.set_set] at A2
  exact q G2 H2 σ' A2
/-- a new dict into a name (a cell) -/
theorem xp_setKN (d : Dok X Γ B N sc k fx W M) {m : Option (List (κ × γ))} {x : Str} (i : Nat) (he : XKN X Γ B ρ e m) (hi : N[i]? = some x) (hx : Loc sc x) (hs : swapsWith e (some (.Name x p')) pos.line X.env = pure false) (hρ : Nat.ble (i + 1) ρ.length = true := by rfl) (hf : fx.contains i = false := by rfl) :
    XP1 X Γ B ρ (.Assign [.Name x p'] e pos) m (fun z => ρ.set i (ow (OK.mk z))) := imS (ps_set (i := i) (by rw [d.hN]; exact d.nd) (by rw [d.hN]; exact hi) (by rw [d.hsc]; exact hx) he hs (.inl (d.hfn x))) fun D σ H ⟨G, s, A, e, q⟩ =>
  ⟨G, s, A, e, fun p vs G1 H1 g hp r => q G1 _ _ ((A.grow g).setN (Nat.le_of_ble_eq_true hρ) hp ⟨p, vs, rfl, rfl, upd_same, r⟩ fun hm => by
    rw [d.hfx] at hm
    rw [List.contains_iff_mem.mpr hm] at hf
    cases hf)⟩
end
end Sim

set_option Elab.async false
set_option autoImplicit false
set_option linter.all false
set_option maxRecDepth 100000
set_option maxHeartbeats 1000000
namespace Sim
open PySem L2
open Rp (rep)
open At1 (toV)
open K1 (key)
open KT (keys)
open Ow (own)
open RpA (repA stoA)

/-- a dict from ints to lists of ints, the lists its own -/
structure ON where
  l : List (Int × List Int)
/-- the rows: key, place, content -/
inductive Near (H : Hp) : List (Key × V) → List Addr → List (Int × List Int) → Prop
  | nil : Near H [] [] []
  | cons {n : Int} {xs : List Int} {p : Addr} {kvs : List (Key × V)} {as : List Addr} {l : List (Int × List Int)} : H p = some (.lst (xs.map V.int)) → Near H kvs as l → Near H ((Sum.inl n, .ref p) :: kvs) (p :: as) ((n, xs) :: l)
theorem Near.stay {H H' : Hp} {kvs : List (Key × V)} {as : List Addr} {l : List (Int × List Int)} (h : Near H kvs as l) (k : ∀ x ∈ as, ∀ o, H x = some o → H' x = some o) : Near H' kvs as l := by
  induction h with
  | nil => exact .nil
  | cons e t ih => exact .cons (k _ List.mem_cons_self _ e) (ih fun x hx => k x (List.mem_cons_of_mem _ hx))
theorem Near.there {H : Hp} {kvs : List (Key × V)} {as : List Addr} {l : List (Int × List Int)} (h : Near H kvs as l) : ∀ x ∈ as, ∃ xs : List V, H x = some (.lst xs) := by
  induction h with
  | nil => exact fun x hx => by simp at hx
  | cons e t ih =>
    intro x hx
    rcases List.mem_cons.mp hx with z | z
    · rw [z]; exact ⟨_, e⟩
    · exact ih x z
theorem Near.len {H : Hp} {kvs : List (Key × V)} {as : List Addr} {l : List (Int × List Int)} (h : Near H kvs as l) : kvs.length = l.length := by
  induction h with
  | nil => rfl
  | cons e t ih => simp [ih]
theorem Near.rp {Γ : Gm} {G H : Hp} {kvs : List (Key × V)} {as : List Addr} {l : List (Int × List Int)} (h : Near H kvs as l) (k : ∀ x ∈ as, ∀ o, H x = some o → G x = some o) : RpK Γ G kvs l := by
  induction h with
  | nil => exact .nil
  | cons e t ih => exact .cons ⟨rfl, _, _, rfl, k _ List.mem_cons_self _ e, RpL.ofV (α := Int) _⟩ (ih fun x hx => k x (List.mem_cons_of_mem _ hx))
theorem Near.snoc {H : Hp} {kvs : List (Key × V)} {as : List Addr} {l : List (Int × List Int)} {n : Int} {xs : List Int} {p : Addr} (h : Near H kvs as l) (e : H p = some (.lst (xs.map V.int))) : Near H (kvs ++ [(Sum.inl n, .ref p)]) (as ++ [p]) (l ++ [(n, xs)]) := by
  induction h with
  | nil => exact .cons e .nil
  | cons e' t ih => exact .cons e' ih
instance instOwON : Ow ON where
  own := fun Γ G H v fp d => ∃ a kvs as, v = .ref a ∧ fp = a :: as ∧ H a = some (.dK kvs) ∧ Near H kvs as d.l ∧ as.Nodup ∧ (d.l.map fun q : Int × List Int => q.1).Nodup
  stay := fun ⟨a, kvs, as, h1, h2, h3, h4, h5, h6⟩ e k => ⟨a, kvs, as, h1, h2, k a (by rw [h2]; exact List.mem_cons_self) _ h3, h4.stay fun x hx => k x (by rw [h2]; exact List.mem_cons_of_mem _ hx), h5, h6⟩
  there := fun ⟨a, kvs, as, h1, h2, h3, h4, h5, h6⟩ x hx => by
    rw [h2] at hx
    rcases List.mem_cons.mp hx with z | z
    · rw [z]; exact some_ne h3
    · obtain ⟨xs, e⟩ := h4.there x z
      exact some_ne e
  nt := fun ⟨a, kvs, as, h1, h2, h3, h4, h5, h6⟩ x hx ws e => by
    rw [h2] at hx
    rcases List.mem_cons.mp hx with z | z
    · rw [z, h3] at e; cases e
    · obtain ⟨xs, e2⟩ := h4.there x z
      rw [e2] at e; cases e
  F := DK Int (List Int)
  iF := instRpDK
  toF := fun x => ⟨x.l⟩
  canF := true
  fz := fun _ Γ G H v fp d ob ⟨a, kvs, as, h1, h2, h3, h4, h5, h6⟩ le => by
    have fr : ∀ x ∈ fp, frzd G (lkd H fp ob) fp x = lkd H fp ob x := fun x hx => if_pos hx
    refine ⟨a, kvs, ob a, h1, ?_, h4.rp fun x hx o e => ?_⟩
    · rw [fr a (by rw [h2]; exact List.mem_cons_self)]
      exact lkd_d (by rw [h2]; exact List.mem_cons_self) h3 trivial
    · have hm : x ∈ fp := by rw [h2]; exact List.mem_cons_of_mem _ hx
      rw [fr x hm]
      obtain ⟨xs, e2⟩ := h4.there x hx
      rw [e2] at e
      cases e
      exact lkd_nd e2 fun q => q

def nearApp (l : List (Int × List Int)) (k v : Int) : Option (List (Int × List Int)) := (look l k).bind fun row => (push row v).bind fun row' => some (put l k row')
theorem put_same {l : List (Int × List Int)} {k : Int} {y : List Int} (h : (look l k).isSome) : put l k y = l.map fun kv => if kv.1 = k then (kv.1, y) else kv := by
  unfold put
  rw [if_pos]
  unfold look at h
  rw [Option.isSome_map, List.find?_isSome] at h
  rw [List.any_eq_true]
  exact h
theorem put_keys {l : List (Int × List Int)} {k : Int} {y : List Int} (h : (look l k).isSome) : (put l k y).map (fun q : Int × List Int => q.1) = l.map (fun q : Int × List Int => q.1) := by
  rw [put_same h, List.map_map]
  apply List.map_congr_left
  intro q _
  show (if q.1 = k then (q.1, y) else q).1 = q.1
  split <;> rfl
/-- the row of k -/
theorem Near.get {H : Hp} {kvs : List (Key × V)} {as : List Addr} {l : List (Int × List Int)} (h : Near H kvs as l) {k : Int} {row : List Int} (e : look l k = some row) (nd : as.Nodup) (nk : (l.map fun q : Int × List Int => q.1).Nodup) : ∃ p, p ∈ as ∧ valV kvs (Sum.inl k) = some (.ref p) ∧ H p = some (.lst (row.map V.int)) ∧
    ∀ (H' : Hp) (ys : List Int), H' p = some (.lst (ys.map V.int)) → (∀ x ∈ as, x ≠ p → ∀ o, H x = some o → H' x = some o) → Near H' kvs as (l.map fun kv => if kv.1 = k then (kv.1, ys) else kv) := by
  induction h with
  | nil => cases e
  | @cons n xs p kvs as l e0 t ih =>
    have nd1 := List.nodup_cons.mp nd
    have nk1 : n ∉ l.map (fun q : Int × List Int => q.1) ∧ (l.map fun q : Int × List Int => q.1).Nodup := List.nodup_cons.mp nk
    by_cases hk : n = k
    · subst hk
      rw [look_pos rfl] at e
      cases e
      refine ⟨p, List.mem_cons_self, valV_pos rfl, e0, fun H' ys h1 h2 => ?_⟩
      rw [List.map_cons, if_pos rfl]
      have hm : (l.map fun kv => if kv.1 = n then (kv.1, ys) else kv) = l := by
        have : (l.map fun kv => if kv.1 = n then (kv.1, ys) else kv) = l.map id := by
          apply List.map_congr_left
          intro q hq
          have hne : ¬ q.1 = n := fun z => nk1.1 (by rw [← z]; exact List.mem_map.mpr ⟨q, hq, rfl⟩)
          rw [if_neg hne]; rfl
        rw [this, List.map_id]
      rw [hm]
      exact .cons h1 (t.stay fun x hx => h2 x (List.mem_cons_of_mem _ hx) (fun z => nd1.1 (z ▸ hx)))
    · rw [look_neg hk] at e
      obtain ⟨q, hq, h1, h2, h3⟩ := ih e nd1.2 nk1.2
      have hpq : p ≠ q := fun z => nd1.1 (z ▸ hq)
      refine ⟨q, List.mem_cons_of_mem _ hq, ?_, h2, fun H' ys k1 k2 => ?_⟩
      · rw [valV_neg]
        · exact h1
        · exact fun z => hk (Sum.inl.inj z)
      · rw [List.map_cons, if_neg hk]
        exact .cons (k2 p List.mem_cons_self hpq _ e0) (h3 H' ys k1 fun x hx => k2 x (List.mem_cons_of_mem _ hx))
theorem ite_some' {α : Type} {c : Prop} [Decidable c] {x : Option α} {z : α} (h : (if c then x else none) = some z) : c ∧ x = some z := by
  by_cases hc : c
  · rw [if_pos hc] at h; exact ⟨hc, h⟩
  · rw [if_neg hc] at h; cases h
section
variable {X : Cx} {Γ : Gm} {B : Bs} {ρ ρ' : Sto} {N : List Str} {sc : Scope} {k : Nat} {fx : List Nat} {W : WX} {M : List Addr} {pos p p' p2 : Pos} {e a b o tg it elt kx vx : Expr}
/-- near[a].append(e) -/
theorem xp_nearApp (d : Dok X Γ B N sc k fx W M) {x : Str} (i : Nat) {l : List (Int × List Int)} {mk mv : Option Int} {apos cpos : Pos} (hi : ρ[i]? = some (ow (ON.mk l))) (hN : N[i]? = some x) (hv : Vis sc x) (hk : XE X Γ B ρ a mk) (he : XE X Γ B ρ e mv) (hd : (x == ("__debug__" : Str)) = false := by decide) (hcd : (x == ("__classdict__" : Str)) = false := by decide) (hns : NoSl a := by intro _ _; rfl)
    (hbase : attributeBase (.Subscript (.Name x p) a p2) "append" X.env (eval (.Subscript (.Name x p) a p2) X.env) = eval (.Subscript (.Name x p) a p2) X.env := by rfl)
    (hfew : ((backTo cpos (starEach [e] X.env)).all (fun x => !x.1) && (backToKw cpos (keywordEach [] X.env)).all (fun x => x.1.isSome)
      && decide ([e].length + ([] : List Keyword).length + (if ([] : List Keyword).isEmpty then 0 else 1) < 30)) = true := by rfl)
    (hline : (apos.endLine == cpos.line) = true := by rfl) (hs : starEach [e] X.env = (false, eval e X.env) :: starEach [] X.env := by rfl) (hw : swapsWith (.Call (.Attribute (.Subscript (.Name x p) a p2) "append" apos) [e] [] cpos) none pos.line X.env = pure false := by rfl) :
    XP1 X Γ B ρ (.Expr (.Call (.Attribute (.Subscript (.Name x p) a p2) "append" apos) [e] [] cpos) pos) (mk.bind fun y => mv.bind fun v => nearApp l y v) (fun l' => ρ.set i (ow (ON.mk l'))) :=
  imS (ps_expr (pe_bm PySem.F.plainAttrs_list PySem.F.slot_list_append PySem.F.type_list_append mt_append (pe_dget d.hu (pv_ d.toCok hN hv hd hcd) hk hns) (pa_cons he pa_nil hs) hbase hfew hline hs (by rfl)) hw) fun D σ H ⟨G, s, A, e, q⟩ => by
  cases mk with
  | none => cases e
  | some y =>
    cases mv with
    | none => cases e
    | some v =>
      have e : ((look l y).bind fun row => (push row v).bind fun row' => some (put l y row')) = some s := e
      cases hl : look l y with
      | none => rw [hl] at e; cases e
      | some row =>
        rw [hl] at e
        have e : ((push row v).bind fun row' => some (put l y row')) = some s := e
        cases hp : push row v with
        | none => rw [hp] at e; cases e
        | some row' =>
          rw [hp] at e
          cases e
          obtain ⟨hb, e2⟩ := ite_some (by have qq : push row v = some row' := hp; unfold push at qq; exact qq)
          subst e2
          obtain ⟨u, fp, h1, ⟨a0, kvs, as, rfl, h2, h3, h4, h5, h6⟩, hg0, ch⟩ := A.openO hi
          have h6 : (l.map fun q : Int × List Int => q.1).Nodup := h6
          have h4 : Near H kvs as l := h4
          obtain ⟨q0, hq0, hv0, hr0, hc0⟩ := h4.get hl h5 h6
          refine ⟨.ref a0, h1, G, y, A, rfl, fun v1 G1 H1 g1 r1 => ⟨a0, .ref q0, rfl, .inl ⟨kvs, Sum.inl y, .inl (g1.leH _ _ h3), rep1 r1, hv0.symm⟩, .inl ⟨rfl, _, SqL.of (g1.leH _ _ hr0)⟩, ?_⟩⟩
          refine ⟨G1, v, A.grow g1, rfl, fun v2 G2 H2 g2 r2 => ⟨q0, row.map V.int, v2, rfl, rfl, g2.leH _ _ (g1.leH _ _ hr0), by rw [List.length_map]; exact big_lt (by omega), ?_⟩⟩
          have g := g1.trans g2
          have ne0 : a0 ≠ q0 := ne_of h3 hr0 (fun z => by cases z)
          have ev : row.map V.int ++ [v2] = (row ++ [v]).map V.int := by rw [List.map_append, rep1 r2]; rfl
          have kp : ∀ x, x ≠ q0 → ∀ o, H x = some o → upd H2 q0 (.lst (row.map V.int ++ [v2])) x = some o := fun x hx o ho => by rw [upd_ne hx]; exact g.leH _ _ ho
          refine q G2 _ σ (ch ON _ (ON.mk (put l y (row ++ [v]))) G2 (upd H2 q0 (.lst (row.map V.int ++ [v2]))) fp g.leG (fun x o ho => ?_) g.thin (fun x o hx ho => kp x (fun z => hx (by rw [z, h2]; exact List.mem_cons_of_mem _ hq0)) o ho) (fun x hx => ?_) (fun x hx => .inl hx) ⟨a0, kvs, as, rfl, h2, ?_, ?_, h5, ?_⟩)
          · have hz : x ≠ q0 := fun z => by
              have : G q0 = none := hg0 q0 (by rw [h2]; exact List.mem_cons_of_mem _ hq0)
              have := (g.thin q0 (some_ne hr0) this).no hr0
              rw [z, this] at ho; cases ho
            rw [upd_ne hz]; exact g.sub x o ho
          · by_cases hz : x = q0
            · rw [hz, upd_same]; simp
            · rw [upd_ne hz]
              rw [h2] at hx
              rcases List.mem_cons.mp hx with z | z
              · rw [z]; exact some_ne (g.leH _ _ h3)
              · obtain ⟨xs, ex⟩ := h4.there x z
                exact some_ne (g.leH _ _ ex)
          · exact kp a0 ne0 _ h3
          · show Near _ kvs as (put l y (row ++ [v]))
            rw [put_same (by rw [hl]; rfl)]
            exact hc0 _ (row ++ [v]) (by rw [upd_same, ev]) fun x hx hne o ho => kp x hne o ho
          · show ((put l y (row ++ [v])).map fun q : Int × List Int => q.1).Nodup
            rw [put_keys (by rw [hl]; rfl)]; exact h6
/-- a new thing of one's own, of any footprint -/
theorem At.setNN {α : Type} [I : Ow α] {G H G' H' : Hp} {σ : St} {v : V} {fp : List Addr} {a : α} {i : Nat} (A : At Γ B ρ G H σ) (hi : i < ρ.length) (g : Grow G H G' H') (hfp : ∀ x ∈ fp, H x = none ∧ G' x = none) (r : own Γ G' H' v fp a) (nf : i ∉ B.fx) : At Γ B (ρ.set i (ow a)) G' H' (σ.set i (some v)) := by
  obtain ⟨φ, h1, h3⟩ := A.slots
  have h1' := h1.grow g.leG (H' := H') fun j x _ u e => g.leH x u e
  have A' := A.grow g
  refine ⟨A'.sub, A'.le, A'.keep, A'.live, A'.thin, ⟨setφ φ i fp, h1'.set hi ⟨v, rfl, r⟩ fun j x hj hx hm => ?_, fun j a ha => ?_⟩, fun j hj => by
    rw [List.getElem?_set_ne fun z => nf (by rw [z]; exact hj)]
    exact A.fix j hj⟩
  · exact h1.there j x hm (hfp x hx).1
  · rcases mem_setφ ha with ⟨_, q⟩ | ⟨_, q⟩
    · refine ⟨(hfp a q).2, .inl ?_⟩
      cases z : B.H a with
      | none => rfl
      | some u => exact absurd (hfp a q).1 (A.live a (some_ne z))
    · exact ⟨(g.thin a (h1.there j a q) (h3 j a q).1).none (h1.nt j a q), (h3 j a q).2⟩
def nearM (t : Int → Option Bool) : List (Int × List Int) → List Int → Option (List (Int × List Int))
  | d, [] => some d
  | d, x :: r => (t x).bind fun b => if b = true then (if isIn x (d.map fun q : Int × List Int => q.1) = true then none else nearM t (d ++ [(x, [])]) r) else nearM t d r
@[irreducible] def nearB (t : Int → Option Bool) (xs : List Int) : Option (List (Int × List Int)) := if xs.length ≤ BIG then nearM t [] xs else none
theorem near_any {H : Hp} {kvs : List (Key × V)} {as : List Addr} {l : List (Int × List Int)} (h : Near H kvs as l) {x : Int} (hx : x ∉ l.map fun q : Int × List Int => q.1) : (kvs.any fun kv => decide (kv.1 = Sum.inl x)) = false := by
  induction h with
  | nil => rfl
  | @cons n xs p kvs as l e t ih =>
    have h1 : x ≠ n := fun z => hx (by rw [z]; exact List.mem_cons_self)
    have h2 : x ∉ l.map fun q : Int × List Int => q.1 := fun z => hx (List.mem_cons_of_mem _ z)
    rw [List.any_cons, ih h2, Bool.or_false]
    exact decide_eq_false fun z => h1 (Sum.inl.inj z).symm
/-- near = {node: [] for node in it if t} -/
theorem xp_setNear (d : Dok X Γ B N sc k fx W M) {x y : Str} {px px2 py pl : Pos} {i j : Nat} {ifs : List Expr} {scope sc' : Scope} {p : Pos} {mxs : Option (List Int)} {t : Int → Option Bool} (hj : N[j]? = some y) (hyl : sc.names.lookup y = some .local) (hsw : ((if sc.kind.isAnnotationScope then ScopeKind.function else sc.kind) == .function && sc.names.lookup y == some .local && py.line == p.line && !(scope.names.any fun (n, k) => n == y && (k == .local || k == .cell))) = true) (hi : XI X Γ B ρ (.Name x px) it mxs) (hsc : relS scope sc = sc') (hB : blkC N sc scope [(x, i)] = true) (hx : N[i]? = some x) (hxl : scope.names.lookup x = some .local) (hxl' : sc'.names.lookup x = some .local)
    (ht : ∀ X', Cok X' Γ N sc' k → ∀ a : Int, PTs X' ifs (cT Γ B (ρ.set i (vl a)) (t a))) (hd : (x == ("__debug__" : Str)) = false := by decide) (hcd : (x == ("__classdict__" : Str)) = false := by decide)
    (hs : ∀ x, foldedSetIterable it X.env x = pure x := by intro _; rfl) (hρ : Nat.ble (i + 1) ρ.length = true := by rfl) (hfc : fx.contains i = false := by rfl) (hρ2 : Nat.ble (j + 1) ρ.length = true := by rfl) (hf2 : fx.contains j = false := by rfl) :
    XP1 X Γ B ρ (.Assign [.Name y py] (.DictComp (.Name x px2) (.List [] pl) [⟨.Name x px, it, ifs, 0⟩] scope p) pos) (mxs.bind (nearB t)) (fun z => ρ.set j (ow (ON.mk z))) := by
  have cb : ∀ (s : Shared) (H : Hp) (C : Addr) (cl : List (Str × Addr)) (fp : List Addr), Cok (X.blk s H scope (compEnvC scope cl C X.env) fp) Γ N sc' k := fun s H C cl fp => d.toCok.blk hsc
  refine imS (ps_setDc (own := [(x, i)]) (g := gName i) (tt := fun σ H Q => ∃ a, cT Γ B (ρ.set i (vl a)) (t a) σ H Q) (tk := fun σ H Q => ∃ a : Int, cE Γ B (ρ.set i (vl a)) (some a) σ H Q) (tv := tLst tNil) d.calm (by rw [d.hN]; exact d.nd) (by rw [d.hN]; exact hj) (by rw [d.hsc]; exact hyl) ((sw_dc d.toCok).trans (by rw [hsw])) hi (by rw [d.hN, d.hsc]; exact blkOk_by hB)
    (fun s H C cl fp => pg_name (i := i) (by rw [(cb s H C cl fp).hN]; exact d.nd) (by rw [(cb s H C cl fp).hN]; exact hx) (by rw [(cb s H C cl fp).hsc]; exact .inl hxl') (.inr (by rw [(cb s H C cl fp).hsc]; exact hxl')))
    (fun s H C cl fp => ⟨fun pins s' σ H' Q I ⟨a, q⟩ => (ht _ (cb s H C cl fp) a).run pins s' σ H' Q I q⟩) (fun s H C cl fp => allE fun a => xe_var (cb s H C cl fp) i (by rw [List.getElem?_set_self (Nat.le_of_ble_eq_true hρ)]) hx (.inl hxl') hd hcd) (fun s H C cl fp => pe_lst pa_nil) hs) fun D σ H ⟨G, zs, A, e, q⟩ => ?_
  obtain ⟨hf, hρi⟩ := lc_pre hρ hfc d.hfx
  cases mxs with
  | none => cases e
  | some xs =>
    have e : nearB t xs = some zs := e
    unfold nearB at e
    obtain ⟨hl, e⟩ := ite_some' e
    refine ⟨G, xs, A, rfl, fun J G' H' g ⟨Y, hw, hy⟩ D0 hD => ?_⟩
    have hGD : G' D0 = none := g.sub.none hD
    refine dc_it (g := gName i) (tt := fun σ H Q => ∃ a, cT Γ B (ρ.set i (vl a)) (t a) σ H Q) (tk := fun σ H Q => ∃ a : Int, cE Γ B (ρ.set i (vl a)) (some a) σ H Q) (tv := tLst tNil) (vs := [i]) (σ := σ) (Qd := fun H2 => D.nx (σ.set j (some (.ref D0))) H2) hw (fun j H2 => ∃ G1 vs as ys, Grow G' H' G1 H2 ∧ G1 D0 = none ∧ H2 D0 = some (.dK vs) ∧ Near H2 vs as ys ∧ as.Nodup ∧ (ys.map fun q : Int × List Int => q.1).Nodup ∧ (∀ x ∈ as, H' x = none ∧ G1 x = none) ∧ ys.length ≤ j ∧ nearM t ys (xs.drop j) = some zs)
      ⟨G', [], [], [], Grow.newO g.sub hD _, hGD, upd_same, .nil, List.nodup_nil, List.nodup_nil, fun x hx => by simp at hx, Nat.le_refl _, e⟩ (fun j H2 _ ⟨G1, vs, as, ys, g1, _⟩ => ⟨G1, g1.leG, g1.sub⟩) ?_ ?_
    · rintro j v H2 H3 hj ⟨G1, vs, as, ys, g1, hG1, hD1, r1, n1, n2, fr, hl1, e1⟩ y
      obtain ⟨x0, G2, hx0, g2, rv⟩ := hy j H2 v H3 hj y G1 g1.leG g1.sub
      have ed : xs.drop j = x0 :: xs.drop (j + 1) := by
        obtain ⟨h1, h2⟩ := List.getElem?_eq_some_iff.mp hx0
        rw [List.drop_eq_getElem_cons h1, h2]
      rw [ed] at e1
      unfold nearM at e1
      have A2 := ((A.grow g).grow g1).grow g2
      have A3 : At Γ B (ρ.set i (vl x0)) G2 H3 ((σ.set i none).set i (some v)) := by
        have := (A2.wiped i hf).setV (i := i) (by simpa using hρi) rv hf
        simpa using this
      show wipe ((wipe σ [i]).set i (some v)) [i] = wipe σ [i] ∧ _
      refine ⟨wipe_set1, ?_⟩
      cases hb : t x0 with
      | none => rw [hb] at e1; cases e1
      | some b =>
        rw [hb] at e1
        refine ⟨x0, G2, b, A3, hb, fun G4 H4 g4 => ?_⟩
        have fr4 : ∀ {G5 H5 : Hp}, Grow G1 H2 G5 H5 → ∀ x ∈ as, H' x = none ∧ G5 x = none := fun gg x hx => by
          obtain ⟨xs', ex⟩ := r1.there x hx
          exact ⟨(fr x hx).1, (gg.thin x (some_ne ex) (fr x hx).2).no ex⟩
        cases b with
        | false =>
          have e1 : nearM t ys (xs.drop (j + 1)) = some zs := e1
          have gg := g2.trans g4
          exact ⟨G4, vs, as, ys, g1.trans gg, (gg.thin _ (some_ne hD1) hG1).no hD1, gg.leH _ _ hD1, r1.stay fun x _ o ho => gg.leH _ _ ho, n1, n2, fr4 gg, by omega, e1⟩
        | true =>
          have e1 : (if isIn x0 (ys.map fun q : Int × List Int => q.1) = true then none else nearM t (ys ++ [(x0, [])]) (xs.drop (j + 1))) = some zs := e1
          by_cases hin : isIn x0 (ys.map fun q : Int × List Int => q.1) = true
          · rw [if_pos hin] at e1; cases e1
          · rw [if_neg hin] at e1
            have hni : x0 ∉ ys.map fun q : Int × List Int => q.1 := fun z => hin (decide_eq_true z)
            refine ⟨x0, G4, x0, A3.grow g4, rfl, fun wk G5 H5 g5 r5 => ?_⟩
            have gg := (g2.trans g4).trans g5
            refine ⟨by show 0 ≤ sizeLine; exact Nat.zero_le _, fun q0 hq0 => ?_⟩
            have hDq : D0 ≠ q0 := fun z => by rw [z] at hD1; rw [gg.leH _ _ hD1] at hq0; cases hq0
            have hvl : vs.length = ys.length := r1.len
            have hb1 : xs.length ≤ 1000000 := hl
            have r6 : Near (upd (upd H5 q0 (.lst [])) D0 (.dK (vs ++ [(Sum.inl x0, V.ref q0)]))) (vs ++ [(Sum.inl x0, .ref q0)]) (as ++ [q0]) (ys ++ [(x0, [])]) := by
              refine Near.snoc (r1.stay fun x hx o ho => ?_) ?_
              · have z1 : x ≠ D0 := fun z => by
                  obtain ⟨_, ex⟩ := r1.there x hx
                  rw [z, hD1] at ex; cases ex
                have z2 : x ≠ q0 := fun z => by rw [z] at ho; rw [gg.leH _ _ ho] at hq0; cases hq0
                rw [upd_ne z1, upd_ne z2]; exact gg.leH _ _ ho
              · rw [upd_ne (Ne.symm hDq), upd_same]; rfl
            refine ⟨vs, Sum.inl x0, rep1 r5, by rw [upd_ne hDq]; exact gg.leH _ _ hD1, big_lt (show vs.length ≤ 1000000 by omega), G5, vs ++ [(Sum.inl x0, .ref q0)], as ++ [q0], ys ++ [(x0, [])], ?_, (gg.thin _ (some_ne hD1) hG1).no hD1, ?_, ?_, ?_, ?_, fun x hx => ?_, by simp; omega, e1⟩
            · have g6 := g1.trans gg
              refine ⟨g6.leG, fun a o ho => ?_, fun a o ho => ?_, g6.thin⟩
              · have z1 : a ≠ D0 := fun z => by rw [z, hD] at ho; cases ho
                have z2 : a ≠ q0 := fun z => by rw [z] at ho; rw [g6.leH _ _ ho] at hq0; cases hq0
                rw [upd_ne z1, upd_ne z2]; exact g6.leH _ _ ho
              · have z1 : a ≠ D0 := fun z => by
                  rw [z, (gg.thin _ (some_ne hD1) hG1).no hD1] at ho; cases ho
                have z2 : a ≠ q0 := fun z => by rw [z] at ho; rw [g6.sub _ _ ho] at hq0; cases hq0
                rw [upd_ne z1, upd_ne z2]; exact g6.sub _ _ ho
            · rw [upd_same]
              unfold putK
              rw [near_any r1 hni, if_neg Bool.false_ne_true]
            · unfold putK
              rw [near_any r1 hni, if_neg Bool.false_ne_true]
              exact r6
            · rw [List.nodup_append]
              refine ⟨n1, by simp, fun a ha b hb => ?_⟩
              rw [List.mem_singleton.mp hb]
              intro z
              obtain ⟨_, ex⟩ := r1.there a ha
              rw [z] at ex
              rw [gg.leH _ _ ex] at hq0; cases hq0
            · rw [List.map_append, List.nodup_append]
              refine ⟨n2, by simp, fun a ha b hb => ?_⟩
              rw [List.mem_singleton.mp hb]
              exact fun z => hni (by
                have z' : a = x0 := z
                rw [← z']; exact ha)
            · rcases List.mem_append.mp hx with hx | hx
              · exact fr4 gg x hx
              · rw [List.mem_singleton.mp hx]
                have g6 := g1.trans gg
                refine ⟨?_, g6.sub.none hq0⟩
                cases z : H' q0 with
                | none => rfl
                | some u =>
                  have h7 : H2 q0 = some u := g1.leH _ _ z
                  rw [gg.leH _ _ h7] at hq0; cases hq0
    · rintro H2 ⟨G1, vs, as, ys, g1, hG1, hD1, r1, n1, n2, fr, _, e1⟩
      rw [List.drop_length] at e1
      have e1 : some ys = some zs := e1
      have e1 := Option.some.inj e1
      subst e1
      have A1 := A.grow g
      refine q G1 H2 _ (A1.setNN (Nat.le_of_ble_eq_true hρ2) g1 (fp := D0 :: as) (fun x hx => ?_) ⟨D0, vs, as, rfl, rfl, hD1, r1, n1, n2⟩ (lc_pre hρ2 hf2 d.hfx).1)
      rcases List.mem_cons.mp hx with z | z
      · rw [z]; exact ⟨hD, hG1⟩
      · exact fr x z
end
end Sim

set_option Elab.async false
set_option autoImplicit false
set_option linter.all false
set_option maxRecDepth 100000
set_option maxHeartbeats 1000000
namespace Sim
open PySem L2
open Rp (rep)
open At1 (toV)
open K1 (key)
open KT (keys)
open Ow (own)
open RpA (repA stoA)

/-- values that no heap has a part in -/
class Flat (α : Type) [Rp α] : Prop where
  flat : ∀ {Γ : Gm} {G G' : Hp} {v : V} {a : α}, rep Γ G v a → rep Γ G' v a
instance {α : Type} [At1 α] : Flat α := ⟨fun h => h⟩
instance {α : Type} [Rp α] [Flat α] : Flat (Option α) := ⟨fun {Γ G G' v a} h => by
  cases a with
  | none => exact h
  | some x => exact ⟨h.1, Flat.flat h.2⟩⟩
theorem RpL.flat {Γ : Gm} {α : Type} [Rp α] [Flat α] {G G' : Hp} {vs : List V} {xs : List α} (h : RpL Γ G vs xs) : RpL Γ G' vs xs := Paired.mapP h fun _ _ r => Flat.flat r
theorem RpK.flat {Γ : Gm} {κ α : Type} [K1 κ] [Rp α] [Flat α] {G G' : Hp} {vs : List (Key × V)} {xs : List (κ × α)} (h : RpK Γ G vs xs) : RpK Γ G' vs xs := Paired.mapP h fun _ _ r => ⟨r.1, Flat.flat r.2⟩

/-! ### exceptions -/
/-- the class that the text calls x is one of the program's own errors, number n -/
structure ExT (Γ : Gm) (x : Str) (n : Nat) : Prop where
  g : Γ.mg x = some (.ref (Γ.C n))
  kp : PySem.W.keepIn Γ.K (.ref (Γ.C n)) = true
  ex : PySem.W.excIn Γ.K (Γ.C n) [.type "ValueError", .type "Exception", .type "BaseException", .type "object"] "ValueError.__new__" = true
  sub : PySem.W.subIn Γ.K (.ref (Γ.C n)) (.type "BaseException") = some true
  ty : PySem.W.typeIn Γ.K (.ref (Γ.C n)) = some (.type "type")
/-- an expression that may raise, and may change the store -/
def cX (Γ : Gm) (B : Bs) {L β C : Type} [Rp β] (F : Kt L β C) (ρ : Sto) {α S : Type} [Rp α] (m : Option (Except (Er × C) (α × S))) (sto : S → Sto) : TE := fun σ H Q => ∃ G r, At Γ B ρ G H σ ∧ m = some r ∧ match r with
  | .ok q => ∀ v G' H', Le G G' → At Γ B (sto q.2) G' H' σ → rep Γ G' v q.1 → Q v H'
  | .error q => ∀ cls d G' H', At Γ B (F.str q.2) G' H' σ → IsEr Γ q.1 cls d H' → F.W cls d σ H'
abbrev XX (X : Cx) (Γ : Gm) (B : Bs) {L β C : Type} [Rp β] (F : Kt L β C) (ρ : Sto) (e : Expr) {α S : Type} [Rp α] (m : Option (Except (Er × C) (α × S))) (sto : S → Sto) : Prop := PE X e (cX Γ B F ρ m sto)
theorem opAt_drop : ∀ (ops : List Nat) (n : Nat) (s : Slot), opAt (ops.map fun i => (i, false)) n s = .dead ∨ opAt (ops.map fun i => (i, false)) n s = s
  | [], n, s => .inr rfl
  | i :: r, n, s => by
    rw [List.map_cons]
    unfold opAt
    by_cases h : Nat.beq i n = true
    · rw [if_pos h]
      left
      cases s <;> rfl
    · rw [if_neg h]; exact opAt_drop r n s
theorem At.dropN {Γ : Gm} {B : Bs} {G H : Hp} {σ : St} (ops : List Nat) : ∀ (n : Nat) {ρ : Sto}, n ≤ ρ.length → At Γ B ρ G H σ → At Γ B (wksN ρ (ops.map fun i => (i, false)) n) G H σ
  | 0, ρ, _, A => by rw [wksN_zero]; exact A
  | n + 1, ρ, hn, A => by
    have h : ρ[n]? = some ρ[n] := List.getElem?_eq_getElem (by omega)
    obtain ⟨h1, h2⟩ := wksN_succ ρ (ops.map fun i => (i, false)) h
    rw [h1]
    have A1 := At.dropN ops n (by omega) A
    rcases opAt_drop ops n ρ[n] with z | z
    · rw [z]; exact A1.drop
    · rw [z]
      have e : (wksN ρ (ops.map fun i => (i, false)) n).set n ρ[n] = wksN ρ (ops.map fun i => (i, false)) n := by
        obtain ⟨hi, e⟩ := List.getElem?_eq_some_iff.mp h2
        rw [← e]; simp
      rw [e]; exact A1
theorem At.drops {Γ : Gm} {B : Bs} {G H : Hp} {σ : St} (ops : List Nat) {ρ : Sto} (A : At Γ B ρ G H σ) : At Γ B (Sim.wks ρ (ops.map fun i => (i, false))) G H σ := by
  have := At.dropN ops ρ.length (Nat.le_refl _) A
  rw [wksN_all] at this
  exact this
section
variable {X : Cx} {Γ : Gm} {B : Bs} {L β C : Type} [Rp β] {F : Kt L β C} {ρ ρ' : Sto} {N : List Str} {sc : Scope} {k : Nat} {fx : List Nat} {W : WX} {M : List Addr} {pos p p' p2 : Pos} {e a b o tg it elt kx vx : Expr} {es : List Expr} {S : Type} {sto : S → Sto}
variable {α γ κ : Type} [Rp α] [Rp γ] [K1 κ]
theorem xx_eq {m m' : Option (Except (Er × C) (α × S))} (h : XX X Γ B F ρ e m sto) (q : m = m') : XX X Γ B F ρ e m' sto := q ▸ h
/-- raise C(e) -/
theorem xb_raise (d : Dok X Γ B N sc k fx W M) {x : Str} {n : Nat} {m : Option α} {c : C} (hx : ExT Γ x n) (hn : n ≠ 9) (hg : Glb sc x) (he : XE X Γ B ρ e m) (ops : List Nat) (hw : Sim.wks ρ (ops.map fun i => (i, false)) = F.str c) (hW : F.W = W := by rfl) (s1 : starEach [e] X.env = (false, eval e X.env) :: starEach [] X.env := by rfl) (hdb : (x == ("__debug__" : Str)) = false := by decide) :
    XB1 X Γ B F ρ (.Raise (some (.Call (.Name x p) [e] [] p2)) none pos) (S := S) (m.bind fun _ => some (.err ⟨n, 0⟩ c)) sto :=
  imS (ps_raise d.calm d.tk (SkE.pmk_own1 PySem.F.excBase_ValueError (by rw [d.hK]; exact hx.ex) (by rw [d.hmg]; exact hx.g) (by rw [d.hK]; exact hx.kp) (raises_own (by rw [d.hK]; exact hx.sub) (by rw [d.hK]; exact hx.ty)) (d.gl hg) he s1 hdb)) fun D σ H ⟨G, s, A, e, q⟩ => by
  cases m with
  | none => cases e
  | some y =>
    cases e
    refine ⟨G, y, A, rfl, fun v G1 H1 g1 r1 => ?_⟩
    have A2 := At.drops ops (A.grow g1)
    rw [hw] at A2
    show W _ none σ H1
    rw [← hW]
    refine q _ none G1 H1 σ A2 ⟨rfl, ?_⟩
    rw [if_neg hn]
def exR {β C : Type} (c : C) : Except Er β → Except (Er × C) (β × Unit)
  | .ok b => .ok (b, ())
  | .error e => .error (e, c)
theorem xx_callE {τ δ : Type} [RpA τ] [Rp δ] {fr : Bool} {x : Str} {j : Nat} (d : Dok X Γ B N sc k fx W M) {f : τ → Option (Except Er δ)} {mt : Option τ} (c : C) (ops : List Nat) (h : CalE Γ x j fr f) (hk : j ≤ k) (hg : Glb sc x) (ha : XA X Γ B ρ (e :: es) mt) (hw : Sim.wks ρ (ops.map fun i => (i, false)) = F.str c) (hW : F.W = W := by rfl) (hdb : (x == ("__debug__" : Str)) = false := by decide) (he : starEach (e :: es) X.env = (false, eval e X.env) :: starEach es X.env := by rfl) (hpl : (backTo pos (starEach es X.env)).any (·.1) = false := by rfl) :
    XX X Γ B F ρ (.Call (.Name x p) (e :: es) [] pos) (mt.bind fun t => (f t).bind fun r => some (exR c r)) (fun _ => ρ) := by
  obtain ⟨a, fd, ps, Fo, hm, kp, bi⟩ := h.ex
  refine imE (pe_callS (CX := L2.CX X.prog X.w) (E := fun σ cls d H => F.W cls d σ H) (by rw [d.hP, d.hw, d.hK, d.hmg, d.hbase]; exact Fo) (d.room.mono hk) (d.gl hg) (by rw [d.hmg]; exact hm) (by rw [d.hK]; exact kp) (by rw [d.hK]; exact bi) (fun σ => by subst hW; exact passAt d.tk σ) ha hdb he hpl) fun σ H Q ⟨G, r, A, e, q⟩ => ?_
  cases mt with
  | none => cases e
  | some t =>
    have e : ((f t).bind fun r => some (exR c r)) = some r := e
    cases hf : f t with
    | none => rw [hf] at e; cases e
    | some b =>
      rw [hf] at e
      cases e
      refine ⟨G, t, A, rfl, fun vs G1 H1 g1 r1 => ⟨G1, t, b, g1.sub, r1, hf, ?_⟩⟩
      cases b with
      | ok b => exact fun v G2 H2 g2 r2 _ => q v G2 H2 (g1.trans g2).leG (A.grow (g1.trans g2)) r2
      | error er => exact fun cls dd G2 H2 g2 ie => q cls dd G2 H2 (by rw [← hw]; exact (A.grow (g1.trans g2)).drops ops) ie
/-- what is to come of it -/
def exDo {α S L β C : Type} : Except (Er × C) (α × S) → Fl S L β C
  | .ok q => .nx q.2
  | .error q => .err q.1 q.2
def exSet {α S L β C : Type} : Except (Er × C) (α × S) → Fl (α × S) L β C
  | .ok q => .nx q
  | .error q => .err q.1 q.2
def exRet {α S T L C : Type} (c : C) : Except (Er × C) (α × S) → Fl T L α C
  | .ok q => .ret q.1 c
  | .error q => .err q.1 q.2
theorem xb_doX {m : Option (Except (Er × C) (α × S))} (he : XX X Γ B F ρ e m sto) (hw : swapsWith e none pos.line X.env = pure false := by rfl) : XB1 X Γ B F ρ (.Expr e pos) (m.bind fun r => some (exDo r)) sto := imS (ps_expr he hw) fun D σ H ⟨G, s, A, e, q⟩ => by
  cases m with
  | none => cases e
  | some r =>
    cases e
    refine ⟨G, r, A, rfl, ?_⟩
    cases r with
    | ok y => exact fun v G1 H1 l1 A1 r1 => q G1 H1 σ A1
    | error y => exact fun cls d G1 H1 A1 ie => q cls d G1 H1 σ A1 ie
theorem xb_setX (d : Dok X Γ B N sc k fx W M) {m : Option (Except (Er × C) (α × S))} {x : Str} (i : Nat) (he : XX X Γ B F ρ e m sto) (hi : N[i]? = some x) (hx : Loc sc x) (hρ : ∀ s, Nat.ble (i + 1) (sto s).length = true := by intro _; rfl) (hf : fx.contains i = false := by rfl) (hs : swapsWith e (some (.Name x p')) pos.line X.env = pure false := by rfl) :
    XB1 X Γ B F ρ (.Assign [.Name x p'] e pos) (m.bind fun r => some (exSet r)) (fun q => (sto q.2).set i (vl q.1)) := imS (ps_set (i := i) (by rw [d.hN]; exact d.nd) (by rw [d.hN]; exact hi) (by rw [d.hsc]; exact hx) he hs (.inl (d.hfn x))) fun D σ H ⟨G, s, A, e, q⟩ => by
  cases m with
  | none => cases e
  | some r =>
    cases e
    refine ⟨G, r, A, rfl, ?_⟩
    cases r with
    | ok y => exact fun v G1 H1 l1 A1 r1 => q G1 H1 _ (A1.setV (Nat.le_of_ble_eq_true (hρ y.2)) r1 fun hm => by
        rw [d.hfx] at hm
        rw [List.contains_iff_mem.mpr hm] at hf
        cases hf)
    | error y => exact fun cls d G1 H1 A1 ie => q cls d G1 H1 σ A1 ie
theorem xb_retX {m : Option (Except (Er × C) (β × S))} {c : C} (he : XX X Γ B F ρ e m sto) (ops : List (Nat × Bool)) (hw : ∀ s, Sim.wks (sto s) ops = F.str c) (hfr : F.fr = false) : XB1 X Γ B F ρ (.Return (some e) pos) (S := S) (m.bind fun r => some (exRet c r)) sto := imS (lkS' (ps_ret he)) fun D σ H ⟨G, s, A, e, q⟩ => by
  cases m with
  | none => cases e
  | some r =>
    cases e
    refine ⟨G, r, A, rfl, ?_⟩
    cases r with
    | ok y => exact fun v G1 H1 l1 A1 r1 => (A1.wks ops).mono fun H2 ⟨G2, l2, A2⟩ => q v G2 H2 σ (by rw [← hw y.2]; exact A2) (Rp.mono l2 r1) fun z => by rw [hfr] at z; cases z
    | error y => exact fun cls d G1 H1 A1 ie => q cls d G1 H1 σ A1 ie
/-! ### while a dict, a list of one's own is read -/
theorem xn_thawD [NoDk α] {m : Option (List α)} (i : Nat) {δ : Type} {I : Ow δ} {z : δ} (hi : ρ[i]? = some (.own δ I z)) (hc : I.canF = true) (hdk : ∀ G H v fp, I.own Γ G H v fp z → ∃ q o, fp = [q] ∧ H q = some o ∧ isDk o ∧ Mut (some o)) (h : XN X Γ B (ρ.set i (.val I.F I.iF (I.toF z))) e m) : XN X Γ B ρ e m := imE (pe_lock h) fun σ H Q ⟨G, x, A, e, q⟩ => by
  obtain ⟨φ, h1, h3⟩ := A.slots
  obtain ⟨o', e1, v, e2, ow⟩ := h1.ok i _ hi
  obtain ⟨d, o, ef, ho, hd, mu⟩ := hdk _ _ _ _ ow
  have hg : G d = none := (h3 i d (by rw [ef]; exact List.mem_singleton.mpr rfl)).1
  refine ⟨d, o, ho, mu, fun od => ?_⟩
  have A1 := (A.freezeX hi hc h1 h3 fun _ => od).2
  rw [ef] at A1
  have eH : upd H d (.frz od o) = lkd H [d] (fun _ => od) := by
    funext y
    by_cases z : y = d
    · subst z; rw [upd_same, lkd_d (List.mem_singleton.mpr rfl) ho hd]
    · rw [upd_ne z, lkd1 z]
  rw [eH]
  refine ⟨_, x, A1, e, fun p vs G1 H1 g hp r => ?_⟩
  have ed := g.leH d _ (lkd_d (List.mem_singleton.mpr rfl) ho hd)
  have hpd : d ≠ p := fun z => by rw [z, hp] at ed; cases ed
  refine ⟨by rw [upd_ne hpd]; exact ed, ?_⟩
  have eU : upd (upd H1 p (.lst vs)) d o = upd (upd H1 d o) p (.lst vs) := by
    funext y
    by_cases z1 : y = d
    · subst z1; rw [upd_same, upd_ne hpd, upd_same]
    · rw [upd_ne z1]
      by_cases z2 : y = p
      · subst z2; rw [upd_same, upd_same]
      · rw [upd_ne z2, upd_ne z2, upd_ne z1]
  rw [eU]
  refine q p vs _ _ (thaw_grow (B := B) (σ := σ) A.sub hg ho hd g) (by rw [upd_ne (Ne.symm hpd)]; exact hp) (RpL.nodk (fun y u hu hy => ?_) r)
  have z : y ≠ d := fun z => by
    have := g.leG d _ (by show (if d ∈ [d] then lkd H [d] (fun _ => od) d else G d) = some (.frz od o); rw [if_pos (List.mem_singleton.mpr rfl)]; exact lkd_d (List.mem_singleton.mpr rfl) ho hd)
    rw [z, this] at hy
    cases hy
    exact hu trivial
  rw [drp1 z]; exact hy
/-- .. a dict made while a list of one's own is walked -/
theorem cKN_thawL [Flat α] {m : Option (List (κ × α))} (i : Nat) {δ : Type} {I : Ow δ} {z : δ} (hi : ρ[i]? = some (.own δ I z)) (hc : I.canF = true) (hdk : ∀ G H v fp, I.own Γ G H v fp z → ∃ q o, fp = [q] ∧ H q = some o ∧ ¬ isDk o) : ∀ σ H Q, cKN Γ B ρ m σ H Q → cKN Γ B (ρ.set i (.val I.F I.iF (I.toF z))) m σ H Q := fun σ H Q ⟨G, x, A, e, q⟩ => by
  obtain ⟨φ, h1, h3⟩ := A.slots
  obtain ⟨o', e1, v, e2, ow⟩ := h1.ok i _ hi
  obtain ⟨d, o, ef, ho, hd⟩ := hdk _ _ _ _ ow
  obtain ⟨l1, A1⟩ := A.freezeX hi hc h1 h3 fun _ => default
  rw [ef] at A1 l1
  have eH : lkd H [d] (fun _ => default) = H := by
    funext y
    by_cases z : y = d
    · subst z; rw [lkd_nd ho hd, ho]
    · rw [lkd1 z]
  rw [eH] at A1 l1
  exact ⟨_, x, A1, e, fun p vs G' H' g hp r => q p vs G H' ⟨.refl _, g.leH, fun a o q => g.sub a o (g.leG a o (l1 a o q)), fun _ _ q => .inl q⟩ hp (RpK.flat r)⟩
end
end Sim

set_option Elab.async false
set_option autoImplicit false
set_option linter.all false
set_option maxRecDepth 100000
set_option maxHeartbeats 1000000
namespace Sim
open PySem L2
open Rp (rep)
open RpA (repA stoA)
section
variable {Γ : Gm} {x : Str} {st : Stmt} {N ps : List Str} {j k : Nat} {τ β : Type} [RpA τ] [Rp β] {fr : Bool}
theorem Cal.mono {f : τ → Option β} (h : Cal Γ x j fr f) (hk : j ≤ k) : Cal Γ x k fr f := by
  obtain ⟨a, fd, ps, F, h1, h2, h3⟩ := h.ex
  exact ⟨a, fd, ps, F.mono hk, h1, h2, h3⟩
theorem CalE.mono {f : τ → Option (Except Er β)} (h : CalE Γ x j fr f) (hk : j ≤ k) : CalE Γ x k fr f := by
  obtain ⟨a, fd, ps, F, h1, h2, h3⟩ := h.ex
  exact ⟨a, fd, ps, F.mono hk, h1, h2, h3⟩
theorem cal_none (D : Def Γ x st ps) (Sc : FnScope N ps (defScope st)) (hps : RpA.num τ = ps.length) : Cal Γ x 1 fr (fun _ : τ => (none : Option β)) :=
  cal_of (S := Empty) (sto := fun s => s.elim) (m := fun _ => none) D Sc Empty.elim (fun s => s.elim) hps (fun X B t d => ⟨fun pins s σ H D I ⟨G, r, A, e, q⟩ => by cases e⟩) _ fun _ => rfl
end
end Sim

set_option Elab.async false
set_option autoImplicit false
set_option linter.all false
set_option maxRecDepth 100000
set_option maxHeartbeats 1000000
namespace Sim
open PySem PySem.Spec PyProof.Rows L2
open Rp (rep)
open At1 (toV)
open K1 (key)
open KT (keys)
open Ow (own)
open Dat (toD)
open RpA (repA stoA)

/-! ### data that may be None -/
instance : Dat (Option Int) := ⟨fun o => match o with | none => .none | some i => .int i, 0, fun {Γ G v a} h => by
    cases a with
    | none => rw [show v = .non from h]; exact .non
    | some i => rw [rep1 h.2]; exact .int _, fun a => by cases a <;> simp [PyData.canLay0], fun a => by cases a <;> simp [PyData.depth], fun a b => by
    cases a <;> cases b <;> simp [PyData.eqv, Bool.beq_eq_decide_eq]⟩
section
variable {X : Cx} {Γ : Gm} {B : Bs} {L β C : Type} [Rp β] {F : Kt L β C} {ρ ρ' : Sto} {N : List Str} {sc : Scope} {k : Nat} {fx : List Nat} {W : WX} {M : List Addr} {pos p p' p2 : Pos} {e a b o tg it elt kx : Expr} {st : Stmt} {sts : List Stmt} {es : List Expr} {S : Type} {sto : S → Sto}
variable {α γ : Type} [Rp α] [Rp γ]
/-- l.count(x) of data -/
def rCountD (K : PySem.W.Frag) : V → List V → Hp → VK → Prop := fun x xs H Q => ∃ (a : Addr) (y : V) (d : PyData) (ds : List PyData), x = V.ref a ∧ xs = [y] ∧ Dp K H (V.ref a) (.list ds) ∧ Dp K H y d ∧
  SeqAt.shaped (.list ds) = true ∧ SeqAt.shaped d = true ∧ Q (.int ((ds.countP fun z => PyData.eqv z d : Nat) : Int)) H
theorem mt_countD (hu : X.A.units + 65 < cLine) : MtR X "list.count" (rCountD X.K) := by
  intro pins s σ H x xs v us Q I rx rxs h
  obtain ⟨a, y, d, ds, rfl, rfl, hl, hy, sl, sd, q⟩ := h
  cases rx
  cases rxs with
  | cons ry rt =>
    rename_i uy ut
    cases rt
    obtain ⟨bs, r1⟩ := Dp.reads I d y uy hy ry
    have hxs : PyData.canLayAll0 ds = true := SeqAt.canLay_of_shaped sl
    have hroom : X.A.units + 1 + min (PyData.depthAll ds) d.depth < cLine := room_in_shaped sd hu
    cases hl with
    | lst hs ha =>
      obtain ⟨its, rv, ⟨⟨cls, dd, data, sls⟩, n, ho, hc, hdn, hdt⟩, hlen⟩ := I.list hs
      simp only at hc hdt
      subst hc hdt
      obtain ⟨as, h4⟩ := Dp.readsAll I ds _ its ha rv
      have hmap : its.map (SeqAt.readOf s.heap) = ds := SeqAt.readsAll_map ds its as hxs h4
      refine call_meets PySem.F.slot_list_count ⟨_, ho, rfl⟩ PySem.F.entry_list_count (PySem.F.args_list_count_2 _ _)
        (SeqAt.list_countAt a its.toArray n dd sls uy (fun u => PyData.eqv (SeqAt.readOf s.heap u) d)) ⟨ho, SeqAt.items_eqAt (vs := its.toArray) (show ReadsAll s.heap its.toArray.toList ds as from h4) r1 hxs (SeqAt.canLay_of_shaped sd) hroom, ?_⟩
      have ec : its.toArray.toList.countP (fun u => PyData.eqv (SeqAt.readOf s.heap u) d) = ds.countP fun z => PyData.eqv z d := by
        rw [← hmap, List.countP_map]
        rfl
      refine ⟨.int ((ds.countP fun z => PyData.eqv z d : Nat) : Int), H, I.tok _, ⟨s.toks, ?_⟩, q⟩
      show Value.int ((its.toArray.toList.countP (fun u => PyData.eqv (SeqAt.readOf s.heap u) d) : Nat) : Int) s.toks = Value.int ((ds.countP fun z => PyData.eqv z d : Nat) : Int) s.toks
      rw [ec]
theorem xe_count (c : Cok X Γ N sc k) [DecidableEq α] [Dat α] {mx : Option (List α)} {my : Option α} {apos : Pos} (ha : XR X Γ B ρ a mx) (hb : XE X Γ B ρ b my) (hd : Dat.dep α ≤ 60 := by decide) (hbase : attributeBase a "count" X.env (eval a X.env) = eval a X.env := by rfl)
    (hfew : ((backTo pos (starEach [b] X.env)).all (fun x => !x.1) && (backToKw pos (keywordEach [] X.env)).all (fun x => x.1.isSome)
      && decide ([b].length + ([] : List Keyword).length + (if ([] : List Keyword).isEmpty then 0 else 1) < 30)) = true := by rfl)
    (hline : (apos.endLine == pos.line) = true := by rfl) (hs : starEach [b] X.env = (false, eval b X.env) :: starEach [] X.env := by rfl) :
    XE X Γ B ρ (.Call (.Attribute a "count" apos) [b] [] pos) (b2 mx my fun xs x => some ((xs.countP fun y => decide (y = x) : Nat) : Int)) :=
  imE (pe_bm PySem.F.plainAttrs_list PySem.F.slot_list_count PySem.F.type_list_count (mt_countD c.hu65) ha (pa_cons hb pa_nil hs) hbase hfew hline hs (by rfl)) fun σ H Q ⟨G, z, A, e, q⟩ => by
  cases mx with
  | none => cases e
  | some xs =>
    cases my with
    | none => cases e
    | some x =>
      cases e
      refine ⟨G, xs, A, rfl, fun p vs G1 H1 g1 hp r1 => ⟨.inl ⟨rfl, vs, SqL.of hp⟩, G1, x, A.grow g1, rfl, fun v G2 H2 g2 r2 => ?_⟩⟩
      refine ⟨p, v, toD x, xs.map toD, rfl, rfl, ?_, ?_, dat_shapedL hd xs, dat_shaped (by omega) x, q _ G2 H2 (g1.trans g2) ?_⟩
      · rw [c.hK]; exact .lst (SqL.of (g2.leH _ _ hp)) (DpAll.up g2.sub (dat_reads (r1.mono g2.leG)))
      · rw [c.hK]; exact Dp.up g2.sub (Dat.reads r2)
      · show V.int _ = V.int _
        rw [List.countP_map]
        congr 2
        refine List.countP_congr fun y _ => ?_
        show PyData.eqv (toD y) (toD x) = true ↔ _
        rw [Dat.eqv y x]

/-! ### tuples of any length -/
/-- tuple(xs) of a list -/
theorem xe_tupOf (c : Cok X Γ N sc k) {m : Option (List α)} (ha : XR X Γ B ρ a m) (hg : Glb sc "tuple") (hm : Γ.mg "tuple" = none) (s1 : starEach [a] X.env = (false, eval a X.env) :: starEach [] X.env := by rfl) :
    XE X Γ B ρ (.Call (.Name "tuple" p) [a] [] pos) (m.bind fun xs => some (TL.mk xs)) := imE (pe_tupleOf (c.gl hg) (by rw [c.hmg]; exact hm) ha s1) fun σ H Q ⟨G, z, A, e, q⟩ => by
  cases m with
  | none => cases e
  | some xs =>
    cases e
    refine ⟨G, xs, A, rfl, fun p1 vs G1 H1 g1 hp r1 => .inl ⟨p1, vs, rfl, SqL.of hp, fun q1 hq => ?_⟩⟩
    have g2 := Grow.new g1.sub hq (.tup vs)
    exact q (.ref q1) _ _ (g1.trans g2) ⟨q1, vs, rfl, upd_same, r1.mono g2.leG⟩
/-- tuple(range(n)) -/
theorem xe_tupRange (c : Cok X Γ N sc k) {m : Option Int} (ha : XE X Γ B ρ a m) (hg : Glb sc "tuple") (hm : Γ.mg "tuple" = none) (hg2 : Glb sc "range") (hm2 : Γ.mg "range" = none) (s1 : starEach [a] X.env = (false, eval a X.env) :: starEach [] X.env := by rfl)
    (s2 : starEach [.Call (.Name "range" p2) [a] [] p'] X.env = (false, eval (.Call (.Name "range" p2) [a] [] p') X.env) :: starEach [] X.env := by rfl) :
    XE X Γ B ρ (.Call (.Name "tuple" p) [.Call (.Name "range" p2) [a] [] p'] [] pos) (m.bind fun n => if n.natAbs ≤ 16777216 then some (TL.mk (rangeL 0 n)) else none) :=
  imE (pe_tupRg c.calm (c.gl hg) (by rw [c.hmg]; exact hm) (prg_1 (c.gl hg2) (by rw [c.hmg]; exact hm2) ha s1) s2) fun σ H Q ⟨G, z, A, e, q⟩ => by
  cases m with
  | none => cases e
  | some n =>
    obtain ⟨hn, e⟩ := ite_some (show (if n.natAbs ≤ 16777216 then some (TL.mk (rangeL 0 n)) else none) = some z from e)
    subst e
    refine ⟨G, n, A, rfl, fun v G1 H1 g1 r1 => ⟨n, rep1 r1, ⟨by omega, by omega, by omega, by omega, by omega⟩, fun q1 hq => ?_⟩⟩
    have g2 := Grow.new g1.sub hq (.tup (rgV 0 n))
    refine q (.ref q1) _ _ (g1.trans g2) ⟨q1, _, rfl, upd_same, ?_⟩
    have : rgV 0 n = (rangeL 0 n).map toV := by
      unfold rgV rangeL
      rw [List.map_map]
      rfl
    rw [this]
    exact RpL.ofV _
theorem xe_lenTL (c : Cok X Γ N sc k) {m : Option (TL α)} (ha : XE X Γ B ρ a m) (hg : Glb sc "len") (hm : Γ.mg "len" = none) (s1 : starEach [a] X.env = (false, eval a X.env) :: starEach [] X.env := by rfl) (hpl : (backTo pos (starEach [] X.env)).any (·.1) = false := by rfl) :
    XE X Γ B ρ (.Call (.Name "len" p) [a] [] pos) (m.bind fun t => some ((t.l).length : Int)) :=
  imE (pe_callB call_len_seq (c.gl hg) (by rw [c.hmg]; exact hm) PySem.boot_len (pa_cons ha pa_nil s1) (he := s1)) fun σ H Q ⟨G, z, A, e, q⟩ => by
  cases m with
  | none => cases e
  | some xs =>
    cases e
    exact ⟨G, xs, A, rfl, fun v G1 H1 g1 ⟨p, vs, h1, h2, h3⟩ => ⟨p, vs, by rw [h1], .inr (SqT.of (g1.sub.tup h2)), q _ G1 H1 g1 (by show V.int _ = V.int _; rw [h3.length])⟩⟩
theorem xe_ixTL {ma : Option (TL α)} {mb : Option Int} (ha : XE X Γ B ρ a ma) (hb : XE X Γ B ρ b mb) (hs : PlainIx b := by intro _ _; rfl) : XE X Γ B ρ (.Subscript a b pos) (b2 ma mb fun xs i => atI xs.l i) := imE (pe_ix ix_tup ha hb hs) fun σ H Q ⟨G, z, A, e, q⟩ => by
  cases ma with
  | none => cases e
  | some xs =>
    cases mb with
    | none => cases e
    | some i =>
      refine ⟨G, xs, A, rfl, fun v1 G1 H1 g1 ⟨p, vs, h1, h2, h3⟩ => ⟨G1, i, A.grow g1, rfl, fun v2 G2 H2 g2 r2 => ?_⟩⟩
      obtain ⟨v, hv, r⟩ := atI_rep h3 (show atI xs.l i = some z from e)
      exact ⟨p, vs, i, v, h1, rep1 r2, SqT.of (g2.sub.tup (g2.leG _ _ h2)), hv, q v G2 H2 (g1.trans g2) (Rp.mono g2.leG r)⟩
theorem xe_sliceTL {m : Option (TL α)} {lo hi : Option Expr} {ml mh : Option (Option Int)} {p2 : Pos} (ha : XE X Γ B ρ a m) (hl : XO X Γ B ρ lo ml) (hh : XO X Γ B ρ hi mh) : XE X Γ B ρ (.Subscript a (.Slice lo hi none p2) pos) (m.bind fun xs => ml.bind fun l => mh.bind fun h => some (TL.mk (cut xs.l l h))) := imE (pe_slice sl_tupA ha hl hh) fun σ H Q ⟨G, z, A, e, q⟩ => by
  cases m with
  | none => cases e
  | some xs =>
    cases ml with
    | none => cases e
    | some l =>
      cases mh with
      | none => cases e
      | some h =>
        cases e
        refine ⟨G, xs, A, rfl, fun v1 G1 H1 g1 ⟨p, vs, h1, h2, h3⟩ => ⟨G1, l, A.grow g1, rfl, fun G2 H2 g2 => ⟨G2, h, A.grow (g1.trans g2), rfl, fun G3 H3 g3 => ?_⟩⟩⟩
        have l23 := g2.leG.trans g3.leG
        have hp : G3 p = some (.tup vs) := l23 _ _ h2
        have g123 := (g1.trans g2).trans g3
        refine ⟨p, vs, h1, SqT.of (g3.sub.tup hp), fun hw => ?_, fun hw q1 hq => ?_⟩
        · refine q (.ref p) G3 H3 g123 ⟨p, vs, rfl, hp, ?_⟩
          have : cut xs.l l h = xs.l := by
            unfold cut
            rw [h3.length] at hw
            rw [hw.1, hw.2]
            simp
          rw [this]
          exact h3.mono l23
        · have g4 := Grow.new g3.sub hq (.tup (cutV vs l h))
          exact q (.ref q1) _ _ (g123.trans g4) ⟨q1, _, rfl, upd_same, RpL.mono (l23.trans g4.leG) (cutV_rep h3 l h)⟩
theorem xc_tnotIn (c : Cok X Γ N sc k) {κ : Type} [KT κ] [Rp κ] [TKey κ] [DecidableEq κ] {md : Option (List (κ × α))} {mk : Option κ} (ha : XE X Γ B ρ a mk) (hb : XDT X Γ B ρ b md) : XC X Γ B ρ .NotIn a b (b2 mk md fun x d => some (!(look d x).isSome)) := imC (pc_dnotin c.hu ha hb) fun σ H Q ⟨G, z, A, e, q⟩ => by
  cases mk with
  | none => cases e
  | some x =>
    cases md with
    | none => cases e
    | some d =>
      cases e
      refine ⟨G, x, A, rfl, fun v G1 H1 g1 r1 => ⟨G1, d, A.grow g1, rfl, fun p kvs G2 H2 g2 hp r2 => ?_⟩⟩
      obtain ⟨t, e1, e2⟩ := TKey.tup (Rp.mono g2.leG r1)
      refine ⟨p, valV kvs (keys x), rfl, .inr ⟨kvs, keys x, t, hp, e1, g2.sub.tup e2, rfl⟩, q _ G2 H2 (g1.trans g2) ?_⟩
      show V.bl _ = V.bl _
      cases hl : look d x with
      | none => rw [(RpT.look (x := x) r2).2 hl]; rfl
      | some y =>
        obtain ⟨v', hv, _⟩ := (RpT.look (x := x) r2).1 y hl
        rw [hv]; rfl
end

/-! ### a def that changes one object handed to it last -/
/-- all that a call may do to the heap: one object changes, new ones come -/
structure GrowX (p : Addr) (G H G' H' : Hp) : Prop where
  leG : Le G G'
  keep : ∀ a o, a ≠ p → H a = some o → H' a = some o
  live : ∀ a, H a ≠ none → H' a ≠ none
  sub : Sub G' H'
  thin : ∀ a, H a ≠ none → G a = none → Th (H a) (G' a)
def specI (Γ : Gm) {τ β Z δ : Type} [RpA τ] [Rp β] [I : Ow δ] (mk : Z → δ) (f : τ → Z → Option (β × Z)) : Sp := fun vs H Q _ => ∃ G t z b z' ws p, Sub G H ∧ vs = ws ++ [.ref p] ∧ repA Γ G ws t ∧ G p = none ∧ own Γ G H (.ref p) [p] (mk z) ∧ f t z = some (b, z') ∧
  ∀ v G' H', GrowX p G H G' H' → rep Γ G' v b → own Γ G' H' (.ref p) [p] (mk z') → Q v H'
structure CalI (Γ : Gm) (x : Str) (k : Nat) {τ β Z δ : Type} [RpA τ] [Rp β] [I : Ow δ] (mk : Z → δ) (f : τ → Z → Option (β × Z)) : Prop where
  ex : ∃ a fd ps, FnOk Γ.P Γ.w Γ.K Γ.mg Γ.base CX0 k a fd ps (specI Γ mk f) ∧ Γ.mg x = some (.ref a) ∧ PySem.W.keepIn Γ.K (.ref a) = true ∧ Binds Γ.K fd ps []
theorem CalI.mono {Γ : Gm} {x : Str} {j k : Nat} {τ β Z δ : Type} [RpA τ] [Rp β] [I : Ow δ] {mk : Z → δ} {f : τ → Z → Option (β × Z)} (h : CalI Γ x j mk f) (hk : j ≤ k) : CalI Γ x k mk f := by
  obtain ⟨a, fd, ps, F, h1, h2, h3⟩ := h.ex
  exact ⟨a, fd, ps, F.mono hk, h1, h2, h3⟩
/-- such an object lies at one address -/
class One {δ : Type} (I : Ow δ) : Prop where
  one : ∀ {Γ : Gm} {G H : Hp} {v : V} {fp : List Addr} {a : δ}, I.own Γ G H v fp a → ∃ p, v = .ref p ∧ fp = [p]
instance {α : Type} [Rp α] : One (instOwOL (α := α)) := ⟨fun ⟨a, vs, h1, h2, _⟩ => ⟨a, h1, h2⟩⟩
instance {κ α : Type} [K1 κ] [Rp α] : One (instOwOK (κ := κ) (α := α)) := ⟨fun ⟨a, vs, h1, h2, _⟩ => ⟨a, h1, h2⟩⟩
instance {κ α : Type} [KT κ] [Rp α] : One (instOwOT (κ := κ) (α := α)) := ⟨fun ⟨a, vs, h1, h2, _⟩ => ⟨a, h1, h2⟩⟩
section
variable {Γ : Gm} {x : Str} {st : Stmt} {N ps : List Str} {k : Nat} {τ β Z δ : Type} [RpA τ] [Rp β] [I : Ow δ] {mk : Z → δ}
theorem at_startI {G H : Hp} {vs : List V} {t : τ} {p : Addr} {z : Z} (s : Sub G H) (r : repA Γ G vs t) (hn : RpA.num τ + 1 ≤ N.length) (hp : G p = none) (ow' : own Γ G H (.ref p) [p] (mk z)) :
    At Γ ⟨G, H, [p], L2.start N (vs ++ [.ref p]), [RpA.num τ]⟩ (stoA t ++ ow (mk z) :: deads (N.length - RpA.num τ - 1)) G H (L2.start N (vs ++ [.ref p])) := by
  have q := RpA.okA (H := H) r
  have hl : (stoA t).length = RpA.num τ := RpA.lenA t
  refine ⟨s, .refl _, fun _ _ _ h => h, fun _ h => h, fun _ _ _ h => .inl h, ⟨fun i => if i = RpA.num τ then [p] else [], ⟨by simp [L2.start, hl, q.1]; omega, fun i sl e => ?_, fun i j x h h' => ?_, fun i hi => ?_⟩, fun i a h => ?_⟩, fun _ _ => rfl⟩
  · unfold L2.start
    by_cases hi : i < RpA.num τ
    · rw [List.getElem?_append_left (by rw [hl]; exact hi)] at e
      obtain ⟨v, q1, q2⟩ := q.2 i sl e
      refine ⟨some v, ?_, by rw [if_neg (by omega)]; exact q2⟩
      rw [List.getElem?_append_left (by simp [q.1]; omega), List.getElem?_map, List.getElem?_append_left (by rw [q.1]; exact hi), q1]
      rfl
    · rw [List.getElem?_append_right (by rw [hl]; omega), hl] at e
      by_cases hi2 : i = RpA.num τ
      · subst hi2
        simp at e
        subst e
        refine ⟨some (.ref p), ?_, .ref p, rfl, by rw [if_pos rfl]; exact ow'⟩
        rw [List.getElem?_append_left (by simp [q.1]), List.getElem?_map, List.getElem?_append_right (by rw [q.1]; exact Nat.le_refl _), q.1]
        simp
      · obtain ⟨n, hn2⟩ : ∃ n, i - RpA.num τ = n + 1 := ⟨i - RpA.num τ - 1, by omega⟩
        rw [hn2, List.getElem?_cons_succ] at e
        obtain ⟨e1, e2⟩ := get_rep e
        subst e1
        refine ⟨none, ?_, by rw [if_neg hi2]; exact rfl⟩
        rw [List.getElem?_append_right (by simp [q.1]; omega), List.getElem?_replicate, if_pos]
        simp [q.1]
        omega
  · by_cases e1 : i = RpA.num τ <;> by_cases e2 : j = RpA.num τ
    · rw [e1, e2]
    · rw [if_neg e2] at h'; simp at h'
    · rw [if_neg e1] at h; simp at h
    · rw [if_neg e1] at h; simp at h
  · rw [if_neg]
    intro e
    rw [e, List.length_append, hl] at hi
    simp at hi
    omega
  · dsimp only at h
    by_cases e1 : i = RpA.num τ
    · rw [if_pos e1] at h
      rw [List.mem_singleton.mp h]
      exact ⟨hp, .inr (by simp)⟩
    · rw [if_neg e1] at h; simp at h
/-- a def's own outcomes -/
abbrev ktI (β : Type) {Z δ : Type} [Ow δ] (mk : Z → δ) (i n : Nat) : Kt Empty β Z := ⟨fun l => l.elim, fun l => l.elim, fun c => (deads n).set i (ow (mk c)), false, fun _ _ _ _ => False⟩
def retI {S β Z : Type} : Fl S Empty β Z → Option (β × Z)
  | .nx _ => none
  | .ret b c => some (b, c)
  | .bk l => l.elim
  | .ct l => l.elim
  | .err _ _ => none
theorem calI_of [O : One I] {S : Type} {sto : S → Sto} (D : Def Γ x st ps) (Sc : FnScope N ps (defScope st)) {m : τ → Z → Option (Fl S Empty β Z)} (hps : RpA.num τ + 1 = ps.length)
    (hb : ∀ (X : Cx) (B : Bs) (t : τ) (z : Z) (p : Addr), Dok X Γ B N (defScope st) k [RpA.num τ] (fun _ _ _ _ => False) [p] → XB X Γ B (ktI β mk (RpA.num τ) N.length) (stoA t ++ ow (mk z) :: deads (N.length - RpA.num τ - 1)) (defBody st) (m t z) sto)
    (fm : τ → Z → Option (β × Z)) (hm : ∀ t z, fm t z = (m t z).bind retI) : CalI Γ x (k + 1) mk fm := by
  obtain ⟨a, fd, F, hg, bi⟩ := D.ex
  refine ⟨a, fd, ps, F.ok Sc (fun vs H Q E h => ?_) (fun cdv A outer s H vs Q E hr h => ?_), hg, F.kp, bi⟩
  · obtain ⟨G, t, z, b, z', ws, p, h1, h2, h3, _⟩ := h
    rw [h2, List.length_append, (RpA.okA (H := H) h3).1]
    exact hps
  · obtain ⟨G, t, z, b, z', ws, p, h1, h2, h3, h4, h5, h6, q⟩ := h
    have hN : RpA.num τ + 1 ≤ N.length := by
      rw [hps]
      have z := congrArg List.length Sc.pre
      rw [List.length_take] at z
      omega
    subst h2
    have A0 := at_startI (N := N) h1 h3 hN h4 h5
    have q1 := (RpA.okA (H := H) h3).1
    refine ⟨_, hb _ ⟨G, H, [p], L2.start N (ws ++ [.ref p]), [RpA.num τ]⟩ t z p ⟨⟨rfl, rfl, rfl, rfl, rfl, rfl, Sc.nd, rfl, rfl, hr⟩, PassesOwn.never, fun _ => rfl, takes0, rfl, rfl, rfl, rfl⟩, ?_⟩
    rw [hm] at h6
    cases e : m t z with
    | none => rw [e] at h6; cases h6
    | some r =>
      rw [e] at h6
      refine ⟨G, r, A0, by first | exact e | rfl, ?_⟩
      cases r with
      | nx s1 => cases h6
      | bk l => exact l.elim
      | ct l => exact l.elim
      | ret b' c =>
        have h6 : some (b', c) = some (b, z') := h6
        cases h6
        intro v G' H' σ' A' r _
        have hlen : RpA.num τ < (deads N.length).length := by simp [deads]; omega
        obtain ⟨φ, s1, s2⟩ := A'.slots
        obtain ⟨o, e1, u, e2, ow2⟩ := s1.ok (RpA.num τ) (ow (mk z')) (by show ((deads N.length).set _ _)[_]? = _; rw [List.getElem?_set_self hlen])
        obtain ⟨p', hp1, hp2⟩ := One.one (I := I) ow2
        have fx := A'.fix (RpA.num τ) (by simp)
        have e3 : (L2.start N (ws ++ [.ref p]))[RpA.num τ]? = some (some (.ref p)) := by
          unfold L2.start
          rw [List.getElem?_append_left (by simp [q1]), List.getElem?_map, List.getElem?_append_right (by rw [q1]; exact Nat.le_refl _), q1]
          simp
        rw [e1, e2, hp1] at fx
        rw [show ({ G := G, H := H, M := [p], σ := L2.start N (ws ++ [.ref p]), fx := [RpA.num τ] } : Bs).σ[RpA.num τ]? = some (some (.ref p)) from e3] at fx
        have ep : p' = p := by
          have := Option.some.inj fx
          have := Option.some.inj this
          injection this
        subst ep
        have gp : G' p' = none := (s2 (RpA.num τ) p' (by rw [hp2]; simp)).1
        rw [hp1, hp2] at ow2
        refine q v G' H' ⟨A'.le, fun a o ha e => A'.keep a o (by simpa using ha) e, A'.live, A'.sub, fun a ha hg => ?_⟩ r ow2
        by_cases za : a = p'
        · rw [za]; exact .inl gp
        · exact A'.thin a (by simpa using za) ha hg
      | err e' c => cases h6
theorem calI_none (D : Def Γ x st ps) (Sc : FnScope N ps (defScope st)) (hps : RpA.num τ + 1 = ps.length) [O : One I] : CalI Γ x 1 mk (fun (_ : τ) (_ : Z) => (none : Option (β × Z))) :=
  calI_of (S := Empty) (sto := fun s => s.elim) (m := fun _ _ => none) D Sc hps (fun X B t z p d => ⟨fun pins s σ H D I ⟨G, r, A, e, q⟩ => by cases e⟩) _ fun _ _ => rfl
end
/-! ### its calls -/
/-- arguments, the object at slot i last -/
def cAI (Γ : Gm) (B : Bs) (ρ : Sto) (i : Nat) {τ : Type} [RpA τ] (m : Option τ) : TA := fun σ H Q => ∃ G a, At Γ B ρ G H σ ∧ m = some a ∧ ∀ vs v G' H', Grow G H G' H' → repA Γ G' vs a → σ[i]? = some (some v) → Q (vs ++ [v]) H'
abbrev XAI (X : Cx) (Γ : Gm) (B : Bs) (ρ : Sto) (i : Nat) (es : List Expr) {τ : Type} [RpA τ] (m : Option τ) : Prop := PA X es (cAI Γ B ρ i m)
section
variable {X : Cx} {Γ : Gm} {B : Bs} {ρ : Sto} {N : List Str} {sc : Scope} {k j : Nat} {pos p p' : Pos} {e a b : Expr} {es : List Expr} {x y : Str} {α τ β Z δ S : Type} [Rp α] [RpA τ] [Rp β] [I : Ow δ] {mk : Z → δ} {sto : S → Sto}
theorem xai_last (c : Cok X Γ N sc k) {i : Nat} {z : δ} (hi : ρ[i]? = some (.own δ I z)) (hN : N[i]? = some x) (hv : Vis sc x) (hd : (x == ("__debug__" : Str)) = false := by decide) (hcd : (x == ("__classdict__" : Str)) = false := by decide) (hs : starEach [.Name x p] X.env = (false, eval (.Name x p) X.env) :: starEach [] X.env := by rfl) :
    XAI X Γ B ρ i [.Name x p] (some ()) := imA (pa_cons (pv_ c hN hv hd hcd) pa_nil hs) fun σ H Q ⟨G, z, A, e, q⟩ => by
  cases e
  obtain ⟨v, fp, h1, h2, h3⟩ := A.getO hi
  exact ⟨v, h1, q [] v G H (.refl A.sub) rfl h1⟩
theorem xai_cons {i : Nat} {m : Option α} {mt : Option τ} (he : XE X Γ B ρ e m) (ht : XAI X Γ B ρ i es mt) (hs : starEach (e :: es) X.env = (false, eval e X.env) :: starEach es X.env := by rfl) : XAI X Γ B ρ i (e :: es) (b2 m mt fun a t => some (a, t)) := imA (pa_cons he ht hs) fun σ H Q ⟨G, z, A, e, q⟩ => by
  cases m with
  | none => cases e
  | some y =>
    cases mt with
    | none => cases e
    | some t =>
      cases e
      exact ⟨G, y, A, rfl, fun v G1 H1 g1 r1 => ⟨G1, t, A.grow g1, rfl, fun vs u G2 H2 g2 r2 hu => q (v :: vs) u G2 H2 (g1.trans g2) ⟨v, vs, rfl, Rp.mono g2.leG r1, r2⟩ hu⟩⟩
theorem xf_callI [O : One I] (c : Cok X Γ N sc k) (i : Nat) {z0 : Z} {f : τ → Z → Option (β × Z)} {mt : Option τ} (h : CalI Γ x j mk f) (hk : j ≤ k) (hg : Glb sc x) (hi : ρ[i]? = some (ow (mk z0))) (ha : XAI X Γ B ρ i (e :: es) mt) (hdb : (x == ("__debug__" : Str)) = false := by decide) (he : starEach (e :: es) X.env = (false, eval e X.env) :: starEach es X.env := by rfl) (hpl : (backTo pos (starEach es X.env)).any (·.1) = false := by rfl) :
    XF X Γ B ρ (.Call (.Name x p) (e :: es) [] pos) (mt.bind fun t => f t z0) (fun z => ρ.set i (ow (mk z))) := by
  obtain ⟨a, fd, ps, F, hm, kp, bi⟩ := h.ex
  refine imE (pe_call (dvs := []) (CX := CX0) (E := E0) (by rw [c.hP, c.hw, c.hK, c.hmg, c.hbase]; exact F) (c.room.mono hk) (c.gl hg) (by rw [c.hmg]; exact hm) (by rw [c.hK]; exact kp) (by rw [c.hK]; exact bi) .nil pass0 ha hdb he hpl) fun σ H Q ⟨G, b, z', A, e, q⟩ => ?_
  cases mt with
  | none => cases e
  | some t =>
    refine ⟨G, t, A, rfl, fun vs v G1 H1 g1 r1 hv => ?_⟩
    show specI Γ mk f ((vs ++ [v]) ++ []) H1 Q E0
    rw [List.append_nil]
    have A1 := A.grow g1
    obtain ⟨v2, fp, h1, h2, h3, h4⟩ := A1.openO hi
    rw [hv] at h1
    cases h1
    obtain ⟨q1, hq1, hq2⟩ := One.one (I := I) h2
    subst hq1 hq2
    refine ⟨G1, t, z0, b, z', vs, q1, g1.sub, rfl, r1, h3 q1 (by simp), h2, e, fun v G2 H2 g2 r2 o2 => ?_⟩
    refine q v G2 H2 (g1.leG.trans g2.leG) (h4 δ I (mk z') G2 H2 [q1] g2.leG g2.sub g2.thin (fun x o hx e => g2.keep x o (by simpa using hx) e) (fun x hx => ?_) (fun x hx => .inl hx) o2) r2
    rw [List.mem_singleton.mp hx]
    exact g2.live q1 ((Ow.there h2) q1 (by simp))
/-- .. a new dict handed to it -/
theorem xe_callI0 {κ α' : Type} [KT κ] [Rp α'] {f : τ → List (κ × α') → Option (β × List (κ × α'))} (c : Cok X Γ N sc k) {mt : Option τ} (h : CalI Γ x j (OT.mk (κ := κ) (α := α')) f) (hk : j ≤ k) (hg : Glb sc x) (hs : PA X (e :: es) (fun σ H Q => cA Γ B ρ mt σ H fun vs H1 => ∀ q, H1 q = none → Q (vs ++ [.ref q]) (upd H1 q (.dT []))))
    (hdb : (x == ("__debug__" : Str)) = false := by decide) (he : starEach (e :: es) X.env = (false, eval e X.env) :: starEach es X.env := by rfl) (hpl : (backTo pos (starEach es X.env)).any (·.1) = false := by rfl) :
    XE X Γ B ρ (.Call (.Name x p) (e :: es) [] pos) (mt.bind fun t => (f t []).bind fun q => some q.1) := by
  obtain ⟨a, fd, ps, F, hm, kp, bi⟩ := h.ex
  refine imE (pe_call (dvs := []) (CX := CX0) (E := E0) (by rw [c.hP, c.hw, c.hK, c.hmg, c.hbase]; exact F) (c.room.mono hk) (c.gl hg) (by rw [c.hmg]; exact hm) (by rw [c.hK]; exact kp) (by rw [c.hK]; exact bi) .nil pass0 hs hdb he hpl) fun σ H Q ⟨G, b, A, e, q⟩ => ?_
  cases mt with
  | none => cases e
  | some t =>
    refine ⟨G, t, A, rfl, fun vs G1 H1 g1 r1 d hd => ?_⟩
    show specI Γ (OT.mk (κ := κ) (α := α')) f ((vs ++ [.ref d]) ++ []) (upd H1 d (.dT [])) Q E0
    rw [List.append_nil]
    have e : ((f t []).bind fun q => some q.1) = some b := e
    cases hf : f t [] with
    | none => rw [hf] at e; cases e
    | some r =>
      rw [hf] at e
      cases e
      have g2 := Grow.newO g1.sub hd (.dT [])
      refine ⟨G1, t, [], r.1, r.2, vs, d, g2.sub, rfl, r1, g1.sub.none hd, ⟨d, [], rfl, rfl, upd_same, .nil⟩, hf, fun v G3 H3 g3 r3 o3 => ?_⟩
      refine q v G3 H3 (g1.trans ⟨g3.leG, fun a o ho => ?_, g3.sub, fun a ha hg => ?_⟩) r3
      · have z : a ≠ d := fun z => by rw [z, hd] at ho; cases ho
        exact g3.keep a o z (by rw [upd_ne z]; exact ho)
      · have z : a ≠ d := fun z => ha (by rw [z]; exact hd)
        have t := g3.thin a (by rw [upd_ne z]; exact ha) hg
        rw [upd_ne z] at t
        exact t
/-- the arguments of such a call -/
theorem xa0_last {p3 : Pos} (hs : starEach [.Dict [] [] p3] X.env = (false, eval (.Dict [] [] p3) X.env) :: starEach [] X.env := by rfl) : PA X [.Dict [] [] p3] (fun σ H Q => cA Γ B ρ (some ()) σ H fun vs H1 => ∀ q, H1 q = none → Q (vs ++ [.ref q]) (upd H1 q (.dT []))) :=
  imA (pa_cons pe_dnewT pa_nil hs) fun σ H Q ⟨G, z, A, e, q⟩ => by
  cases e
  exact fun d hd => q [] G H (.refl A.sub) rfl d hd
theorem xa0_cons {m : Option α} {mt : Option τ} (he : XE X Γ B ρ e m) (ht : PA X es (fun σ H Q => cA Γ B ρ mt σ H fun vs H1 => ∀ q, H1 q = none → Q (vs ++ [.ref q]) (upd H1 q (.dT [])))) (hs : starEach (e :: es) X.env = (false, eval e X.env) :: starEach es X.env := by rfl) :
    PA X (e :: es) (fun σ H Q => cA Γ B ρ (b2 m mt fun a t => some (a, t)) σ H fun vs H1 => ∀ q, H1 q = none → Q (vs ++ [.ref q]) (upd H1 q (.dT []))) := imA (pa_cons he ht hs) fun σ H Q ⟨G, z, A, e, q⟩ => by
  cases m with
  | none => cases e
  | some y =>
    cases mt with
    | none => cases e
    | some t =>
      cases e
      exact ⟨G, y, A, rfl, fun v G1 H1 g1 r1 => ⟨G1, t, A.grow g1, rfl, fun vs G2 H2 g2 r2 d hd => q (v :: vs) G2 H2 (g1.trans g2) ⟨v, vs, rfl, Rp.mono g2.leG r1, r2⟩ d hd⟩⟩
/-! ### what is reckoned with such a call in it -/
/-- an operation on values that no heap has a part in, the right one changing the store -/
theorem xf_op2R {α γ β : Type} [At1 α] [Rp β] [Rp γ] {op : Operator} {r : R2} {f : α → β → Option γ} {ma : Option α} {mb : Option (β × S)} (ho : OpR X (binaryOp op) r) (hf : Op2 Γ r f) (ha : XE X Γ B ρ a ma) (hb : XF X Γ B ρ b mb sto) :
    XF X Γ B ρ (.BinOp a op b pos) (ma.bind fun x => mb.bind fun q => (f x q.1).bind fun z => some (z, q.2)) sto := imE (pe_op ho ha hb) fun σ H Q ⟨G, z, s, A, e, q⟩ => by
  cases ma with
  | none => cases e
  | some x =>
    cases mb with
    | none => cases e
    | some y =>
      have e : ((f x y.1).bind fun z => some (z, y.2)) = some (z, s) := e
      cases hz : f x y.1 with
      | none => rw [hz] at e; cases e
      | some w =>
        rw [hz] at e
        cases e
        refine ⟨G, x, A, rfl, fun v1 G1 H1 g1 r1 => ⟨G1, y.1, y.2, A.grow g1, rfl, fun v2 G2 H2 l2 A2 r2 => ?_⟩⟩
        exact hf G2 H2 v1 v2 x y.1 _ A2.sub (by rw [rep1 r1]; exact rfl) r2 hz Q fun v G3 H3 g3 r3 => q v G3 H3 ((g1.leG.trans l2).trans g3.leG) (A2.grow g3) r3
theorem xf_max2R (c : Cok X Γ N sc k) {ma : Option Int} {mb : Option (Int × S)} (ha : XE X Γ B ρ a ma) (hb : XF X Γ B ρ b mb sto) (hg : Glb sc "max") (hm : Γ.mg "max" = none) (s1 : starEach [a, b] X.env = (false, eval a X.env) :: starEach [b] X.env := by rfl) (s2 : starEach [b] X.env = (false, eval b X.env) :: starEach [] X.env := by rfl) (hpl : (backTo pos (starEach [b] X.env)).any (·.1) = false := by rfl) :
    XF X Γ B ρ (.Call (.Name "max" p) [a, b] [] pos) (ma.bind fun x => mb.bind fun q => some (maxI x q.1, q.2)) sto :=
  imE (pe_callB (call_max2 c.calm) (c.gl hg) (by rw [c.hmg]; exact hm) PyProof.Rows.boot_max (pa_cons ha (pa_cons hb pa_nil s2) s1) (he := s1) (hpl := hpl)) fun σ H Q ⟨G, z, s, A, e, q⟩ => by
  cases ma with
  | none => cases e
  | some x =>
    cases mb with
    | none => cases e
    | some y =>
      cases e
      refine ⟨G, x, A, rfl, fun v1 G1 H1 g1 r1 => ⟨G1, y.1, y.2, A.grow g1, rfl, fun v2 G2 H2 l2 A2 r2 => ?_⟩⟩
      exact ⟨x, y.1, by rw [rep1 r1, rep1 r2]; rfl, q _ G2 H2 (g1.leG.trans l2) A2 rfl⟩
end
theorem ol_fp {Γ : Gm} {α : Type} [Rp α] {xs : List α} : ∀ G H v fp, Ow.own Γ G H v fp (OL.mk xs) → ∀ p, v = .ref p → p ∈ fp := fun _ _ _ _ ⟨a, vs, h1, h2, _⟩ p e => by
  rw [h1] at e
  injection e with e
  rw [h2, e]; simp
/-! ### a new list from a call -/
section
variable {X : Cx} {Γ : Gm} {B : Bs} {ρ : Sto} {N : List Str} {sc : Scope} {k j : Nat} {pos p p' : Pos} {e a b : Expr} {es : List Expr} {x y : Str} {α τ : Type} [Rp α] [RpA τ]
/-- the frozen heap less one object -/
theorem xn_callEF [Flat α] (c : Cok X Γ N sc k) {f : τ → Option (Except Er (List α))} {mt : Option τ} (h : CalE Γ x j true f) (hk : j ≤ k) (hg : Glb sc x) (ha : XA X Γ B ρ (e :: es) mt) (hdb : (x == ("__debug__" : Str)) = false := by decide) (he : starEach (e :: es) X.env = (false, eval e X.env) :: starEach es X.env := by rfl) (hpl : (backTo pos (starEach es X.env)).any (·.1) = false := by rfl) :
    XN X Γ B ρ (.Call (.Name x p) (e :: es) [] pos) (mt.bind fun t => (f t).bind okOf) := by
  obtain ⟨a, fd, ps, F, hm, kp, bi⟩ := h.ex
  refine imE (pe_call (dvs := []) (CX := L2.CX X.prog X.w) (E := E0) (by rw [c.hP, c.hw, c.hK, c.hmg, c.hbase]; exact F) (c.room.mono hk) (c.gl hg) (by rw [c.hmg]; exact hm) (by rw [c.hK]; exact kp) (by rw [c.hK]; exact bi) .nil passL ha hdb he hpl) fun σ H Q ⟨G, z, A, e, q⟩ => ?_
  cases mt with
  | none => cases e
  | some t =>
    refine ⟨G, t, A, rfl, fun vs G1 H1 g1 r1 => ?_⟩
    show specE Γ true f (vs ++ []) H1 Q E0
    rw [List.append_nil]
    have e : (f t).bind okOf = some z := e
    cases hf : f t with
    | none => rw [hf] at e; cases e
    | some r =>
      rw [hf] at e
      cases r with
      | error er => cases e
      | ok b =>
        cases e
        refine ⟨G1, t, .ok _, g1.sub, r1, hf, fun v G2 H2 g2 ⟨d, us, hv, hd, rl⟩ fr => ?_⟩
        subst hv
        have hd1 : H1 d = none := fr rfl d rfl
        have hdH : H d = none := by
          cases q : H d with
          | none => rfl
          | some o => rw [g1.leH d o q] at hd1; cases hd1
        have hd2 : H2 d = some (.lst us) := g2.sub _ _ hd
        -- the heap as it is less the new list
        let H3 : Hp := fun a => if a = d then none else H2 a
        have e3 : H2 = upd H3 d (.lst us) := by
          funext a
          by_cases z : a = d
          · subst z; rw [upd_same, hd2]
          · rw [upd_ne z]; show H2 a = if a = d then none else H2 a
            rw [if_neg z]
        rw [e3]
        refine q d us G H3 ⟨.refl _, fun a o ho => ?_, fun a o ho => ?_, fun _ _ h => .inl h⟩ (by show (if d = d then none else H2 d) = none; rw [if_pos rfl]) rl.flat
        · have z : a ≠ d := fun z => by rw [z, hdH] at ho; cases ho
          show (if a = d then none else H2 a) = some o
          rw [if_neg z]
          exact g2.leH _ _ (g1.leH _ _ ho)
        · have ho2 := A.sub _ _ ho
          have z : a ≠ d := fun z => by rw [z, hdH] at ho2; cases ho2
          show (if a = d then none else H2 a) = some o
          rw [if_neg z]
          exact g2.leH _ _ (g1.leH _ _ ho2)
end
end Sim

set_option Elab.async false
set_option autoImplicit false
set_option linter.all false
set_option maxRecDepth 100000
set_option maxHeartbeats 1000000
namespace Sim
open PySem PySem.Spec PyProof.Rows L2
open Rp (rep)
open RpA (repA stoA)
/-! ### from the head's facts -/
theorem fun_of {K : PySem.W.Frag} {x qual : Str} {st : Stmt} {f : Addr} {fd : FuncData} (F : FunD K x qual (defArgs st) (defBody st) (defScope st) [] [] f fd) : Fun K x qual st f fd := by
  obtain ⟨oc, od, dV, kV, doc, pm, an, cdv, ct, osl, h1, h2, h3, h4, h5⟩ := F.ex
  rcases h4 with ⟨_, h4⟩ | ⟨h4, _⟩
  · subst h4
    exact ⟨⟨oc, od, kV, doc, pm, an, cdv, ct, osl, h1, h2, h3⟩, F.kp⟩
  · exact absurd rfl h4
theorem def_ok {Γ : Gm} {x : Str} {st : Stmt} {ps : List Str} {f : Addr} {fd : FuncData} (F : FunD Γ.K x x (defArgs st) (defBody st) (defScope st) [] [] f fd) (hg : Γ.mg x = some (.ref f))
    (h : ∀ (kV doc pm : Value) (an : Option Addr) (cdv ct : Value) (us : List Value), us.length = ps.length → bindArgs (PySem.W.fnOf x x (defArgs st) (defBody st) (defScope st) .none kV doc pm an cdv ct) ⟨us, []⟩ = pure (ps.zip us)) : Def Γ x st ps :=
  ⟨f, fd, fun_of F, hg, fun s us _ hl => by
    rw [List.append_nil] at hl ⊢
    exact F.bindsA h s us hl⟩
section
variable {Γ : Gm} {x : Str} {st : Stmt} {N ps : List Str} {k : Nat} {τ β : Type} [RpA τ] [Rp β] {fr : Bool} {S : Type} {sto : S → Sto}
/-- the rule for a def that is pure, its function given -/
theorem fnok_of {a : Addr} {fd : FuncData} (F : Fun Γ.K x x st a fd) (Sc : FnScope N ps (defScope st)) {m : τ → Option (Fl S Empty β Unit)} (fin : S → β) (hfin : ∀ s (G : Hp), rep Γ G .non (fin s)) (hps : RpA.num τ = ps.length)
    (hb : ∀ (X : Cx) (B : Bs) (t : τ), Dok X Γ B N (defScope st) k [] (fun _ _ _ _ => False) [] → XB X Γ B (ktP β fr N.length) (stoA t ++ deads (N.length - RpA.num τ)) (defBody st) (m t) sto) (fm : τ → Option β) (hm : ∀ t, fm t = (m t).bind (retP fin)) : FnOk Γ.P Γ.w Γ.K Γ.mg Γ.base CX0 (k + 1) a fd ps (specP Γ fr fm) := by
  refine F.ok Sc (fun vs H Q E h => ?_) (fun cdv A outer s H vs Q E hr h => ?_)
  · obtain ⟨G, t, b, h1, h2, _⟩ := h
    rw [(RpA.okA (H := H) h2).1, hps]
  · obtain ⟨G, t, b, h1, h2, h3, q⟩ := h
    have hN : RpA.num τ ≤ N.length := by
      rw [hps]
      have z := congrArg List.length Sc.pre
      rw [List.length_take] at z
      omega
    have A0 := at_start (fx := []) h1 h2 hN
    refine ⟨_, hb _ ⟨G, H, [], L2.start N vs, []⟩ t ⟨⟨rfl, rfl, rfl, rfl, rfl, rfl, Sc.nd, rfl, rfl, hr⟩, PassesOwn.never, fun _ => rfl, takes0, rfl, rfl, rfl, rfl⟩, ?_⟩
    rw [hm] at h3
    cases e : m t with
    | none => rw [e] at h3; cases h3
    | some r =>
      rw [e] at h3
      refine ⟨G, r, A0, by first | exact e | rfl, ?_⟩
      cases r with
      | nx s1 =>
        have h3 : some (fin s1) = some b := h3
        have h3 := Option.some.inj h3
        subst h3
        intro G' H' σ' A'
        exact q .non G' H' A'.grown (hfin s1 G') fun _ p z => by cases z
      | bk l => exact l.elim
      | ct l => exact l.elim
      | ret b' c =>
        have h3 : some b' = some b := h3
        have h3 := Option.some.inj h3
        subst h3
        intro v G' H' σ' A' r f
        exact q v G' H' A'.grown r f
      | err e' c => cases h3
end
/-- where the law begins -/
theorem law_start {Γ : Gm} {m : Scr × Unit → Option Bool} {H : Hp} {a : Addr} {ns : List Int} (hS : SqL Γ.K H a (ns.map V.int)) (h : m (⟨ns⟩, ()) = some true) {E : XK} : specP Γ false m [.ref a] H (fun v _ => v = .bl true) E :=
  ⟨H, (⟨ns⟩, ()), true, fun _ _ q => q, ⟨.ref a, [], rfl, ⟨a, rfl, hS⟩, rfl⟩, h, fun v G' H' _ r _ => r⟩
theorem ext_ok {Γ : Gm} {x : Str} {n : Nat} {h : Heap} (X : Γ.K.In h) (G : h.Ns mainGlobals Γ.mg) (hC : Γ.C n = He.ga Γ.K x) (c1 : (He.Fa.glo x).ok Γ.K = true) (c2 : (He.Fa.exc x).ok Γ.K = true) : ExT Γ x n := by
  obtain ⟨h1, h2, h3, h4⟩ := He.exc_ok c2
  refine ⟨?_, ?_, ?_, ?_, ?_⟩
  · rw [hC]; exact He.glo_ok X G c1
  all_goals rw [hC]
  · exact h2
  · exact h1
  · exact h3
  · exact h4
end Sim

set_option Elab.async false
set_option autoImplicit false
set_option linter.all false
set_option maxRecDepth 100000
set_option maxHeartbeats 1000000
namespace Sim
open PySem PySem.Spec PyProof.Rows L2
open Rp (rep)
open At1 (toV)
open K1 (key)
open KT (keys)
open Ow (own)
open Dat (toD)
open RpA (repA stoA)
section
variable {X : Cx} {Γ : Gm} {B : Bs} {L β C : Type} [Rp β] {F : Kt L β C} {ρ ρ' : Sto} {N : List Str} {sc : Scope} {k : Nat} {fx : List Nat} {W : WX} {M : List Addr} {pos p p' p2 : Pos} {e a b o tg it elt kx : Expr} {st : Stmt} {sts rest body : List Stmt} {es : List Expr} {S S1 : Type} {sto : S → Sto}
variable {α γ : Type} [Rp α] [Rp γ]
/-- == and != of lists that are read -/
theorem xc_eqR (c : Cok X Γ N sc k) [DecidableEq α] [Dat α] {ma mb : Option (List α)} (ha : XR X Γ B ρ a ma) (hb : XR X Γ B ρ b mb) (hd : Dat.dep α ≤ 50 := by decide) : XC X Γ B ρ .Eq a b (b2 ma mb fun x y => some (decide (x = y))) := imC (pc_R (op_eqD c.hu64) ha hb) fun σ H Q ⟨G, z, A, e, q⟩ => by
  cases ma with
  | none => cases e
  | some x =>
    cases mb with
    | none => cases e
    | some y =>
      cases e
      refine ⟨G, x, A, rfl, fun p1 vs G1 H1 g1 hp r1 => ⟨G1, y, A.grow g1, rfl, fun p2 ws G2 H2 g2 hp2 r2 => ⟨.list (x.map toD), .list (y.map toD), ?_, ?_, dat_shapedL (by omega) x, dat_shapedL (by omega) y, q _ G2 H2 (g1.trans g2) ?_⟩⟩⟩
      · rw [c.hK]; exact .lst (SqL.of (g2.leH _ _ hp)) (DpAll.up g2.sub (dat_reads (r1.mono g2.leG)))
      · rw [c.hK]; exact .lst (SqL.of hp2) (DpAll.up g2.sub (dat_reads r2))
      · show V.bl _ = V.bl _
        have := Dat.eqv (α := List α) x y
        rw [show PyData.eqv (.list (x.map toD)) (.list (y.map toD)) = decide (x = y) from this]
theorem xc_neR (c : Cok X Γ N sc k) [DecidableEq α] [Dat α] {ma mb : Option (List α)} (ha : XR X Γ B ρ a ma) (hb : XR X Γ B ρ b mb) (hd : Dat.dep α ≤ 50 := by decide) : XC X Γ B ρ .NotEq a b (b2 ma mb fun x y => some (!decide (x = y))) := imC (pc_R (op_neD c.hu64) ha hb) fun σ H Q ⟨G, z, A, e, q⟩ => by
  cases ma with
  | none => cases e
  | some x =>
    cases mb with
    | none => cases e
    | some y =>
      cases e
      refine ⟨G, x, A, rfl, fun p1 vs G1 H1 g1 hp r1 => ⟨G1, y, A.grow g1, rfl, fun p2 ws G2 H2 g2 hp2 r2 => ⟨.list (x.map toD), .list (y.map toD), ?_, ?_, dat_shapedL (by omega) x, dat_shapedL (by omega) y, q _ G2 H2 (g1.trans g2) ?_⟩⟩⟩
      · rw [c.hK]; exact .lst (SqL.of (g2.leH _ _ hp)) (DpAll.up g2.sub (dat_reads (r1.mono g2.leG)))
      · rw [c.hK]; exact .lst (SqL.of hp2) (DpAll.up g2.sub (dat_reads r2))
      · show V.bl _ = V.bl _
        have := Dat.eqv (α := List α) x y
        rw [show PyData.eqv (.list (x.map toD)) (.list (y.map toD)) = decide (x = y) from this]
/-! ### tests that change the store -/
def cTF (Γ : Gm) (B : Bs) (ρ : Sto) {S : Type} (m : Option (Bool × S)) (sto : S → Sto) : TT := fun σ H Q => ∃ G b s, At Γ B ρ G H σ ∧ m = some (b, s) ∧ ∀ G' H', Le G G' → At Γ B (sto s) G' H' σ → Q b H'
abbrev XTF (X : Cx) (Γ : Gm) (B : Bs) (ρ : Sto) (e : Expr) {S : Type} (m : Option (Bool × S)) (sto : S → Sto) : Prop := PT X e (cTF Γ B ρ m sto)
theorem allEx {I : Type} {t : I → TE} (h : ∀ i, PE X e (t i)) : PE X e (fun σ H Q => ∃ i, t i σ H Q) := ⟨fun pins s σ H Q I ⟨i, q⟩ => (h i).run pins s σ H Q I q⟩
/-- the left side changes the store, the right one is read behind it -/
theorem xtf_cmpL {op : CmpOp} {r : R2} {f : α → γ → Option Bool} {ma : Option (α × S)} {mb : S → Option γ} (ho : OpR X (compareOp op) r) (hf : Op2 Γ r f) (ha : XF X Γ B ρ a ma sto) (hb : ∀ s, XE X Γ B (sto s) b (mb s)) (hm : behindInMarks op b = false := by rfl) :
    XTF X Γ B ρ (.Compare a [op] [b] pos) (ma.bind fun q => (mb q.2).bind fun y => (f q.1 y).bind fun z => some (z, q.2)) sto :=
  imT (pt_cmpR ho ha (allEx hb) hm) fun σ H Q ⟨G, z, s, A, e, q⟩ => by
  cases ma with
  | none => cases e
  | some x =>
    have e : ((mb x.2).bind fun y => (f x.1 y).bind fun z => some (z, x.2)) = some (z, s) := e
    cases hy : mb x.2 with
    | none => rw [hy] at e; cases e
    | some y =>
      rw [hy] at e
      have e : ((f x.1 y).bind fun z => some (z, x.2)) = some (z, s) := e
      cases hz : f x.1 y with
      | none => rw [hz] at e; cases e
      | some w =>
        rw [hz] at e
        cases e
        refine ⟨G, x.1, x.2, A, rfl, fun v1 G1 H1 l1 A1 r1 => ⟨x.2, G1, y, A1, hy, fun v2 G2 H2 g2 r2 => ?_⟩⟩
        refine hf G2 H2 v1 v2 x.1 y _ g2.sub (Rp.mono g2.leG r1) r2 hz _ fun v G3 H3 g3 r3 => ?_
        exact ⟨z, rep1 r3, q G3 H3 ((l1.trans g2.leG).trans g3.leG) ((A1.grow g2).grow g3)⟩
theorem xtf_eq {m m' : Option (Bool × S)} (h : XTF X Γ B ρ e m sto) (q : m = m') : XTF X Γ B ρ e m' sto := q ▸ h
theorem xp_ifF {c : Expr} {mc : Option (Bool × S1)} {stoc : S1 → Sto} {m1 m2 : S1 → Option S} (hc : XTF X Γ B ρ c mc stoc) (h1 : ∀ s, XP X Γ B (stoc s) sts (m1 s) sto) (h2 : ∀ s, XP X Γ B (stoc s) rest (m2 s) sto) : XP1 X Γ B ρ (.If c sts rest pos) (mc.bind fun q => if q.1 = true then m1 q.2 else m2 q.2) sto := imS (ps_if hc (allB h1) (allB h2)) fun D σ H ⟨G, s, A, e, q⟩ => by
  cases mc with
  | none => cases e
  | some x =>
    obtain ⟨t, s1⟩ := x
    refine ⟨G, t, s1, A, rfl, fun G1 H1 l1 A1 => ?_⟩
    cases t with
    | true => exact ⟨s1, G1, s, A1, e, q⟩
    | false => exact ⟨s1, G1, s, A1, e, q⟩
theorem xb_ifF {c : Expr} {mc : Option (Bool × S1)} {stoc : S1 → Sto} {m1 m2 : S1 → Option (Fl S L β C)} (hc : XTF X Γ B ρ c mc stoc) (h1 : ∀ s, XB X Γ B F (stoc s) sts (m1 s) sto) (h2 : ∀ s, XB X Γ B F (stoc s) rest (m2 s) sto) : XB1 X Γ B F ρ (.If c sts rest pos) (mc.bind fun q => if q.1 = true then m1 q.2 else m2 q.2) sto := imS (ps_if hc (allB h1) (allB h2)) fun D σ H ⟨G, s, A, e, q⟩ => by
  cases mc with
  | none => cases e
  | some x =>
    obtain ⟨t, s1⟩ := x
    refine ⟨G, t, s1, A, rfl, fun G1 H1 l1 A1 => ?_⟩
    cases t with
    | true => exact ⟨s1, G1, s, A1, e, by cases s <;> exact q⟩
    | false => exact ⟨s1, G1, s, A1, e, by cases s <;> exact q⟩
end
end Sim

set_option Elab.async false
set_option autoImplicit false
set_option linter.all false
set_option maxRecDepth 100000
set_option maxHeartbeats 1000000
namespace Sim
open PySem L2
open Rp (rep)
open At1 (toV)
open Ow (own)
/-! ### a list of one's own is walked, and stays one's own -/
/-- the base with more frozen, slot i held -/
abbrev Bs.upO (B : Bs) (G : Hp) (σ : St) (i : Nat) : Bs := { B with G := G, σ := σ, fx := i :: B.fx }
theorem At.upO {Γ : Gm} {B : Bs} {ρ ρ' : Sto} {G H G' H' : Hp} {σ σ' : St} {i : Nat} (A0 : At Γ B ρ G H σ) (A : At Γ B ρ' G' H' σ') (l : Le G G') (hi : σ'[i]? = σ[i]?) : At Γ (B.upO G σ i) ρ' G' H' σ' :=
  ⟨A.sub, l, A.keep, A.live, fun a hm hb hg => A.thin a hm hb (by
    cases q : B.G a with
    | none => rfl
    | some o => exact absurd ((A0.le a o q).symm.trans hg) (by simp)), A.slots, fun j hj => by
    rcases List.mem_cons.mp hj with e | e
    · rw [e]; exact hi
    · rw [A.fix j e, A0.fix j e]⟩
theorem At.downO {Γ : Gm} {B : Bs} {ρ ρ' : Sto} {G H G' H' : Hp} {σ σ' : St} {i : Nat} (A0 : At Γ B ρ G H σ) (A : At Γ (B.upO G σ i) ρ' G' H' σ') : At Γ B ρ' G' H' σ' ∧ σ'[i]? = σ[i]? :=
  ⟨⟨A.sub, A0.le.trans A.le, A.keep, A.live, fun a hm hb hg => (A0.thin a hm hb hg).trans (A.thin a hm hb), A.slots, fun j hj => by
    have e := A.fix j (List.mem_cons_of_mem _ hj)
    have e : σ'[j]? = σ[j]? := e
    rw [e, A0.fix j hj]⟩, A.fix i List.mem_cons_self⟩
section
variable {X : Cx} {Γ : Gm} {B : Bs} {L β C : Type} [Rp β] {F : Kt L β C} {ρ ρ' : Sto} {N : List Str} {sc : Scope} {k : Nat} {fx : List Nat} {W : WX} {M : List Addr} {pos p : Pos} {tg : Expr} {body : List Stmt} {S : Type} {sto : S → Sto} {α : Type} [At1 α]
theorem xb_forO (d : Dok X Γ B N sc k fx W M) {x : Str} (i : Nat) {xs : List α} {ρt : S → α → Sto} {f : S → α → Option (Fl S S β C)} (s0 : S) (hi : ∀ s, (sto s)[i]? = some (ow (OL.mk xs))) (hN : N[i]? = some x) (hv : Vis sc x)
    (hg : ∀ B', Dok X Γ B' N sc k (i :: fx) W M → XG X Γ B' tg sto ρt) (hb : ∀ B', Dok X Γ B' N sc k (i :: fx) W M → ∀ s a, XB X Γ B' (F.loop S sto) (ρt s a) body (f s a) sto)
    (hd : (x == ("__debug__" : Str)) = false := by decide) (hcd : (x == ("__classdict__" : Str)) = false := by decide) (hs : ∀ y, foldedSetIterable (.Name x p) X.env y = pure y := by intro _; rfl) : XB1 X Γ B F (sto s0) (.For tg (.Name x p) body [] pos) (forF f s0 xs) sto := by
  have up : ∀ q : Hp × St, Dok X Γ (B.upO q.1 q.2 i) N sc k (i :: fx) W M := fun q => ⟨d.toCok, d.own, d.hfn, d.tk, by show i :: B.fx = i :: fx; rw [d.hfx], d.hM, d.stk, d.frm⟩
  refine imS (ps_for (g := fun v σ H Q => ∃ q : Hp × St, cG Γ (B.upO q.1 q.2 i) sto ρt v σ H Q) (tb := fun D σ H => ∃ p : (Hp × St) × S × α, cS Γ (B.upO p.1.1 p.1.2 i) (F.loop S sto) (ρt p.2.1 p.2.2) (f p.2.1 p.2.2) sto D σ H) d.own d.calm (pi_list (pv_ d.toCok hN hv hd hcd))
    ⟨fun pins s σ H v u Q I r ⟨G, q⟩ => (hg _ (up G)).run pins s σ H v u Q I r q⟩ (allB fun p => hb _ (up p.1) p.2.1 p.2.2) hs) fun D σ H ⟨G, r, A, e, q⟩ => ?_
  obtain ⟨v0, fp, h1, ⟨l, vs, rfl, h3, h4, h5⟩, h6⟩ := A.getO (hi s0)
  have hvs := h5.toV
  have content : ∀ {s : S} {G1 H1 : Hp} {σ1 : St}, At Γ B (sto s) G1 H1 σ1 → σ1[i]? = σ[i]? → H1 l = some (.lst vs) := fun {s G1 H1 σ1} A1 hσ => by
    obtain ⟨v1, fp1, k1, ⟨l1, vs1, rfl, k3, k4, k5⟩, k6⟩ := A1.getO (hi s)
    rw [hσ, h1] at k1
    cases k1
    rw [k4, k5.toV, hvs]
  refine ⟨.ref l, h1, l, rfl, ⟨vs, SqL.of h4⟩, ?_⟩
  have hw : Walk (Itl X.K l) xs.length (fun H => SqL X.K H l vs) (YAt vs) := by
    rw [← h5.length]
    exact walk_list
  refine for_it (g := fun v σ H Q => ∃ q : Hp × St, cG Γ (B.upO q.1 q.2 i) sto ρt v σ H Q) (tb := fun D σ H => ∃ p : (Hp × St) × S × α, cS Γ (B.upO p.1.1 p.1.2 i) (F.loop S sto) (ρt p.2.1 p.2.2) (f p.2.1 p.2.2) sto D σ H) (D := D) hw
    (fun j σ1 H1 => ∃ s G1, At Γ B (sto s) G1 H1 σ1 ∧ Le G G1 ∧ σ1[i]? = σ[i]? ∧ (forF f s (xs.drop j) : Option (Fl S L β C)) = some r) ⟨s0, G, A, .refl _, rfl, e⟩ (fun j σ1 H1 _ ⟨s, G1, A1, _, hσ, _⟩ => SqL.of (content A1 hσ)) ?_ ?_
  · rintro j v σ1 H1 H2 hj ⟨s, G1, A1, l1, hσ, e1⟩ ⟨y1, y2⟩
    subst y1
    obtain ⟨a, hx, r2⟩ := h5.getV y2
    refine ⟨(G, σ), s, a, G1, A.upO A1 l1 hσ, by rw [rep1 r2]; exact rfl, fun G3 H3 σ3 l3 A3 => ?_⟩
    have ed : xs.drop j = a :: xs.drop (j + 1) := by
      obtain ⟨h1, h2⟩ := List.getElem?_eq_some_iff.mp hx
      rw [List.drop_eq_getElem_cons h1, h2]
    rw [ed] at e1
    refine ⟨⟨(G, σ), s, a⟩, ?_⟩
    have e1 : ((f s a).bind (flNext fun s' => forF f s' (xs.drop (j + 1)))) = some r := e1
    cases hf : f s a with
    | none => rw [hf] at e1; cases e1
    | some o =>
      rw [hf] at e1
      refine ⟨G3, o, A3, by first | exact hf | rfl, ?_⟩
      cases o with
      | nx s' => exact fun G4 H4 σ4 A4 => ⟨s', G4, (A.downO A4).1, A4.le, (A.downO A4).2, e1⟩
      | ct s' => exact fun G4 H4 σ4 A4 => ⟨s', G4, (A.downO A4).1, A4.le, (A.downO A4).2, e1⟩
      | bk s' =>
        have e1 := Option.some.inj e1
        subst e1
        exact fun G4 H4 σ4 A4 => q G4 H4 σ4 (A.downO A4).1
      | ret b c =>
        have e1 := Option.some.inj e1
        subst e1
        exact fun v G4 H4 σ4 A4 => q v G4 H4 σ4 (A.downO A4).1
      | err e c =>
        have e1 := Option.some.inj e1
        subst e1
        exact fun cls d G4 H4 σ4 A4 => q cls d G4 H4 σ4 (A.downO A4).1
  · rintro σ1 H1 ⟨s, G1, A1, l1, hσ, e1⟩
    rw [List.drop_length] at e1
    have e1 := Option.some.inj e1
    subst e1
    exact q G1 H1 σ1 A1
theorem xp_forO (d : Dok X Γ B N sc k fx W M) {x : Str} (i : Nat) {xs : List α} {ρt : S → α → Sto} {f : S → α → Option S} (s0 : S) (hi : ∀ s, (sto s)[i]? = some (ow (OL.mk xs))) (hN : N[i]? = some x) (hv : Vis sc x)
    (hg : ∀ B', Dok X Γ B' N sc k (i :: fx) W M → XG X Γ B' tg sto ρt) (hb : ∀ B', Dok X Γ B' N sc k (i :: fx) W M → ∀ s a, XP X Γ B' (ρt s a) body (f s a) sto)
    (hd : (x == ("__debug__" : Str)) = false := by decide) (hcd : (x == ("__classdict__" : Str)) = false := by decide) (hs : ∀ y, foldedSetIterable (.Name x p) X.env y = pure y := by intro _; rfl) : XP1 X Γ B (sto s0) (.For tg (.Name x p) body [] pos) (forP f s0 xs) sto := by
  have up : ∀ q : Hp × St, Dok X Γ (B.upO q.1 q.2 i) N sc k (i :: fx) W M := fun q => ⟨d.toCok, d.own, d.hfn, d.tk, by show i :: B.fx = i :: fx; rw [d.hfx], d.hM, d.stk, d.frm⟩
  refine imS (ps_for (g := fun v σ H Q => ∃ q : Hp × St, cG Γ (B.upO q.1 q.2 i) sto ρt v σ H Q) (tb := fun D σ H => ∃ p : (Hp × St) × S × α, cP Γ (B.upO p.1.1 p.1.2 i) (ρt p.2.1 p.2.2) (f p.2.1 p.2.2) sto D σ H) d.own d.calm (pi_list (pv_ d.toCok hN hv hd hcd))
    ⟨fun pins s σ H v u Q I r ⟨G, q⟩ => (hg _ (up G)).run pins s σ H v u Q I r q⟩ (allB fun p => hb _ (up p.1) p.2.1 p.2.2) hs) fun D σ H ⟨G, r, A, e, q⟩ => ?_
  obtain ⟨v0, fp, h1, ⟨l, vs, rfl, h3, h4, h5⟩, h6⟩ := A.getO (hi s0)
  have hvs := h5.toV
  have content : ∀ {s : S} {G1 H1 : Hp} {σ1 : St}, At Γ B (sto s) G1 H1 σ1 → σ1[i]? = σ[i]? → H1 l = some (.lst vs) := fun {s G1 H1 σ1} A1 hσ => by
    obtain ⟨v1, fp1, k1, ⟨l1, vs1, rfl, k3, k4, k5⟩, k6⟩ := A1.getO (hi s)
    rw [hσ, h1] at k1
    cases k1
    rw [k4, k5.toV, hvs]
  refine ⟨.ref l, h1, l, rfl, ⟨vs, SqL.of h4⟩, ?_⟩
  have hw : Walk (Itl X.K l) xs.length (fun H => SqL X.K H l vs) (YAt vs) := by
    rw [← h5.length]
    exact walk_list
  refine for_it (g := fun v σ H Q => ∃ q : Hp × St, cG Γ (B.upO q.1 q.2 i) sto ρt v σ H Q) (tb := fun D σ H => ∃ p : (Hp × St) × S × α, cP Γ (B.upO p.1.1 p.1.2 i) (ρt p.2.1 p.2.2) (f p.2.1 p.2.2) sto D σ H) (D := D) hw
    (fun j σ1 H1 => ∃ s G1, At Γ B (sto s) G1 H1 σ1 ∧ Le G G1 ∧ σ1[i]? = σ[i]? ∧ forP f s (xs.drop j) = some r) ⟨s0, G, A, .refl _, rfl, e⟩ (fun j σ1 H1 _ ⟨s, G1, A1, _, hσ, _⟩ => SqL.of (content A1 hσ)) ?_ ?_
  · rintro j v σ1 H1 H2 hj ⟨s, G1, A1, l1, hσ, e1⟩ ⟨y1, y2⟩
    subst y1
    obtain ⟨a, hx, r2⟩ := h5.getV y2
    refine ⟨(G, σ), s, a, G1, A.upO A1 l1 hσ, by rw [rep1 r2]; exact rfl, fun G3 H3 σ3 l3 A3 => ?_⟩
    have ed : xs.drop j = a :: xs.drop (j + 1) := by
      obtain ⟨h1, h2⟩ := List.getElem?_eq_some_iff.mp hx
      rw [List.drop_eq_getElem_cons h1, h2]
    rw [ed] at e1
    refine ⟨⟨(G, σ), s, a⟩, ?_⟩
    have e1 : ((f s a).bind fun s' => forP f s' (xs.drop (j + 1))) = some r := e1
    cases hf : f s a with
    | none => rw [hf] at e1; cases e1
    | some s' =>
      rw [hf] at e1
      exact ⟨G3, s', A3, by first | exact hf | rfl, fun G4 H4 σ4 A4 => ⟨s', G4, (A.downO A4).1, A4.le, (A.downO A4).2, e1⟩⟩
  · rintro σ1 H1 ⟨s, G1, A1, l1, hσ, e1⟩
    rw [List.drop_length] at e1
    have e1 := Option.some.inj e1
    subst e1
    exact q G1 H1 σ1 A1
end
end Sim

set_option Elab.async false
set_option autoImplicit false
set_option linter.all false
set_option maxRecDepth 100000
set_option maxHeartbeats 1000000
namespace Sim
open PySem L2
open Rp (rep)
open At1 (toV)
open Ow (own)
section
variable {X : Cx} {Γ : Gm} {B : Bs} {L β C : Type} [Rp β] {F : Kt L β C} {ρ ρ' : Sto} {N : List Str} {sc : Scope} {k : Nat} {fx : List Nat} {W : WX} {M : List Addr} {pos p p' p2 : Pos} {e a b o tg it elt kx : Expr} {st : Stmt} {sts : List Stmt} {es : List Expr} {S : Type} {sto : S → Sto}
variable {α γ : Type} [Rp α] [Rp γ]
/-- isinstance(xs, T) of a list that is read -/
theorem xe_isiR (c : Cok X Γ N sc k) {T : String} {x : Str} {r : Bool} {m : Option (List α)} (he : XR X Γ B ρ e m) (hg : Glb sc "isinstance") (hm : Γ.mg "isinstance" = none) (hg2 : Glb sc x) (hm2 : Γ.mg x = none) (hv : bootBuiltins x = some (.type T)) (hr : kitB "list" T = some r) (hn : x ≠ "__name__" := by decide) (hdb : (x == ("__debug__" : Str)) = false := by decide)
    (s1 : starEach [e, .Name x p2] X.env = (false, eval e X.env) :: starEach [.Name x p2] X.env := by rfl) (s2 : starEach [.Name x p2] X.env = (false, eval (.Name x p2) X.env) :: starEach [] X.env := by rfl) (hpl : (backTo pos (starEach [.Name x p2] X.env)).any (·.1) = false := by rfl) :
    XE X Γ B ρ (.Call (.Name "isinstance" p) [e, .Name x p2] [] pos) (m.bind fun _ => some r) :=
  imE (pe_callB call_isi (c.gl hg) (by rw [c.hmg]; exact hm) PyProof.Rows.boot_isinstance (pa_cons he (pa_cons (pe_bltn (c.gl hg2) (by rw [c.hmg]; exact hm2) hv (show RelV (.ty T) (.type T) from rfl) hn hdb) pa_nil s2) s1) (he := s1) (hpl := hpl)) fun σ H Q ⟨G, z, A, e, q⟩ => by
  cases m with
  | none => cases e
  | some w =>
    cases e
    exact ⟨G, w, A, rfl, fun l vs G1 H1 g1 hp r1 => ⟨.ref l, .ty T, .type "list", .type T, r, rfl, .ty T, .base (.lst hp), kit_ty hr, q _ G1 H1 g1 rfl⟩⟩
/-- list(range(n)) -/
theorem xn_listRange (c : Cok X Γ N sc k) {m : Option Int} (ha : XE X Γ B ρ a m) (hg : Glb sc "list") (hm : Γ.mg "list" = none) (hg2 : Glb sc "range") (hm2 : Γ.mg "range" = none) (s1 : starEach [a] X.env = (false, eval a X.env) :: starEach [] X.env := by rfl)
    (s2 : starEach [.Call (.Name "range" p2) [a] [] p'] X.env = (false, eval (.Call (.Name "range" p2) [a] [] p') X.env) :: starEach [] X.env := by rfl) :
    XN X Γ B ρ (.Call (.Name "list" p) [.Call (.Name "range" p2) [a] [] p'] [] pos) (m.bind fun n => if n.natAbs ≤ 16777216 then some (rangeL 0 n) else none) :=
  imE (pe_listRg c.calm (c.gl hg) (by rw [c.hmg]; exact hm) (prg_1 (c.gl hg2) (by rw [c.hmg]; exact hm2) ha s1) s2) fun σ H Q ⟨G, z, A, e, q⟩ => by
  cases m with
  | none => cases e
  | some n =>
    obtain ⟨hn, e⟩ := ite_some (show (if n.natAbs ≤ 16777216 then some (rangeL 0 n) else none) = some z from e)
    subst e
    refine ⟨G, n, A, rfl, fun v G1 H1 g1 r1 => ⟨n, rep1 r1, ⟨by omega, by omega, by omega, by omega, by omega⟩, fun q1 hq => ?_⟩⟩
    refine q q1 _ G1 H1 g1 hq ?_
    have : rgV 0 n = (rangeL 0 n).map toV := by
      unfold rgV rangeL
      rw [List.map_map]
      rfl
    rw [this]
    exact RpL.ofV _
end
end Sim

set_option Elab.async false
set_option autoImplicit false
set_option linter.all false
set_option maxRecDepth 100000
set_option maxHeartbeats 1000000
namespace L2
open PySem PySem.Spec PyProof.Rows
section
variable {X : Cx}
/-- the two ints of a key tuple -/
def kOf (H : Hp) (v : Value) : Int × Int := match v with
  | .ref t => (match H t with | some (.tup [.int i, .int j]) => (i, j) | _ => (0, 0))
  | _ => (0, 0)
theorem kOf_eq {H : Hp} {t : Addr} {i j : Int} (h : H t = some (.tup [.int i, .int j])) : kOf H (.ref t) = (i, j) := by
  unfold kOf
  simp only [h]
/-- sorted(d), d a dict whose keys are pairs of ints -/
theorem call_sortedDP (hcalm : X.calm = true) : CallR X (.builtin "sorted") (fun xs H Q => ∃ (a : Addr) (kvs : List (List Key × V)) (ks : List (Int × Int)), xs = [.ref a] ∧ Rd H a (.dT kvs) ∧ kvs.map (·.1) = ks.map (fun k => [Sum.inl k.1, Sum.inl k.2]) ∧ ks.length ≤ sizeLine ∧
    ∀ (zs : List (Int × Int)) (ys : List V) (p : Addr), zs.Perm ks → zs.Pairwise (fun a b => SrtO.lexB b a = false) → Paired (fun y z => ∃ t, y = V.ref t ∧ H t = some (.tup [.int z.1, .int z.2])) ys zs → H p = none → Q (.ref p) (upd H p (.lst ys))) := by
  intro pins s σ H xs us Q I r q
  obtain ⟨a, kvs, ks0, ex, hd, hks, hsz, q⟩ := q
  subst ex
  obtain ⟨u, eu, rx⟩ := vals1 r
  subst eu
  cases rx
  obtain ⟨z, hs, ks, pr, o, es, ep, ho, hx, hdt, he, hn⟩ := (show ObjOk X.prog X.w H s.heap a (.dT kvs) from hd.ok I.hok)
  have l1 : es.size = ks.length := size_of_entries he
  have l2 : kvs.length = ks.length := Paired.length pr
  have l3 : ks0.length = kvs.length := by
    have := congrArg List.length hks
    simpa using this.symm
  refine Calls.call_function_entry PyProof.Rows.kind_sorted PyProof.Rows.plain_sorted PyProof.Rows.entry_sorted (PyProof.Rows.args_sorted1 _) ?_
  unfold Builtin.«sorted»
  refine wpAny_bind (m := checkCount "sorted" 1 1 _) (wpAny_pure ?_)
  refine wpAny_bind (PySem.W.kdu_collect (A := X.A.in1) (kdl_raw hs hx hdt) (I.ok.hd hcalm) ho (by omega) fun h' tk acc hk hacc => ?_)
  have ea : acc.toList = ks.map fun x => Value.ref x.2.1 := by
    have hl : acc.toList.length = ks.length := by rw [Array.length_toList, hacc.1]; exact l1
    apply List.ext_getElem?
    intro j
    rw [List.getElem?_map]
    cases hj : acc.toList[j]? with
    | none =>
      have h1 := List.getElem?_eq_none_iff.mp hj
      rw [List.getElem?_eq_none (by omega)]
      all_goals rfl
    | some v =>
      obtain ⟨en, hen, hv⟩ := hacc.2 j v (by rw [← Array.getElem?_toList]; exact hj)
      have qe := entry_at he j
      rw [hen] at qe
      cases hb : ks[j]? with
      | none =>
        rw [hb] at qe
        exact nomatch (show some en = none from qe)
      | some b =>
        rw [hb] at qe
        have e2 : en = entryOfKey (tupleKind (mixKind X.prog X.w)) b := Option.some.inj qe
        rw [hv, e2]
        all_goals rfl
  -- each of them is a pair
  have hpr : ∀ v ∈ acc.toList, ∃ t i j, v = Value.ref t ∧ H t = some (.tup [.int i, .int j]) := by
    rw [ea]
    intro v hv
    obtain ⟨x, hx, rfl⟩ := List.mem_map.mp hv
    obtain ⟨j, hj⟩ := List.mem_iff_getElem?.mp hx
    obtain ⟨p, hp, rel⟩ : ∃ p, kvs[j]? = some p ∧ H x.2.1 = some (.tup (p.1.map kV)) := by
      clear hx hv ea
      have : ∀ {kvs : List (List Key × V)} {ks : List (List Key × Addr × Value)} (pr : KT H kvs ks) (j : Nat), ks[j]? = some x → ∃ p, kvs[j]? = some p ∧ H x.2.1 = some (.tup (p.1.map kV)) := by
        intro kvs ks pr
        induction pr with
        | nil => intro j h; simp at h
        | cons h t ih =>
          intro j hj
          cases j with
          | zero =>
            have e := Option.some.inj hj
            subst e
            exact ⟨_, rfl, h.2.1⟩
          | succ j => exact ih j (by simpa using hj)
      exact this pr j hj
    have hk := congrArg (fun l => l[j]?) hks
    simp only [List.getElem?_map, hp] at hk
    cases hk0 : ks0[j]? with
    | none => rw [hk0] at hk; cases hk
    | some k =>
      rw [hk0] at hk
      have e : p.1 = [Sum.inl k.1, Sum.inl k.2] := Option.some.inj hk
      rw [e] at rel
      exact ⟨_, k.1, k.2, rfl, rel⟩
  have hmap : acc.toList.map (kOf H) = ks0 := by
    apply List.ext_getElem?
    intro j
    rw [List.getElem?_map, ea, List.getElem?_map]
    cases hj : ks[j]? with
    | none =>
      have h1 := List.getElem?_eq_none_iff.mp hj
      rw [List.getElem?_eq_none (by omega)]
      all_goals rfl
    | some x =>
      obtain ⟨p, hp, rel⟩ : ∃ p, kvs[j]? = some p ∧ H x.2.1 = some (.tup (p.1.map kV)) := by
        have : ∀ {kvs : List (List Key × V)} {ks : List (List Key × Addr × Value)} (pr : KT H kvs ks) (j : Nat), ks[j]? = some x → ∃ p, kvs[j]? = some p ∧ H x.2.1 = some (.tup (p.1.map kV)) := by
          intro kvs ks pr
          induction pr with
          | nil => intro j h; simp at h
          | cons h t ih =>
            intro j hj
            cases j with
            | zero =>
              have e := Option.some.inj hj
              subst e
              exact ⟨_, rfl, h.2.1⟩
            | succ j => exact ih j (by simpa using hj)
        exact this pr j hj
      have hk := congrArg (fun l => l[j]?) hks
      simp only [List.getElem?_map, hp] at hk
      cases hk0 : ks0[j]? with
      | none => rw [hk0] at hk; cases hk
      | some k =>
        rw [hk0] at hk
        have e : p.1 = [Sum.inl k.1, Sum.inl k.2] := Option.some.inj hk
        rw [e] at rel
        show some (kOf H (.ref x.2.1)) = some k
        rw [kOf_eq rel]
  have hal : acc.toList.length = ks.length := by rw [ea, List.length_map]
  have I1 : Inv X pins σ H { s with heap := h', toks := tk } := I.kept hk
  refine wpAny_bind (wpAny_newList ?_ (by rw [hal]; omega))
  have hoL : (h'.push (seqObj "list" acc.toList.toArray 0)).get? h'.objs.size = some (seqObj "list" acc.toList.toArray 0) := Heap.get?_push_size _ rfl
  show wpAny _ _ _ _ _ { s with heap := h'.push (seqObj "list" acc.toList.toArray 0), toks := tk }
  have hp1 : ∀ v ∈ acc.toList, Srt.IsPair (h'.push (seqObj "list" acc.toList.toArray 0)) v (kOf H v).1 (kOf H v).2 := fun v hv => by
    obtain ⟨t, i, j, rfl, ht⟩ := hpr v hv
    rw [kOf_eq ht]
    obtain ⟨_, its2, r2, o2, ho2, hc2, n2, hd2⟩ := I1.hok _ _ ht
    obtain ⟨u1, u2, rfl, ri, rj⟩ := vals2 r2
    obtain ⟨t1, rfl⟩ := ri
    obtain ⟨t2, rfl⟩ := rj
    exact ⟨t, o2, t1, t2, n2, rfl, Heap.get?_push_of_some _ ho2, hc2, hd2⟩
  refine wpAny_bind (wpAny_holding (wpAny_call_entry PyProof.Rows.slot_list_sort ⟨_, hoL, rfl⟩ PyProof.Rows.entry_list_sort
    (SrtO.list_sort_ord (s := { s with heap := h'.push (seqObj "list" acc.toList.toArray 0), toks := tk }) (SrtO.swo_lex (kOf H)) hoL (by rw [hal]; omega) (fun h2 => SrtO.pairs_sortableO (s := { s with heap := h'.push (seqObj "list" acc.toList.toArray 0), toks := tk }) (by omega) hp1 fun o e => by
      have e' : some o = some (seqObj "list" acc.toList.toArray 0) := e.symm.trans hoL
      cases e'
      intro c
      exact absurd (Value.type.inj c) (by decide)) fun out g1 g2 => ⟨_, rfl, ?_⟩) (PyProof.Rows.args_list_sort _)))
  obtain ⟨e', he'⟩ := PyProof.Rows.sortedHeap_at (vs := acc.toList) (out := out.toArray) hoL
  have hout : ∀ v ∈ out, ∃ t i j, v = Value.ref t ∧ H t = some (.tup [.int i, .int j]) := fun v hv => hpr v (g2.perm.mem_iff.mp hv)
  have hys : ∃ ys : List V, Vals ys out ∧ Paired (fun y z => ∃ t, y = V.ref t ∧ H t = some (.tup [.int z.1, .int z.2])) ys (out.map (kOf H)) := by
    clear g1 g2 he' e'
    induction out with
    | nil => exact ⟨[], .nil, .nil⟩
    | cons v r ih =>
      obtain ⟨ys, h1, h2⟩ := ih fun w hw => hout w (List.mem_cons_of_mem _ hw)
      obtain ⟨t, i, j, rfl, ht⟩ := hout v List.mem_cons_self
      exact ⟨.ref t :: ys, .cons rfl h1, .cons ⟨t, rfl, by rw [kOf_eq ht]; exact ht⟩ h2⟩
  obtain ⟨ys, rv, pd⟩ := hys
  have lo : out.length = ks.length := by rw [g2.perm.length_eq, hal]
  have hlen : ys.length ≤ sizeLine := by
    have := rv.length
    omega
  refine wpAny_pure ⟨_, rfl, .ref h'.objs.size, upd H h'.objs.size (.lst ys), I1.laid (t' := tk) (fun b u e => ?_) (Nat.le_refl _)
    (show ObjOk X.prog X.w _ _ _ (.lst ys) from ⟨hlen, out, e', rv, he'⟩), rfl, q (out.map (kOf H)) ys _ (by rw [← hmap]; exact g2.perm.map _) (List.pairwise_map.mpr g1) pd (I1.hok.fresh (Nat.le_refl _))⟩
  have hb : b < h'.objs.size := Heap.lt_size e
  rw [PyProof.Rows.sortedHeap_old (Nat.ne_of_lt hb) (by rw [size_push']; exact Nat.lt_succ_of_lt hb)]
  exact Heap.get?_push_of_some _ e
end
end L2
namespace Sim
open PySem L2
open Rp (rep)
open At1 (toV)
open Ow (own)
open KT (keys)
/-! ### what is sorted -/
class Tot (α : Type) where
  le : α → α → Bool
  tr : ∀ a b c, le a b = true → le b c = true → le a c = true
  tot : ∀ a b, (le a b || le b a) = true
  anti : ∀ a b, le a b = true → le b a = true → a = b
def srt {α : Type} [Tot α] (xs : List α) : List α := xs.mergeSort Tot.le
theorem srt_perm {α : Type} [Tot α] (xs : List α) : (srt xs).Perm xs := List.mergeSort_perm _ _
theorem srt_pair {α : Type} [Tot α] (xs : List α) : (srt xs).Pairwise (fun a b => Tot.le a b = true) := List.pairwise_mergeSort Tot.tr Tot.tot xs
theorem srt_uniq {α : Type} [Tot α] {xs ys : List α} (p : ys.Perm xs) (s : ys.Pairwise (fun a b => Tot.le a b = true)) : ys = srt xs :=
  List.Perm.eq_of_pairwise (fun a b _ _ => Tot.anti a b) s (srt_pair xs) (p.trans (srt_perm xs).symm)
instance : Tot Int := ⟨fun a b => decide (a ≤ b), fun a b c h1 h2 => by simp at *; omega, fun a b => by simp; omega, fun a b h1 h2 => by simp at *; omega⟩
instance : Tot (Int × Int) := ⟨fun a b => !SrtO.lexB b a, fun a b c h1 h2 => by
    simp only [Bool.not_eq_true', SrtO.lexB_no] at *
    omega, fun a b => by
    rw [Bool.or_eq_true, Bool.not_eq_true', Bool.not_eq_true', SrtO.lexB_no, SrtO.lexB_no]
    omega, fun a b h1 h2 => by
    simp only [Bool.not_eq_true', SrtO.lexB_no] at *
    exact Prod.ext (by omega) (by omega)⟩
/-- all tuples are frozen -/
def tupd (G H : Hp) : Hp := fun a => match G a with
  | some o => some o
  | none => (match H a with | some (.tup vs) => some (.tup vs) | _ => none)
theorem tupd_old {G H : Hp} {a : Addr} {o : HO} (h : G a = some o) : tupd G H a = some o := by unfold tupd; rw [h]
theorem tupd_tup {G H : Hp} (s : Sub G H) {a : Addr} {vs : List V} (h : H a = some (.tup vs)) : tupd G H a = some (.tup vs) := by
  unfold tupd
  cases q : G a with
  | some o =>
    have := s a o q
    rw [h] at this
    exact this.symm
  | none => simp [h]
theorem Grow.tups {G H : Hp} (s : Sub G H) : Grow G H (tupd G H) H := by
  refine ⟨fun a o e => tupd_old e, .refl _, fun a o e => ?_, fun a ha e => ?_⟩
  · unfold tupd at e
    cases q : G a with
    | some u => rw [q] at e; cases e; exact s a _ q
    | none =>
      rw [q] at e
      simp only at e
      split at e
      · cases e; assumption
      · cases e
  · cases q : H a with
    | none => exact absurd q ha
    | some u =>
      by_cases t : ∃ vs, u = .tup vs
      · obtain ⟨vs, rfl⟩ := t
        exact .inr ⟨vs, rfl⟩
      · left
        unfold tupd
        rw [e, q]
        simp only
        split
        · rename_i vs w
          cases w
          exact absurd ⟨vs, rfl⟩ t
        · rfl
section
variable {X : Cx} {Γ : Gm} {B : Bs} {ρ : Sto} {N : List Str} {sc : Scope} {k : Nat} {pos p p' : Pos} {e a : Expr} {α : Type} [Rp α]
theorem xn_sortI (c : Cok X Γ N sc k) {m : Option (List Int)} (ha : XR X Γ B ρ a m) (hg : Glb sc "sorted") (hm : Γ.mg "sorted" = none) (s1 : starEach [a] X.env = (false, eval a X.env) :: starEach [] X.env := by rfl) :
    XN X Γ B ρ (.Call (.Name "sorted" p) [a] [] pos) (m.bind fun xs => some (srt xs)) :=
  imE (pe_callB cr_sortedI (c.gl hg) (by rw [c.hmg]; exact hm) PyProof.Rows.boot_sorted (pa_cons ha pa_nil s1) (he := s1)) fun σ H Q ⟨G, z, A, e, q⟩ => by
  cases m with
  | none => cases e
  | some xs =>
    cases e
    refine ⟨G, xs, A, rfl, fun l vs G1 H1 g1 hp r1 => ⟨l, xs, rfl, SqL.of (by rw [← show vs = xs.map V.int from r1.toV]; exact hp), fun ns' q1 h1 h2 h3 => ?_⟩⟩
    have : ns' = srt xs := srt_uniq h1 (h2.imp fun h => decide_eq_true h)
    subst this
    exact q q1 _ G1 H1 g1 h3 (RpL.ofV (α := Int) _)
/-- sorted(d), the keys pairs of ints -/
theorem xn_sortDP (c : Cok X Γ N sc k) {m : Option (List ((Int × Int) × α))} (ha : XDT X Γ B ρ a m) (hg : Glb sc "sorted") (hm : Γ.mg "sorted" = none) (s1 : starEach [a] X.env = (false, eval a X.env) :: starEach [] X.env := by rfl) :
    XN X Γ B ρ (.Call (.Name "sorted" p) [a] [] pos) (m.bind fun d => if d.length ≤ BIG then some (srt (d.map (·.1))) else none) :=
  imE (pe_callB (call_sortedDP c.calm) (c.gl hg) (by rw [c.hmg]; exact hm) PyProof.Rows.boot_sorted (pa_cons ha pa_nil s1) (he := s1)) fun σ H Q ⟨G, z, A, e, q⟩ => by
  cases m with
  | none => cases e
  | some d =>
    obtain ⟨hl, e⟩ := ite_some (show (if d.length ≤ BIG then some (srt (d.map (·.1))) else none) = some z from e)
    subst e
    refine ⟨G, d, A, rfl, fun l kvs G1 H1 g1 hp r1 => ⟨l, kvs, d.map (·.1), rfl, hp, ?_, ?_, fun zs ys q1 h1 h2 h3 h4 => ?_⟩⟩
    · have : ∀ {kvs : List (List Key × V)} {d : List ((Int × Int) × α)}, RpT Γ G1 kvs d → kvs.map (·.1) = (d.map (·.1)).map (fun k => [Sum.inl k.1, Sum.inl k.2]) := by
        intro kvs d r
        induction r with
        | nil => rfl
        | cons h t ih => rw [List.map_cons, List.map_cons, List.map_cons, ih, h.1]; rfl
      exact this r1
    · rw [List.length_map]; exact big_le hl
    · have : zs = srt (d.map (·.1)) := srt_uniq h1 (h2.imp fun h => by show (!SrtO.lexB _ _) = true; rw [h]; rfl)
      subst this
      refine q q1 ys _ H1 (g1.trans (Grow.tups g1.sub)) h4 ?_
      exact Paired.mapP h3 fun y z ⟨t, e1, e2⟩ => ⟨t, .int z.1, .int z.2, e1, tupd_tup g1.sub e2, rfl, rfl⟩
end
end Sim

set_option Elab.async false
set_option autoImplicit false
set_option linter.all false
set_option maxRecDepth 100000
set_option maxHeartbeats 1000000
namespace Sim
open PySem L2
open Rp (rep)
open At1 (toV)
open K1 (key)
open KT (keys)
open Ow (own)
open RpA (repA stoA)
/-! ### comprehensions whose target is a pair -/
/-- the store with the two slots put anew -/
abbrev st2 {α δ : Type} [Rp α] [Rp δ] (ρ : Sto) (i l : Nat) (a : α × δ) : Sto := (((ρ.set l .dead).set i .dead).set i (vl a.1)).set l (vl a.2)
/-- a pair is unpacked into two slots -/
def gP (K : PySem.W.Frag) (i l : Nat) : TG := fun v σ H Q => ∃ p u w, v = .ref p ∧ SqT K H p [u, w] ∧ Q ((σ.set i (some u)).set l (some w)) H
theorem wipe_set2 {σ : St} {i l : Nat} {u w : V} : wipe (((wipe σ [i, l]).set i (some u)).set l (some w)) [i, l] = wipe σ [i, l] := by
  show ((((((σ.set l none).set i none).set i (some u)).set l (some w)).set l none).set i none) = (σ.set l none).set i none
  apply List.ext_getElem?
  intro k
  simp only [List.getElem?_set, List.length_set]
  split <;> split <;> simp_all
section
variable {X : Cx} {Γ : Gm} {B : Bs} {L β C : Type} [Rp β] {F : Kt L β C} {ρ ρ' : Sto} {N : List Str} {sc : Scope} {k : Nat} {fx : List Nat} {W : WX} {M : List Addr} {pos p p' : Pos} {e a b o tg it elt : Expr} {st : Stmt} {sts : List Stmt} {es : List Expr} {S : Type} {sto : S → Sto}
variable {α γ δ : Type} [Rp α] [Rp γ] [Rp δ]
theorem lc_sim2 {i l : Nat} {mxs : Option (List (α × δ))} {t : α × δ → Option Bool} {f : α × δ → Option γ} (hf : i ∉ B.fx) (hρ : i < ρ.length) (hf2 : l ∉ B.fx) (hρ2 : l < ρ.length) {σ : St} {H : Hp} {Q : VK} (h : cN Γ B ρ (mxs.bind (lcB t f)) σ H Q) :
    tLc (cI Γ B ρ mxs) (gP X.K i l) (fun σ H Q => ∃ a, cT Γ B (st2 ρ i l a) (t a) σ H Q) (fun σ H Q => ∃ a, cE Γ B (st2 ρ i l a) (f a) σ H Q) [i, l] σ H Q := by
  obtain ⟨G, zs, A, e, q⟩ := h
  cases mxs with
  | none => cases e
  | some xs =>
    obtain ⟨hl, e⟩ : xs.length ≤ BIG ∧ lcM t f xs = some zs := by
      have e : lcB t f xs = some zs := e
      unfold lcB at e
      by_cases hc : xs.length ≤ BIG
      · rw [if_pos hc] at e; exact ⟨hc, e⟩
      · rw [if_neg hc] at e; cases e
    refine ⟨G, xs, A, rfl, fun J G' H' g ⟨Y, hw, hy⟩ D hD => ?_⟩
    have hGD : G' D = none := g.sub.none hD
    refine lc_it (g := gP X.K i l) (tt := fun σ H Q => ∃ a, cT Γ B (st2 ρ i l a) (t a) σ H Q) (te := fun σ H Q => ∃ a, cE Γ B (st2 ρ i l a) (f a) σ H Q) (vs := [i, l]) (σ := σ) (Qd := fun H2 => Q (.ref D) H2) hw (fun j H2 => ∃ G1 vs ys ws, Grow G' H' G1 H2 ∧ G1 D = none ∧ H2 D = some (.lst vs) ∧ RpL Γ G1 vs ys ∧ lcM t f (xs.drop j) = some ws ∧ ys ++ ws = zs)
      ⟨G', [], [], zs, Grow.newO g.sub hD _, hGD, upd_same, .nil, e, rfl⟩ (fun j H2 _ ⟨G1, vs, ys, ws, g1, _⟩ => ⟨G1, g1.leG, g1.sub⟩) ?_ ?_
    · rintro j v H2 H3 hj ⟨G1, vs, ys, ws, g1, hG1, hD1, r1, e1, e2⟩ y
      obtain ⟨x0, G2, hx0, g2, rv⟩ := hy j H2 v H3 hj y G1 g1.leG g1.sub
      have ed : xs.drop j = x0 :: xs.drop (j + 1) := by
        obtain ⟨h1, h2⟩ := List.getElem?_eq_some_iff.mp hx0
        rw [List.drop_eq_getElem_cons h1, h2]
      rw [ed] at e1
      unfold lcM at e1
      have A2 := ((A.grow g).grow g1).grow g2
      obtain ⟨pp, u1, u2, hv1, hv2, hv3, hv4⟩ := rv
      subst hv1
      have A3 : At Γ B (st2 ρ i l x0) G2 H3 (((wipe σ [i, l]).set i (some u1)).set l (some u2)) := by
        have B1 := (A2.wiped l hf2).wiped i hf
        have B2 := B1.setV (i := i) (by simpa using hρ) hv3 hf
        exact B2.setV (i := l) (by simpa using hρ2) hv4 hf2
      refine ⟨pp, u1, u2, rfl, SqT.of (g2.sub.tup hv2), ?_⟩
      show wipe (((wipe σ [i, l]).set i (some u1)).set l (some u2)) [i, l] = wipe σ [i, l] ∧ _
      refine ⟨wipe_set2, ?_⟩
      cases hb : t x0 with
      | none => rw [hb] at e1; cases e1
      | some b =>
        rw [hb] at e1
        refine ⟨x0, G2, b, A3, hb, fun G4 H4 g4 => ?_⟩
        cases b with
        | false =>
          have e1 : lcM t f (xs.drop (j + 1)) = some ws := e1
          obtain ⟨z1, z2, z3⟩ := Grow.item (ws := vs) g1 hD hG1 hD1 (g2.trans g4)
          refine ⟨G4, vs, ys, ws, ⟨z1.leG, ((g1.trans g2).trans g4).leH, ((g1.trans g2).trans g4).sub, z1.thin⟩, z2, z3, r1.mono (g2.trans g4).leG, e1, e2⟩
        | true =>
          have e1 : (f x0).bind (fun y => (lcM t f (xs.drop (j + 1))).bind fun ys => some (y :: ys)) = some ws := e1
          cases hfx : f x0 with
          | none => rw [hfx] at e1; cases e1
          | some y =>
            rw [hfx] at e1
            cases hr : lcM t f (xs.drop (j + 1)) with
            | none => rw [hr] at e1; cases e1
            | some us =>
              rw [hr] at e1
              cases e1
              refine ⟨x0, G4, y, A3.grow g4, hfx, fun w G5 H5 g5 r5 => ?_⟩
              obtain ⟨z1, z2, z3⟩ := Grow.item (ws := vs ++ [w]) g1 hD hG1 hD1 ((g2.trans g4).trans g5)
              have hz := lcM_len hr
              have hzl : zs.length ≤ xs.length := lcM_len e
              refine ⟨vs, z3, ?_, G5, vs ++ [w], ys ++ [y], us, z1, z2, upd_same, (r1.mono ((g2.trans g4).trans g5).leG).append (.cons r5 .nil), rfl, by rw [← e2]; simp⟩
              have : vs.length = ys.length := r1.length
              have h3 : ys.length ≤ zs.length := by rw [← e2]; simp
              exact big_lt (by omega)
    · rintro H2 ⟨G1, vs, ys, ws, g1, hG1, hD1, r1, e1, e2⟩
      rw [List.drop_length] at e1
      have e1 : some ([] : List γ) = some ws := e1
      have e1 := Option.some.inj e1
      subst e1
      rw [List.append_nil] at e2
      subst e2
      have := q D vs G1 (hideD H2 D) (g.trans (g1.hide hD hG1)) (if_pos rfl) r1
      rw [upd_hide hD1] at this
      exact this

theorem xn_lc2 (d : Cok X Γ N sc k) {x y : Str} {px py pt : Pos} {nt : Nat} {i l : Nat} {ifs : List Expr} {scope sc' : Scope} {mxs : Option (List (α × δ))} {t : α × δ → Option Bool} {f : α × δ → Option γ} (hi : XI X Γ B ρ (.Tuple [.Name x px, .Name y py] nt pt) it mxs) (hsc : relS scope sc = sc') (hB : blkC N sc scope [(x, i), (y, l)] = true) (hx : N[i]? = some x) (hy : N[l]? = some y) (hxl' : sc'.names.lookup x = some .local) (hyl' : sc'.names.lookup y = some .local) (hfx : B.fx = fx)
    (ht : ∀ X', Cok X' Γ N sc' k → ∀ a : α × δ, PTs X' ifs (cT Γ B (st2 ρ i l a) (t a)))
    (he : ∀ X', Cok X' Γ N sc' k → ∀ a : α × δ, XE X' Γ B (st2 ρ i l a) elt (f a)) (hs : ∀ x, foldedSetIterable it X.env x = pure x := by intro _; rfl) (hρ : Nat.ble (i + 1) ρ.length = true := by rfl) (hfc : fx.contains i = false := by rfl) (hρ2 : Nat.ble (l + 1) ρ.length = true := by rfl) (hfc2 : fx.contains l = false := by rfl) :
    XN X Γ B ρ (.ListComp elt [⟨.Tuple [.Name x px, .Name y py] nt pt, it, ifs, 0⟩] scope pos) (mxs.bind (lcB t f)) := by
  have cb : ∀ (s : Shared) (H : Hp) (C : Addr) (cl : List (Str × Addr)) (fp : List Addr), Cok (X.blk s H scope (compEnvC scope cl C X.env) fp) Γ N sc' k := fun s H C cl fp => d.blk hsc
  have gn : ∀ (s : Shared) (H : Hp) (C : Addr) (cl : List (Str × Addr)) (fp : List Addr) {z : Str} {pz : Pos} {j : Nat}, N[j]? = some z → sc'.names.lookup z = some .local → PG (X.blk s H scope (compEnvC scope cl C X.env) fp) (.Name z pz) (gName j) := fun s H C cl fp {z pz j} h1 h2 =>
    pg_name (i := j) (by rw [(cb s H C cl fp).hN]; exact d.nd) (by rw [(cb s H C cl fp).hN]; exact h1) (by rw [(cb s H C cl fp).hsc]; exact .inl h2) (.inr (by rw [(cb s H C cl fp).hsc]; exact h2))
  exact imE (pe_lc (own := [(x, i), (y, l)]) (g := gP X.K i l) (tt := fun σ H Q => ∃ a, cT Γ B (st2 ρ i l a) (t a) σ H Q) (te := fun σ H Q => ∃ a, cE Γ B (st2 ρ i l a) (f a) σ H Q) d.calm (by rw [d.hN]; exact d.nd) hi (by rw [d.hN, d.hsc]; exact blkOk_by hB)
    (fun s H C cl fp => imG (pg_tup (cb s H C cl fp).calm (pgs_cons (gn s H C cl fp hx hxl') (pgs_cons (gn s H C cl fp hy hyl') pgs_nil))) fun v σ H Q ⟨p, u, w, h1, h2, q⟩ => ⟨p, [u, w], h1, h2, rfl, u, [w], rfl, w, [], rfl, rfl, q⟩)
    (fun s H C cl fp => ⟨fun pins s' σ H' Q I ⟨a, q⟩ => (ht _ (cb s H C cl fp) a).run pins s' σ H' Q I q⟩) (fun s H C cl fp => allE fun a => he _ (cb s H C cl fp) a) hs) fun σ H Q h => lc_sim2 (lc_pre hρ hfc hfx).1 (lc_pre hρ hfc hfx).2 (lc_pre hρ2 hfc2 hfx).1 (lc_pre hρ2 hfc2 hfx).2 h
/-! ### in, of tuples -/
theorem xc_inTL {α : Type} [At1 α] [DecidableEq α] [AtE α] {ma : Option α} {mb : Option (TL α)} (ha : XE X Γ B ρ a ma) (hb : XE X Γ B ρ b mb) : XC X Γ B ρ .In a b (b2 ma mb fun x t => some (isIn x t.l)) := imC (pc_R op_in_seq ha hb) fun σ H Q ⟨G, z, A, e, q⟩ => by
  cases ma with
  | none => cases e
  | some x =>
    cases mb with
    | none => cases e
    | some t =>
      cases e
      refine ⟨G, x, A, rfl, fun v G1 H1 g1 r1 => ⟨G1, t, A.grow g1, rfl, fun w G2 H2 g2 ⟨p, vs, h1, h2, h3⟩ => ⟨p, vs, h1, .inr (SqT.of (g2.sub.tup h2)), by rw [rep1 r1]; exact At1.flat x, by rw [h3.toV]; exact flat_map t.l, q _ G2 H2 (g1.trans g2) ?_⟩⟩⟩
      show V.bl (inV v vs) = V.bl _
      rw [rep1 r1, h3.toV, inV_dec]
theorem xc_notInTL {α : Type} [At1 α] [DecidableEq α] [AtE α] {ma : Option α} {mb : Option (TL α)} (ha : XE X Γ B ρ a ma) (hb : XE X Γ B ρ b mb) : XC X Γ B ρ .NotIn a b (b2 ma mb fun x t => some (!isIn x t.l)) := imC (pc_R op_notIn_seq ha hb) fun σ H Q ⟨G, z, A, e, q⟩ => by
  cases ma with
  | none => cases e
  | some x =>
    cases mb with
    | none => cases e
    | some t =>
      cases e
      refine ⟨G, x, A, rfl, fun v G1 H1 g1 r1 => ⟨G1, t, A.grow g1, rfl, fun w G2 H2 g2 ⟨p, vs, h1, h2, h3⟩ => ⟨p, vs, h1, .inr (SqT.of (g2.sub.tup h2)), by rw [rep1 r1]; exact At1.flat x, by rw [h3.toV]; exact flat_map t.l, q _ G2 H2 (g1.trans g2) ?_⟩⟩⟩
      show V.bl (!inV v vs) = V.bl _
      rw [rep1 r1, h3.toV, inV_dec]
/-- of a pair of alike things -/
theorem xc_inP {α : Type} [At1 α] [DecidableEq α] [AtE α] {ma : Option α} {mb : Option (α × α)} (ha : XE X Γ B ρ a ma) (hb : XE X Γ B ρ b mb) : XC X Γ B ρ .In a b (b2 ma mb fun x t => some (isIn x [t.1, t.2])) := imC (pc_R op_in_seq ha hb) fun σ H Q ⟨G, z, A, e, q⟩ => by
  cases ma with
  | none => cases e
  | some x =>
    cases mb with
    | none => cases e
    | some t =>
      cases e
      refine ⟨G, x, A, rfl, fun v G1 H1 g1 r1 => ⟨G1, t, A.grow g1, rfl, fun w G2 H2 g2 ⟨p, u1, u2, h1, h2, h3, h4⟩ => ⟨p, [u1, u2], h1, .inr (SqT.of (g2.sub.tup h2)), by rw [rep1 r1]; exact At1.flat x, by rw [rep1 h3, rep1 h4]; exact flat_map [t.1, t.2], q _ G2 H2 (g1.trans g2) ?_⟩⟩⟩
      show V.bl (inV v [u1, u2]) = V.bl _
      rw [rep1 r1, rep1 h3, rep1 h4]
      exact congrArg V.bl (inV_dec x [t.1, t.2])
theorem xc_notInP {α : Type} [At1 α] [DecidableEq α] [AtE α] {ma : Option α} {mb : Option (α × α)} (ha : XE X Γ B ρ a ma) (hb : XE X Γ B ρ b mb) : XC X Γ B ρ .NotIn a b (b2 ma mb fun x t => some (!isIn x [t.1, t.2])) := imC (pc_R op_notIn_seq ha hb) fun σ H Q ⟨G, z, A, e, q⟩ => by
  cases ma with
  | none => cases e
  | some x =>
    cases mb with
    | none => cases e
    | some t =>
      cases e
      refine ⟨G, x, A, rfl, fun v G1 H1 g1 r1 => ⟨G1, t, A.grow g1, rfl, fun w G2 H2 g2 ⟨p, u1, u2, h1, h2, h3, h4⟩ => ⟨p, [u1, u2], h1, .inr (SqT.of (g2.sub.tup h2)), by rw [rep1 r1]; exact At1.flat x, by rw [rep1 h3, rep1 h4]; exact flat_map [t.1, t.2], q _ G2 H2 (g1.trans g2) ?_⟩⟩⟩
      show V.bl (!inV v [u1, u2]) = V.bl _
      rw [rep1 r1, rep1 h3, rep1 h4]
      exact congrArg (fun b => V.bl (!b)) (inV_dec x [t.1, t.2])
end
end Sim

set_option Elab.async false
set_option autoImplicit false
set_option linter.all false
set_option maxRecDepth 100000
set_option maxHeartbeats 1000000
namespace Sim
open PySem L2
open Rp (rep)
open At1 (toV)
open K1 (key)
open KT (keys)
open Ow (own)
open RpA (repA stoA)
/-! ### a value of any kind -/
inductive Dy where
  | i (n : Int)
  | b (x : Bool)
  | u
  | t (s : Tt)
  | tp
  | ls
instance : Rp Dy := ⟨fun Γ G v y => match y with
  | .i n => v = .int n
  | .b x => v = .bl x
  | .u => v = .non
  | .t s => v = .str s.s
  | .tp => ∃ a xs, v = .ref a ∧ G a = some (.tup xs)
  | .ls => ∃ a xs, v = .ref a ∧ G a = some (.lst xs), fun {_ _ _ _ y} e h => by
  cases y with
  | tp => obtain ⟨a, xs, h1, h2⟩ := h; exact ⟨a, xs, h1, e _ _ h2⟩
  | ls => obtain ⟨a, xs, h1, h2⟩ := h; exact ⟨a, xs, h1, e _ _ h2⟩
  | _ => exact h⟩
def Dy.N : Dy → String
  | .i _ => "int"
  | .b _ => "bool"
  | .u => "NoneType"
  | .t _ => "str"
  | .tp => "tuple"
  | .ls => "list"
theorem Dy.ty {Γ : Gm} {G H : Hp} {v : V} {y : Dy} {K : PySem.W.Frag} (h : rep Γ G v y) (s : Sub G H) : TyOf K H v (.type y.N) := by
  cases y with
  | i n => rw [show v = .int n from h]; exact .int _
  | b x => rw [show v = .bl x from h]; exact .bl _
  | u => rw [show v = .non from h]; exact .non
  | t x => rw [show v = .str x.s from h]; exact .str _
  | tp => obtain ⟨a, xs, h1, h2⟩ := h; rw [h1]; exact .tup (s _ _ h2)
  | ls => obtain ⟨a, xs, h1, h2⟩ := h; rw [h1]; exact .lst (s _ _ h2)
def Dy.isI : Dy → Bool
  | .i _ => true
  | .b _ => true
  | _ => false
def Dy.isB : Dy → Bool
  | .b _ => true
  | _ => false
/-- the same value, told in another way -/
class Cst (α β : Type) [Rp α] [Rp β] where
  f : α → Option β
  ok : ∀ {Γ : Gm} {G : Hp} {v : V} {a : α} {b : β}, f a = some b → rep Γ G v a → rep Γ G v b
/-- a cast of one's own type into another -/
abbrev cst {α : Type} (β : Type) [Rp α] [Rp β] [Cst α β] (a : α) : Option β := Cst.f a
instance : Cst Int Dy := ⟨fun n => some (.i n), fun h r => by cases h; exact rep1 r⟩
instance : Cst Bool Dy := ⟨fun x => some (.b x), fun h r => by cases h; exact rep1 r⟩
instance : Cst Unit Dy := ⟨fun _ => some .u, fun h r => by cases h; exact rep1 r⟩
instance : Cst Tt Dy := ⟨fun s => some (.t s), fun h r => by cases h; exact rep1 r⟩
instance {α : Type} [Rp α] : Cst (TL α) Dy := ⟨fun _ => some .tp, fun h ⟨a, vs, h1, h2, _⟩ => by cases h; exact ⟨a, vs, h1, h2⟩⟩
instance {α : Type} [Rp α] : Cst (List α) Dy := ⟨fun _ => some .ls, fun h ⟨a, vs, h1, h2, _⟩ => by cases h; exact ⟨a, vs, h1, h2⟩⟩
def Dy.int? : Dy → Option Int
  | .i n => some n
  | _ => none
instance : Cst Dy Int := ⟨Dy.int?, fun {_ _ _ a _} h r => by cases a <;> first | (cases h; exact r) | cases h⟩
instance : Cst Dy Dy := ⟨some, fun h r => by cases h; exact r⟩
instance {α β γ δ : Type} [Rp α] [Rp β] [Rp γ] [Rp δ] [Cst α γ] [Cst β δ] : Cst (α × β) (γ × δ) := ⟨fun p => (cst γ p.1).bind fun x => (cst δ p.2).bind fun y => some (x, y), fun {_ _ _ p q} h ⟨a, x, y, h1, h2, h3, h4⟩ => by
  have h : ((cst γ p.1).bind fun x => (cst δ p.2).bind fun y => some (x, y)) = some q := h
  cases e1 : cst γ p.1 with
  | none => rw [e1] at h; cases h
  | some x' =>
    rw [e1] at h
    cases e2 : cst δ p.2 with
    | none => rw [e2] at h; cases h
    | some y' =>
      rw [e2] at h
      cases h
      exact ⟨a, x, y, h1, h2, Cst.ok e1 h3, Cst.ok e2 h4⟩⟩
def cstL {α : Type} (β : Type) [Rp α] [Rp β] [Cst α β] : List α → Option (List β)
  | [] => some []
  | a :: r => (cst β a).bind fun b => (cstL β r).bind fun t => some (b :: t)
theorem cstL_ok {α β : Type} [Rp α] [Rp β] [Cst α β] {Γ : Gm} {G : Hp} : ∀ {xs : List α} {ys : List β} {vs : List V}, cstL β xs = some ys → RpL Γ G vs xs → RpL Γ G vs ys
  | [], ys, vs, h, r => by cases h; cases r; exact .nil
  | a :: r, ys, vs, h, hr => by
    have h : ((cst β a).bind fun b => (cstL β r).bind fun t => some (b :: t)) = some ys := h
    cases e1 : cst β a with
    | none => rw [e1] at h; cases h
    | some b =>
      rw [e1] at h
      cases e2 : cstL β r with
      | none => rw [e2] at h; cases h
      | some t' =>
        rw [e2] at h
        cases h
        cases hr with
        | cons q t => exact .cons (Cst.ok e1 q) (cstL_ok e2 t)
instance {α β : Type} [Rp α] [Rp β] [Cst α β] : Cst (List α) (List β) := ⟨cstL β, fun h ⟨a, vs, h1, h2, h3⟩ => ⟨a, vs, h1, h2, cstL_ok h h3⟩⟩
section
variable {X : Cx} {Γ : Gm} {B : Bs} {L β C : Type} [Rp β] {F : Kt L β C} {ρ ρ' : Sto} {N : List Str} {sc : Scope} {k : Nat} {fx : List Nat} {W : WX} {M : List Addr} {pos p p' p2 : Pos} {e a b o tg it elt kx : Expr} {st : Stmt} {sts : List Stmt} {es : List Expr} {S : Type} {sto : S → Sto}
variable {α γ : Type} [Rp α] [Rp γ]
theorem xe_cst [Cst α γ] {m : Option α} (h : XE X Γ B ρ e m) : XE X Γ B ρ e (m.bind (cst γ)) := imE h fun σ H Q ⟨G, z, A, e, q⟩ => by
  cases m with
  | none => cases e
  | some w => exact ⟨G, w, A, rfl, fun v G1 H1 g r => q v G1 H1 g (Cst.ok e r)⟩
theorem xr_cst [Cst α γ] {m : Option (List α)} (h : XR X Γ B ρ e m) : XR X Γ B ρ e (m.bind (cstL γ)) := imE h fun σ H Q ⟨G, z, A, e, q⟩ => by
  cases m with
  | none => cases e
  | some w => exact ⟨G, w, A, rfl, fun p vs G1 H1 g h1 r => q p vs G1 H1 g h1 (cstL_ok e r)⟩
/-- isinstance of a value of any kind -/
theorem xe_isiD (c : Cok X Γ N sc k) {T : String} {x : Str} {r : Dy → Bool} {m : Option Dy} (he : XE X Γ B ρ e m) (hg : Glb sc "isinstance") (hm : Γ.mg "isinstance" = none) (hg2 : Glb sc x) (hm2 : Γ.mg x = none) (hv : bootBuiltins x = some (.type T)) (hr : ∀ y : Dy, kitB y.N T = some (r y)) (hn : x ≠ "__name__" := by decide) (hdb : (x == ("__debug__" : Str)) = false := by decide)
    (s1 : starEach [e, .Name x p2] X.env = (false, eval e X.env) :: starEach [.Name x p2] X.env := by rfl) (s2 : starEach [.Name x p2] X.env = (false, eval (.Name x p2) X.env) :: starEach [] X.env := by rfl) (hpl : (backTo pos (starEach [.Name x p2] X.env)).any (·.1) = false := by rfl) :
    XE X Γ B ρ (.Call (.Name "isinstance" p) [e, .Name x p2] [] pos) (m.bind fun y => some (r y)) :=
  imE (pe_callB call_isi (c.gl hg) (by rw [c.hmg]; exact hm) PyProof.Rows.boot_isinstance (pa_cons he (pa_cons (pe_bltn (c.gl hg2) (by rw [c.hmg]; exact hm2) hv (show RelV (.ty T) (.type T) from rfl) hn hdb) pa_nil s2) s1) (he := s1) (hpl := hpl)) fun σ H Q ⟨G, z, A, e, q⟩ => by
  cases m with
  | none => cases e
  | some w =>
    cases e
    exact ⟨G, w, A, rfl, fun v G1 H1 g1 r1 => ⟨v, .ty T, .type w.N, .type T, r w, rfl, .ty T, .base (Dy.ty r1 g1.sub), kit_ty (hr w), q _ G1 H1 g1 rfl⟩⟩
theorem isI_int (y : Dy) : kitB y.N "int" = some y.isI := by
  cases y with
  | i _ => exact (by decide +kernel : kitB "int" "int" = some true)
  | b _ => exact (by decide +kernel : kitB "bool" "int" = some true)
  | u => exact (by decide +kernel : kitB "NoneType" "int" = some false)
  | t _ => exact (by decide +kernel : kitB "str" "int" = some false)
  | tp => exact (by decide +kernel : kitB "tuple" "int" = some false)
  | ls => exact (by decide +kernel : kitB "list" "int" = some false)
theorem isB_bool (y : Dy) : kitB y.N "bool" = some y.isB := by
  cases y with
  | i _ => exact (by decide +kernel : kitB "int" "bool" = some false)
  | b _ => exact (by decide +kernel : kitB "bool" "bool" = some true)
  | u => exact (by decide +kernel : kitB "NoneType" "bool" = some false)
  | t _ => exact (by decide +kernel : kitB "str" "bool" = some false)
  | tp => exact (by decide +kernel : kitB "tuple" "bool" = some false)
  | ls => exact (by decide +kernel : kitB "list" "bool" = some false)
end
/-! ### try -/
/-- the classes of errors that the text has -/
structure ExS (Γ : Gm) (cs : List Nat) : Prop where
  no9 : 9 ∉ cs
  cc : ∀ i, i ∈ cs → ExcC Γ.K (Γ.C i)
  kit : ∀ i j, i ∈ cs → j ∈ cs → PySem.W.kitOne Γ.K (.ref (Γ.C i)) (.ref (Γ.C j)) = some (He.subN i j)
  exm : ∀ i j, i ∈ cs → j ∈ cs → PySem.W.exmOne Γ.K (.ref (Γ.C i)) (.ref (Γ.C j)) = some (He.subN i j)
  ve : ∀ i, i ∈ cs → PySem.W.kitOne Γ.K (.ref (Γ.C i)) (.type "ValueError") = some true
/-- the error that a suite holds -/
structure ExV (a : Addr) where
  e : Er
instance {a : Addr} : Rp (ExV a) := ⟨fun _ _ v _ => v = .ref a, fun _ h => h⟩
/-- where a suite stands: its error stands at a -/
structure Hok (X : Cx) (Γ : Gm) (N : List Str) (sc : Scope) (k : Nat) (a : Addr) (e : Er) : Prop where
  hP : X.prog = Γ.P
  hw : X.w = Γ.w
  hK : X.K = Γ.K
  hmg : X.mg = Γ.mg
  hbase : X.base = Γ.base
  hN : X.N = N
  nd : N.Nodup
  hsc : X.env.scope = sc
  ex : ∃ X0 oe pn d, X = Cx.suite X0 a ((a, oe) :: pn) ∧ Zc (.ref (Γ.C e.cls)) d oe ∧ (e.cls ≠ 9 → d = none) ∧ ∃ vs, oe.data = .fields vs
theorem Hok.gl {X : Cx} {Γ : Gm} {N : List Str} {sc : Scope} {k : Nat} {a : Addr} {e : Er} (c : Hok X Γ N sc k a e) {x : Str} (h : Glb sc x) : Gl X x := by
  show X.env.scope.names.lookup x = _
  rw [c.hsc]
  exact h
theorem At.unset {Γ : Gm} {B : Bs} {ρ : Sto} {G H : Hp} {σ : St} {i : Nat} (A : At Γ B ρ G H σ) (hi : ρ[i]? = some .dead) (nf : i ∉ B.fx) : At Γ B ρ G H (σ.set i none) := by
  obtain ⟨φ, h1, h3⟩ := A.slots
  refine ⟨A.sub, A.le, A.keep, A.live, A.thin, ⟨φ, ⟨by rw [List.length_set]; exact h1.len, fun j s hj => ?_, h1.apart, h1.out⟩, h3⟩, fun j hj => ?_⟩
  · by_cases e : j = i
    · subst e
      rw [hi] at hj
      cases hj
      obtain ⟨o, ho, hs⟩ := h1.ok j _ hi
      have hl : j < σ.length := (List.getElem?_eq_some_iff.mp ho).1
      exact ⟨none, by rw [List.getElem?_set_self hl], hs⟩
    · rw [List.getElem?_set_ne (Ne.symm e)]
      exact h1.ok j s hj
  · rw [List.getElem?_set_ne fun z => nf (by rw [z]; exact hj)]
    exact A.fix j hj
abbrev Kt.tr {L β C : Type} (F : Kt L β C) {Sx : Type} (stx : Sx → Sto) (W : WX) : Kt L β (C ⊕ Sx) := ⟨F.stb, F.stc, Sum.elim F.str stx, F.fr, W⟩
abbrev Kt.su {L β C : Type} (F : Kt L β C) : Kt L β C := ⟨F.stb, F.stc, F.str, F.fr, fun _ _ _ _ => False⟩
/-- a suite raises nothing -/
def noErr {S L β C : Type} : Option (Fl S L β C) → Option (Fl S L β C)
  | some (.err _ _) => none
  | r => r
theorem noErr_some {S L β C : Type} {m : Option (Fl S L β C)} {r : Fl S L β C} (h : noErr m = some r) : m = some r ∧ ∀ e c, r ≠ .err e c := by
  cases m with
  | none => cases h
  | some x => cases x <;> first | (cases h; exact ⟨rfl, fun _ _ z => by cases z⟩) | cases h
/-- try, and what its suite makes of an error -/
def tryM {S L β C Sx : Type} (hit : Er → Bool) (m : Option (Fl S L β (C ⊕ Sx))) (ms : Er → Sx → Option (Fl S L β C)) : Option (Fl S L β C) := m.bind fun r => match r with
  | .nx s => some (.nx s)
  | .bk l => some (.bk l)
  | .ct l => some (.ct l)
  | .ret b (.inl c) => some (.ret b c)
  | .err e (.inr x) => if hit e = true then noErr (ms e x) else none
  | _ => none
def hitN (cs : List Nat) (j : Nat) (e : Er) : Bool := decide (e.cls ∈ cs) && He.subN e.cls j
theorem hit_in {cs : List Nat} {j : Nat} {e : Er} (h : hitN cs j e = true) : e.cls ∈ cs := by
  have h : (decide (e.cls ∈ cs) && He.subN e.cls j) = true := h
  simp at h
  exact h.1
theorem exs_ok {Γ : Gm} {xs : List (Nat × Str)} (h : He.exsB xs Γ.K = true) (no9 : 9 ∉ xs.map (·.1)) (hx : ∀ p ∈ xs, Γ.C p.1 = He.ga Γ.K p.2) : ExS Γ (xs.map (·.1)) := by
  have key : ∀ p ∈ xs, He.excB Γ.K p.2 = true ∧ PySem.W.kitOne Γ.K (.ref (He.ga Γ.K p.2)) (.type "ValueError") = some true ∧ ∀ q ∈ xs, He.pairB Γ.K p q = true := fun p hp => by
    obtain ⟨h1, h2⟩ := He.ba (List.all_eq_true.mp h p hp)
    obtain ⟨h3, h4⟩ := He.ba h2
    exact ⟨h1, of_decide_eq_true h3, fun q hq => List.all_eq_true.mp h4 q hq⟩
  refine ⟨no9, fun i hi => ?_, fun i j hi hj => ?_, fun i j hi hj => ?_, fun i hi => ?_⟩
  · obtain ⟨p, hp, rfl⟩ := List.mem_map.mp hi
    rw [hx p hp]
    exact He.excB_ok (key p hp).1
  · obtain ⟨p, hp, rfl⟩ := List.mem_map.mp hi
    obtain ⟨q, hq, rfl⟩ := List.mem_map.mp hj
    rw [hx p hp, hx q hq]
    exact of_decide_eq_true (He.ba ((key p hp).2.2 q hq)).1
  · obtain ⟨p, hp, rfl⟩ := List.mem_map.mp hi
    obtain ⟨q, hq, rfl⟩ := List.mem_map.mp hj
    rw [hx p hp, hx q hq]
    exact of_decide_eq_true (He.ba ((key p hp).2.2 q hq)).2
  · obtain ⟨p, hp, rfl⟩ := List.mem_map.mp hi
    rw [hx p hp]
    exact (key p hp).2.1
section
variable {X : Cx} {Γ : Gm} {B : Bs} {L β C : Type} [Rp β] {F : Kt L β C} {ρ ρ' : Sto} {N : List Str} {sc : Scope} {k : Nat} {fx : List Nat} {W : WX} {M : List Addr} {pos pos' p p' p2 : Pos} {e a b o tg it elt kx : Expr} {st : Stmt} {sts suite : List Stmt} {b₀ : Stmt} {es : List Expr} {S Sx : Type} {sto : S → Sto}
theorem xb_tryAs (d : Dok X Γ B N sc k fx W M) {cs : List Nat} (xs : ExS Γ cs) {stx : Sx → Sto} {mb : Option (Fl S L β (C ⊕ Sx))} {ms : Er → Sx → Option (Fl S L β C)} {x n : Str} {j i : Nat} (hx : ExT Γ x j) (hj : j ∈ cs) (hg : Glb sc x) (hi : N[i]? = some n) (hn : sc.names.lookup n = some .local) (hf : fx.contains i = false)
    (hL : ∀ s, Nat.ble (i + 1) (stx s).length = true) (hdead : ∀ s, (sto s)[i]? = some .dead) (hbk : ∀ l, (F.stb l)[i]? = some .dead) (hct : ∀ l, (F.stc l)[i]? = some .dead) (hfr : F.fr = false)
    (hb : ∀ (X' : Cx) (W' : WX), Dok X' Γ B N sc k fx W' M → XB X' Γ B (F.tr stx W') ρ sts mb sto)
    (hs : ∀ (X' : Cx) (a : Addr) (er : Er) (s : Sx), Hok X' Γ N sc k a er → hitN cs j er = true → XB X' Γ B F.su ((stx s).set i (vl (ExV.mk (a := a) er))) (b₀ :: suite) (ms er s) sto)
    (hdb : (x == ("__debug__" : Str)) = false := by decide) :
    XB1 X Γ B F ρ (.Try sts [.ExceptHandler (some (.Name x p)) (some n) (b₀ :: suite) pos'] [] [] pos) (tryM (hitN cs j) mb ms) sto := by
  have nf : i ∉ B.fx := by
    rw [d.hfx]
    intro z
    rw [List.contains_iff_mem.mpr z] at hf
    cases hf
  refine imS (ps_try_as (i := i) (Wout := W) (tb := fun W' => cS Γ B (F.tr stx W') ρ mb sto)
    (ts := fun a cls dd => fun D σ H => ∃ q : { q : Er × Sx // hitN cs j q.1 = true }, (cls = .ref (Γ.C q.1.1.cls) ∧ dd = none) ∧ cS Γ B F.su ((stx q.1.2).set i (vl (ExV.mk (a := a) q.1.1))) (ms q.1.1 q.1.2) sto D σ H)
    d.stk d.frm (by rw [d.hN]; exact d.nd) (by rw [d.hN]; exact hi) (by rw [show X.env.kindOf n = X.env.scope.names.lookup n from rfl, d.hsc]; exact hn) ⟨d.gl hg, hdb, .inl (by rw [d.hmg]; exact hx.g)⟩ d.tk (fun W' pn xe tk pa => hb _ W' ⟨⟨d.hP, d.hw, d.hK, d.hmg, d.hbase, d.hN, d.nd, d.hsc, d.calm, d.room⟩, pa, d.hfn, tk, d.hfx, d.hM, d.stk, d.frm⟩) (fun a oe cls dd pn hz hfs => ?_)) fun D σ H ⟨G, r, A, e, q⟩ => ?_
  · refine ⟨fun pins s σ H D I h => ?_⟩
    obtain ⟨⟨⟨er, sx⟩, hh⟩, ⟨hc, hd⟩, h⟩ := h
    subst hc hd
    exact (hs (X.suite a ((a, oe) :: pn)) a er sx ⟨d.hP, d.hw, d.hK, d.hmg, d.hbase, d.hN, d.nd, d.hsc, ⟨X, oe, pn, none, rfl, hz, fun _ => rfl, hfs⟩⟩ hh).run pins s σ H D I h
  · refine ⟨G, ?_⟩
    cases hmb : mb with
    | none => rw [hmb] at e; cases e
    | some rb =>
      rw [hmb] at e
      refine ⟨rb, A, rfl, ?_⟩
      cases rb with
      | nx s => cases e; exact q
      | bk l => cases e; exact q
      | ct l => cases e; exact q
      | ret b c =>
        cases c with
        | inl c => cases e; exact q
        | inr x => cases e
      | err er c =>
        cases c with
        | inl c => cases e
        | inr sx =>
          have e : (if hitN cs j er = true then noErr (ms er sx) else none) = some r := e
          by_cases hh : hitN cs j er = true
          · rw [if_pos hh] at e
            obtain ⟨e, hne⟩ := noErr_some e
            have h7 : er.cls ∈ cs ∧ He.subN er.cls j = true := by
              have hh : (decide (er.cls ∈ cs) && He.subN er.cls j) = true := hh
              simp at hh
              exact hh
            intro cls dd G' H' σ' A' ie
            have ic : cls = .ref (Γ.C er.cls) := ie.1
            have idd : dd = none := by
              have := ie.2
              rwa [if_neg (fun z : er.cls = 9 => xs.no9 (by rw [← z]; exact h7.1))] at this
            subst ic idd
            refine ⟨true, ?_, fun _ a ha => ⟨⟨(er, sx), hh⟩, ⟨rfl, rfl⟩, G', r, ?_, e, ?_⟩, fun z => by cases z⟩
            · have := xs.exm er.cls j h7.1 hj
              rw [h7.2] at this
              rw [d.hK]
              exact this
            · exact A'.setV (v := .ref a) (Nat.le_of_ble_eq_true (hL sx)) rfl nf
            · cases r with
              | nx s => exact fun G1 H1 σ1 A1 => q G1 H1 _ (A1.unset (hdead s) nf)
              | bk l => exact fun G1 H1 σ1 A1 => q G1 H1 _ (A1.unset (hbk l) nf)
              | ct l => exact fun G1 H1 σ1 A1 => q G1 H1 _ (A1.unset (hct l) nf)
              | ret b c => exact q
              | err e2 c2 => exact absurd rfl (hne e2 c2)
          · rw [if_neg hh] at e; cases e
/-! ### in a suite -/
theorem xh_err {a : Addr} {er : Er} (h : Hok X Γ N sc k a er) {x : Str} (i : Nat) (hi : ρ[i]? = some (vl (ExV.mk (a := a) er))) (hN : N[i]? = some x) (hv : Vis sc x) (hd : (x == ("__debug__" : Str)) = false := by decide) (hcd : (x == ("__classdict__" : Str)) = false := by decide) :
    XE X Γ B ρ (.Name x pos) (some (ExV.mk (a := a) er)) := imE (pe_var (X := X) (i := i) (by rw [h.hN]; exact hN) (by rw [h.hsc]; exact hv) hd hcd) fun σ H Q ⟨G, z', A, e, q⟩ => by
  cases e
  obtain ⟨v, h1, h2⟩ := A.get hi
  exact ⟨v, h1, q v G H (.refl A.sub) h2⟩
theorem xh_isE {a : Addr} {er : Er} (h : Hok X Γ N sc k a er) {cs : List Nat} (xs : ExS Γ cs) (h7 : er.cls ∈ cs) {x : Str} {j : Nat} (hx : ExT Γ x j) (hj : j ∈ cs) (he : XE X Γ B ρ e (some (ExV.mk (a := a) er))) (hg : Glb sc "isinstance") (hm : Γ.mg "isinstance" = none) (hg2 : Glb sc x) (hdb : (x == ("__debug__" : Str)) = false := by decide)
    (s1 : starEach [e, .Name x p2] X.env = (false, eval e X.env) :: starEach [.Name x p2] X.env := by rfl) (s2 : starEach [.Name x p2] X.env = (false, eval (.Name x p2) X.env) :: starEach [] X.env := by rfl) (hpl : (backTo pos (starEach [.Name x p2] X.env)).any (·.1) = false := by rfl) :
    XE X Γ B ρ (.Call (.Name "isinstance" p) [e, .Name x p2] [] pos) (some (He.subN er.cls j)) := by
  obtain ⟨X0, oe, pn, d, rfl, hz, hd, hf⟩ := h.ex
  rw [hd (fun z => xs.no9 (z ▸ h7))] at hz
  have hK : X0.K = Γ.K := h.hK
  exact imE (pe_callB (call_isE (X := X0) (by rw [hK]; exact xs.cc _ h7) hz hf) (h.gl hg) (by rw [h.hmg]; exact hm) PyProof.Rows.boot_isinstance (pa_cons he (pa_cons (pe_glob (h.gl hg2) (by rw [h.hmg]; exact hx.g) (show RelV (.ref (Γ.C j)) (.ref (Γ.C j)) from rfl) hdb) pa_nil s2) s1) (he := s1) (hpl := hpl)) fun σ H Q ⟨G, z, A, e, q⟩ => by
    cases e
    exact ⟨G, _, A, rfl, fun v G1 H1 g1 r1 => ⟨.ref (Γ.C j), .ref (Γ.C j), _, by rw [show v = .ref a from r1], fun u r => r, by rw [hK]; exact xs.kit _ _ h7 hj, q _ G1 H1 g1 rfl⟩⟩
theorem xh_isVE {a : Addr} {er : Er} (h : Hok X Γ N sc k a er) {cs : List Nat} (xs : ExS Γ cs) (h7 : er.cls ∈ cs) (he : XE X Γ B ρ e (some (ExV.mk (a := a) er))) (hg : Glb sc "isinstance") (hm : Γ.mg "isinstance" = none) (hg2 : Glb sc "ValueError") (hm2 : Γ.mg "ValueError" = none)
    (s1 : starEach [e, .Name "ValueError" p2] X.env = (false, eval e X.env) :: starEach [.Name "ValueError" p2] X.env := by rfl) (s2 : starEach [.Name "ValueError" p2] X.env = (false, eval (.Name "ValueError" p2) X.env) :: starEach [] X.env := by rfl) (hpl : (backTo pos (starEach [.Name "ValueError" p2] X.env)).any (·.1) = false := by rfl) :
    XE X Γ B ρ (.Call (.Name "isinstance" p) [e, .Name "ValueError" p2] [] pos) (some true) := by
  obtain ⟨X0, oe, pn, d, rfl, hz, hd, hf⟩ := h.ex
  rw [hd (fun z => xs.no9 (z ▸ h7))] at hz
  have hK : X0.K = Γ.K := h.hK
  exact imE (pe_callB (call_isE (X := X0) (by rw [hK]; exact xs.cc _ h7) hz hf) (h.gl hg) (by rw [h.hmg]; exact hm) PyProof.Rows.boot_isinstance (pa_cons he (pa_cons (pe_bltn (h.gl hg2) (by rw [h.hmg]; exact hm2) (show bootBuiltins "ValueError" = some (.type "ValueError") by decide +kernel) (show RelV (.ty "ValueError") (.type "ValueError") from rfl) (by decide) (by decide)) pa_nil s2) s1) (he := s1) (hpl := hpl)) fun σ H Q ⟨G, z, A, e, q⟩ => by
    cases e
    exact ⟨G, _, A, rfl, fun v G1 H1 g1 r1 => ⟨.ty "ValueError", .type "ValueError", _, by rw [show v = .ref a from r1], fun u r => r, by rw [hK]; exact xs.ve _ h7, q _ G1 H1 g1 rfl⟩⟩
end
end Sim

set_option Elab.async false
set_option autoImplicit false
set_option linter.all false
set_option maxRecDepth 100000
set_option maxHeartbeats 1000000
namespace Sim
open PySem L2
open Rp (rep)
open At1 (toV)
open K1 (key)
open KT (keys)
open Ow (own)
open RpA (repA stoA)
/-! ### webs -/
structure WebD where
  pairs : List Tt
  givers : List Tt
  suits : List ((Tt × Tt) × Bool)
/-- the fields of an instance of Web -/
abbrev webF (p g s : V) : List (Str × V) := [("pairs", p), ("givers", g), ("_suits", s)]
instance instRpWebD : Rp WebD := ⟨fun Γ G v w => ∃ a dx p g s, v = .ref a ∧ G a = some (.ins (Γ.C 20) dx (webF p g s)) ∧ rep Γ G p w.pairs ∧ rep Γ G g w.givers ∧ rep Γ G s (DT.mk w.suits),
  fun e ⟨a, dx, p, g, s, h1, h2, h3, h4, h5⟩ => ⟨a, dx, p, g, s, h1, e _ _ h2, Rp.mono e h3, Rp.mono e h4, Rp.mono e h5⟩⟩
/-- a web that is being made -/
inductive WS where
  | w0
  | w1 (p : List Tt)
  | w2 (p g : List Tt)
  | w3 (p g : List Tt) (s : List ((Tt × Tt) × Bool))
def WS.rp (Γ : Gm) (G : Hp) (v : V) : WS → Prop
  | .w3 p g s => rep Γ G v (WebD.mk p g s)
  | _ => True
instance instRpWS : Rp WS := ⟨fun Γ G v w => WS.rp Γ G v w, fun {_ _ _ _ w} e h => by
  cases w with
  | w3 p g s => exact Rp.mono (α := WebD) e h
  | _ => exact trivial⟩
def WS.ow (Γ : Gm) (G H : Hp) (x dx : Addr) (fp : List Addr) : WS → Prop
  | .w0 => fp = [x, dx] ∧ H x = some (.ins (Γ.C 20) dx [])
  | .w1 p => ∃ pv, fp = [x, dx] ∧ H x = some (.ins (Γ.C 20) dx [("pairs", pv)]) ∧ rep Γ G pv p
  | .w2 p g => ∃ pv gv, fp = [x, dx] ∧ H x = some (.ins (Γ.C 20) dx [("pairs", pv), ("givers", gv)]) ∧ rep Γ G pv p ∧ rep Γ G gv g
  | .w3 p g s => ∃ pv gv sd kvs, fp = [x, dx, sd] ∧ H x = some (.ins (Γ.C 20) dx (webF pv gv (.ref sd))) ∧ rep Γ G pv p ∧ rep Γ G gv g ∧ H sd = some (.dT kvs) ∧ RpT Γ G kvs s
theorem WS.hx {Γ : Gm} {G H : Hp} {x dx : Addr} {fp : List Addr} {w : WS} (h : w.ow Γ G H x dx fp) : ∃ fs, H x = some (.ins (Γ.C 20) dx fs) := by
  cases w with
  | w0 => exact ⟨_, h.2⟩
  | w1 p => obtain ⟨pv, _, h, _⟩ := h; exact ⟨_, h⟩
  | w2 p g => obtain ⟨pv, gv, _, h, _⟩ := h; exact ⟨_, h⟩
  | w3 p g s => obtain ⟨pv, gv, sd, kvs, _, h, _⟩ := h; exact ⟨_, h⟩
theorem WS.fpm {Γ : Gm} {G H : Hp} {x dx : Addr} {fp : List Addr} {w : WS} (h : w.ow Γ G H x dx fp) : ∀ y ∈ fp, y = x ∨ y = dx ∨ ∃ kvs, H y = some (.dT kvs) := by
  have two : fp = [x, dx] → ∀ y ∈ fp, y = x ∨ y = dx ∨ ∃ kvs, H y = some (.dT kvs) := fun e y hy => by
    rw [e] at hy
    simp at hy
    exact hy.imp_right .inl
  cases w with
  | w0 => exact two h.1
  | w1 p => obtain ⟨pv, e, h, _⟩ := h; exact two e
  | w2 p g => obtain ⟨pv, gv, e, h, _⟩ := h; exact two e
  | w3 p g s =>
    obtain ⟨pv, gv, sd, kvs, e, h, _, _, h2, _⟩ := h
    intro y hy
    rw [e] at hy
    simp at hy
    rcases hy with z | z | z
    · exact .inl z
    · exact .inr (.inl z)
    · exact .inr (.inr ⟨kvs, by rw [z]; exact h2⟩)
theorem WS.xin {Γ : Gm} {G H : Hp} {x dx : Addr} {fp : List Addr} {w : WS} (h : w.ow Γ G H x dx fp) : x ∈ fp ∧ dx ∈ fp := by
  cases w with
  | w0 => rw [h.1]; simp
  | w1 p => obtain ⟨pv, e, h, _⟩ := h; rw [e]; simp
  | w2 p g => obtain ⟨pv, gv, e, h, _⟩ := h; rw [e]; simp
  | w3 p g s => obtain ⟨pv, gv, sd, kvs, e, h, _⟩ := h; rw [e]; simp
theorem WS.stay {Γ : Gm} {G G' H H' : Hp} {x dx : Addr} {fp : List Addr} {w : WS} (h : w.ow Γ G H x dx fp) (e : Le G G') (k : ∀ y ∈ fp, ∀ o, H y = some o → H' y = some o) : w.ow Γ G' H' x dx fp := by
  have hx := (WS.xin h).1
  cases w with
  | w0 => exact ⟨h.1, k x hx _ h.2⟩
  | w1 p => obtain ⟨pv, e1, h1, h2⟩ := h; exact ⟨pv, e1, k x hx _ h1, Rp.mono e h2⟩
  | w2 p g => obtain ⟨pv, gv, e1, h1, h2, h3⟩ := h; exact ⟨pv, gv, e1, k x hx _ h1, Rp.mono e h2, Rp.mono e h3⟩
  | w3 p g s => obtain ⟨pv, gv, sd, kvs, e1, h1, h2, h3, h4, h5⟩ := h; exact ⟨pv, gv, sd, kvs, e1, k x hx _ h1, Rp.mono e h2, Rp.mono e h3, k sd (by rw [e1]; simp) _ h4, h5.mono e⟩
instance instOwWS : Ow WS where
  own := fun Γ G H v fp w => ∃ x dx, v = .ref x ∧ H dx = some (.own x) ∧ w.ow Γ G H x dx fp
  stay := fun ⟨x, dx, h1, h2, h3⟩ e k => ⟨x, dx, h1, k dx (WS.xin h3).2 _ h2, WS.stay h3 e k⟩
  there := fun ⟨x, dx, h1, h2, h3⟩ y hy => by
    rcases WS.fpm h3 y hy with z | z | ⟨kvs, z⟩
    · obtain ⟨fs, e⟩ := WS.hx h3
      rw [z]; exact some_ne e
    · rw [z]; exact some_ne h2
    · exact some_ne z
  nt := fun ⟨x, dx, h1, h2, h3⟩ y hy ws e => by
    rcases WS.fpm h3 y hy with z | z | ⟨kvs, z⟩
    · obtain ⟨fs, e2⟩ := WS.hx h3
      rw [z, e2] at e; cases e
    · rw [z, h2] at e; cases e
    · rw [z] at e; cases e
  F := WS
  iF := instRpWS
  toF := fun w => w
  canF := true
  fz := fun _ Γ G H v fp w ob ⟨x, dx, h1, h2, h3⟩ le => by
    cases w with
    | w3 p g s =>
      obtain ⟨pv, gv, sd, kvs, e1, h4, h5, h6, h7, h8⟩ := h3
      have fr : ∀ y ∈ fp, frzd G (lkd H fp ob) fp y = lkd H fp ob y := fun y hy => if_pos hy
      refine ⟨x, dx, pv, gv, .ref sd, h1, ?_, Rp.mono le h5, Rp.mono le h6, sd, kvs, ob sd, rfl, ?_, h8.mono le⟩
      · rw [fr x (by rw [e1]; simp)]
        exact lkd_nd h4 fun q => q
      · rw [fr sd (by rw [e1]; simp)]
        exact lkd_d (by rw [e1]; simp) h7 trivial
    | _ => exact trivial
/-- what the class Web says -/
structure WbT (Γ : Gm) : Prop where
  cl : Cls Γ.K (Γ.C 20)
  np : NoAttr Γ.K (Γ.C 20) "pairs"
  ng : NoAttr Γ.K (Γ.C 20) "givers"
  ns : NoAttr Γ.K (Γ.C 20) "_suits"
section
variable {X : Cx} {Γ : Gm} {B : Bs} {L β C : Type} [Rp β] {F : Kt L β C} {ρ ρ' : Sto} {N : List Str} {sc : Scope} {k j : Nat} {fx : List Nat} {W : WX} {M : List Addr} {pos p p' p2 apos : Pos} {e a b o tg it elt kx : Expr} {st : Stmt} {sts : List Stmt} {es : List Expr} {S : Type} {sto : S → Sto}
variable {α γ τ : Type} [Rp α] [Rp γ] [RpA τ]
/-! its fields, read -/
theorem xe_wP (c : Cok X Γ N sc k) (T : WbT Γ) {m : Option WebD} (h : XE X Γ B ρ e m) (hb : attributeBase e "pairs" X.env (eval e X.env) = eval e X.env := by rfl) : XE X Γ B ρ (.Attribute e "pairs" pos) (m.bind fun w => some w.pairs) := imE (pe_fld h hb) fun σ H Q ⟨G, z, A, e, q⟩ => by
  cases m with
  | none => cases e
  | some w =>
    cases e
    exact ⟨G, w, A, rfl, fun v G1 H1 g1 ⟨a, dx, p, g, s, h1, h2, h3, h4, h5⟩ => ⟨a, _, dx, _, p, h1, g1.sub _ _ h2, by rw [c.hK]; exact T.cl, by rw [c.hK]; exact T.np, rfl, q p G1 H1 g1 h3⟩⟩
theorem xe_wG (c : Cok X Γ N sc k) (T : WbT Γ) {m : Option WebD} (h : XE X Γ B ρ e m) (hb : attributeBase e "givers" X.env (eval e X.env) = eval e X.env := by rfl) : XE X Γ B ρ (.Attribute e "givers" pos) (m.bind fun w => some w.givers) := imE (pe_fld h hb) fun σ H Q ⟨G, z, A, e, q⟩ => by
  cases m with
  | none => cases e
  | some w =>
    cases e
    exact ⟨G, w, A, rfl, fun v G1 H1 g1 ⟨a, dx, p, g, s, h1, h2, h3, h4, h5⟩ => ⟨a, _, dx, _, g, h1, g1.sub _ _ h2, by rw [c.hK]; exact T.cl, by rw [c.hK]; exact T.ng, rfl, q g G1 H1 g1 h4⟩⟩
theorem xe_wS (c : Cok X Γ N sc k) (T : WbT Γ) {m : Option WebD} (h : XE X Γ B ρ e m) (hb : attributeBase e "_suits" X.env (eval e X.env) = eval e X.env := by rfl) : XE X Γ B ρ (.Attribute e "_suits" pos) (m.bind fun w => some (DT.mk w.suits)) := imE (pe_fld h hb) fun σ H Q ⟨G, z, A, e, q⟩ => by
  cases m with
  | none => cases e
  | some w =>
    cases e
    exact ⟨G, w, A, rfl, fun v G1 H1 g1 ⟨a, dx, p, g, s, h1, h2, h3, h4, h5⟩ => ⟨a, _, dx, _, s, h1, g1.sub _ _ h2, by rw [c.hK]; exact T.cl, by rw [c.hK]; exact T.ns, rfl, q s G1 H1 g1 h5⟩⟩
/-! the fields of a web that is being made -/
theorem xe_oP (c : Cok X Γ N sc k) (T : WbT Γ) {x : Str} (i : Nat) {p0 g0 : List Tt} {s0 : List ((Tt × Tt) × Bool)} (hi : ρ[i]? = some (ow (WS.w3 p0 g0 s0))) (hN : N[i]? = some x) (hv : Vis sc x) (hd : (x == ("__debug__" : Str)) = false := by decide) (hcd : (x == ("__classdict__" : Str)) = false := by decide)
    (hb : attributeBase (.Name x p) "pairs" X.env (eval (.Name x p) X.env) = eval (.Name x p) X.env := by rfl) : XE X Γ B ρ (.Attribute (.Name x p) "pairs" pos) (some p0) := imE (pe_fld (pv_ c hN hv hd hcd) hb) fun σ H Q ⟨G, z, A, e, q⟩ => by
  cases e
  obtain ⟨v, fp, h1, ⟨xx, dx, rfl, h2, pv, gv, sd, kvs, e1, h4, h5, h6, h7, h8⟩, h3⟩ := A.getO hi
  exact ⟨_, h1, xx, _, dx, _, pv, rfl, h4, by rw [c.hK]; exact T.cl, by rw [c.hK]; exact T.np, rfl, q pv G H (.refl A.sub) h5⟩
theorem xe_oG (c : Cok X Γ N sc k) (T : WbT Γ) {x : Str} (i : Nat) {p0 g0 : List Tt} {s0 : List ((Tt × Tt) × Bool)} (hi : ρ[i]? = some (ow (WS.w3 p0 g0 s0))) (hN : N[i]? = some x) (hv : Vis sc x) (hd : (x == ("__debug__" : Str)) = false := by decide) (hcd : (x == ("__classdict__" : Str)) = false := by decide)
    (hb : attributeBase (.Name x p) "givers" X.env (eval (.Name x p) X.env) = eval (.Name x p) X.env := by rfl) : XE X Γ B ρ (.Attribute (.Name x p) "givers" pos) (some g0) := imE (pe_fld (pv_ c hN hv hd hcd) hb) fun σ H Q ⟨G, z, A, e, q⟩ => by
  cases e
  obtain ⟨v, fp, h1, ⟨xx, dx, rfl, h2, pv, gv, sd, kvs, e1, h4, h5, h6, h7, h8⟩, h3⟩ := A.getO hi
  exact ⟨_, h1, xx, _, dx, _, gv, rfl, h4, by rw [c.hK]; exact T.cl, by rw [c.hK]; exact T.ng, rfl, q gv G H (.refl A.sub) h6⟩
theorem xt_oS (c : Cok X Γ N sc k) (T : WbT Γ) {x : Str} (i : Nat) {p0 g0 : List Tt} {s0 : List ((Tt × Tt) × Bool)} (hi : ρ[i]? = some (ow (WS.w3 p0 g0 s0))) (hN : N[i]? = some x) (hv : Vis sc x) (hd : (x == ("__debug__" : Str)) = false := by decide) (hcd : (x == ("__classdict__" : Str)) = false := by decide)
    (hb : attributeBase (.Name x p) "_suits" X.env (eval (.Name x p) X.env) = eval (.Name x p) X.env := by rfl) : XDT X Γ B ρ (.Attribute (.Name x p) "_suits" pos) (some s0) := imE (pe_fld (pv_ c hN hv hd hcd) hb) fun σ H Q ⟨G, z, A, e, q⟩ => by
  cases e
  obtain ⟨v, fp, h1, ⟨xx, dx, rfl, h2, pv, gv, sd, kvs, e1, h4, h5, h6, h7, h8⟩, h3⟩ := A.getO hi
  exact ⟨_, h1, xx, _, dx, _, .ref sd, rfl, h4, by rw [c.hK]; exact T.cl, by rw [c.hK]; exact T.ns, rfl, q sd kvs G H (.refl A.sub) (.inl h7) h8⟩
/-! .. stored -/
theorem At.ins {G H : Hp} {σ : St} {G1 H1 : Hp} {i : Nat} {w w' : WS} {fp : List Addr} {x dx : Addr} {fs' : List (Str × V)} (hx : ∃ fs, H x = some (.ins (Γ.C 20) dx fs)) (g0 : G x = none) (g : Grow G H G1 H1) (hfp : x ∈ fp) (th : ∀ y ∈ fp, H y ≠ none)
    (ch : ∀ (β : Type) (J : Ow β) (b : β) (G' H' : Hp) (fp' : List Addr), Le G G' → Sub G' H' → (∀ x, H x ≠ none → G x = none → Th (H x) (G' x)) → (∀ x o, x ∉ fp → H x = some o → H' x = some o) → (∀ x ∈ fp, H' x ≠ none) → (∀ x ∈ fp', x ∈ fp ∨ (H x = none ∧ G' x = none)) → J.own Γ G' H' (.ref x) fp' b → At Γ B (ρ.set i (.own β J b)) G' H' σ)
    (hw : w'.ow Γ G1 (upd H1 x (.ins (Γ.C 20) dx fs')) x dx fp) (hdx : H dx = some (.own x)) : At Γ B (ρ.set i (ow w')) G1 (upd H1 x (.ins (Γ.C 20) dx fs')) σ := by
  obtain ⟨fs, hx⟩ := hx
  have gx : G1 x = none := (g.thin x (some_ne hx) g0).no hx
  have ne : dx ≠ x := fun z => by rw [z, hx] at hdx; cases hdx
  refine ch WS _ w' G1 _ fp g.leG (fun y o hy => ?_) g.thin (fun y o hy ho => ?_) (fun y hy => ?_) (fun y hy => .inl hy) ⟨x, dx, rfl, by rw [upd_ne ne]; exact g.leH _ _ hdx, hw⟩
  · rw [upd_ne (fun z => by rw [z, gx] at hy; cases hy)]
    exact g.sub _ _ hy
  · rw [upd_ne (fun z : y = x => hy (by rw [z]; exact hfp))]
    exact g.leH _ _ ho
  · by_cases z : y = x
    · rw [z, upd_same]; simp
    · rw [upd_ne z]
      cases q : H y with
      | none => exact absurd q (th y hy)
      | some o => rw [g.leH _ _ q]; simp
theorem xp_oP (d : Dok X Γ B N sc k fx W M) (T : WbT Γ) {x : Str} (i : Nat) {m : Option (List Tt)} (he : XE X Γ B ρ e m) (hi : ρ[i]? = some (ow WS.w0)) (hN : N[i]? = some x) (hv : Vis sc x) (hd : (x == ("__debug__" : Str)) = false := by decide) (hcd : (x == ("__classdict__" : Str)) = false := by decide)
    (hs : swapsWith e (some (.Attribute (.Name x p) "pairs" p2)) pos.line X.env = pure false := by rfl) : XP1 X Γ B ρ (.Assign [.Attribute (.Name x p) "pairs" p2] e pos) m (fun z => ρ.set i (ow (WS.w1 z))) := imS (ps_fld (pv_ d.toCok hN hv hd hcd) he hs) fun D σ H ⟨G, s, A, e, q⟩ => by
  refine ⟨G, s, A, e, fun y G1 H1 g1 r1 => ?_⟩
  obtain ⟨v, fp, h1, ⟨xx, dx, rfl, h2, e1, h4⟩, hg0, ch⟩ := A.openO hi
  have hxf : xx ∈ fp := by rw [e1]; simp
  refine ⟨_, h1, xx, _, dx, [], rfl, g1.leH _ _ h4, by rw [d.hK]; exact T.cl, by rw [d.hK]; exact T.np, by simp, q G1 _ σ (At.ins (w := .w0) ⟨_, h4⟩ (hg0 _ hxf) g1 hxf (fun y hy => ?_) ch ⟨y, e1, upd_same, r1⟩ h2)⟩
  exact instOwWS.there (Γ := Γ) (G := G) (v := .ref xx) (a := .w0) ⟨xx, dx, rfl, h2, e1, h4⟩ y hy
theorem xp_oG (d : Dok X Γ B N sc k fx W M) (T : WbT Γ) {x : Str} (i : Nat) {m : Option (List Tt)} {p0 : List Tt} (he : XE X Γ B ρ e m) (hi : ρ[i]? = some (ow (WS.w1 p0))) (hN : N[i]? = some x) (hv : Vis sc x) (hd : (x == ("__debug__" : Str)) = false := by decide) (hcd : (x == ("__classdict__" : Str)) = false := by decide)
    (hs : swapsWith e (some (.Attribute (.Name x p) "givers" p2)) pos.line X.env = pure false := by rfl) : XP1 X Γ B ρ (.Assign [.Attribute (.Name x p) "givers" p2] e pos) m (fun z => ρ.set i (ow (WS.w2 p0 z))) := imS (ps_fld (pv_ d.toCok hN hv hd hcd) he hs) fun D σ H ⟨G, s, A, e, q⟩ => by
  refine ⟨G, s, A, e, fun y G1 H1 g1 r1 => ?_⟩
  obtain ⟨v, fp, h1, ⟨xx, dx, rfl, h2, pv, e1, h4, h5⟩, hg0, ch⟩ := A.openO hi
  have hxf : xx ∈ fp := by rw [e1]; simp
  refine ⟨_, h1, xx, _, dx, _, rfl, g1.leH _ _ h4, by rw [d.hK]; exact T.cl, by rw [d.hK]; exact T.ng, by simp, q G1 _ σ (At.ins (w := .w1 p0) ⟨_, h4⟩ (hg0 _ hxf) g1 hxf (fun y hy => ?_) ch ⟨pv, y, e1, upd_same, Rp.mono g1.leG h5, r1⟩ h2)⟩
  exact instOwWS.there (Γ := Γ) (G := G) (v := .ref xx) (a := .w1 p0) ⟨xx, dx, rfl, h2, pv, e1, h4, h5⟩ y hy
end
end Sim

set_option Elab.async false
set_option autoImplicit false
set_option linter.all false
set_option maxRecDepth 100000
set_option maxHeartbeats 1000000
namespace L2
open PySem PySem.Spec PyProof.Rows
section
variable {X : Cx} {CX : CXT} {k : Nat} {f C : Addr} {fd : FuncData} {ps : List Str} {sp : Sp} {E : St → XK} {x m : Str} {p pos apos : Pos} {e o : Expr} {es : List Expr} {ta : TE} {t : TA}
theorem run_makeZ {pins : List (Addr × Obj)} {σ : St} {H : Hp} {s : Shared} {Q : VK} {us : List Value} {vs : List V} (M : Mk X.K C f) (F : FnOk X.prog X.w X.K X.mg X.base CX k f fd ps sp) (hr : Room (k + 1) X.A) (hb : Binds X.K fd ps [])
    (hx : PassesAt CX X σ (E σ)) (I : Inv X pins σ H s) (r : Vals vs us)
    (h : ∀ x dx, H x = none → H dx = none → dx ≠ x → sp (.ref x :: vs) (upd (upd H dx (.own x)) x (.ins C dx [])) (fun v H2 => v = .non ∧ Q (.ref x) H2) (E σ)) :
    wpAny (model X.prog X.w) X.A (call (.ref C) us) (EP X pins σ Q) X.xe s := by
  have hq := h (s.heap.objs.size + 1) s.heap.objs.size (I.hok.fresh (Nat.le_succ _)) (I.hok.fresh (Nat.le_refl _)) (Nat.ne_of_lt (Nat.lt_succ_self _))
  have I2 := Inv.made (C := C) I
  have r2 : Vals (V.ref (s.heap.objs.size + 1) :: vs) (Value.ref (s.heap.objs.size + 1) :: us) := .cons rfl r
  have hl : (Value.ref (s.heap.objs.size + 1) :: us).length = ps.length := by
    have e := r2.length
    rw [F.len _ _ _ _ hq] at e
    exact e.symm
  have b := hb { s with heap := (s.heap.push PySem.W.emptyDict).push (PySem.W.instObj C s.heap.objs.size) } (Value.ref (s.heap.objs.size + 1) :: us) I2.kIn (by rw [List.append_nil]; exact hl)
  rw [List.append_nil] at b
  refine wpAny_call (make_map (f := f) I.kIn M.makes M.init (beq_iff_eq.mp M.fn) (codeAny_mono (F.run _ X.stack _ _ ⟨Value.ref (s.heap.objs.size + 1) :: us, []⟩ (Value.ref (s.heap.objs.size + 1) :: us) _ _ (E σ) (hr.make C us [])
    (I2.env0.make C us []) b r2 hq) fun r s' hq' => ?_))
  cases r with
  | error e => exact hx pins _ _ e s' I2 hq'
  | ok fl =>
    cases fl with
    | ret u =>
      obtain ⟨v, H', I3, rv, ev, q3⟩ := I2.after hq'
      subst ev
      exact ⟨rv, ⟨V.ref (s.heap.objs.size + 1), H', I3, rfl, q3⟩⟩
    | next => exact False.elim hq'
    | brk => exact False.elim hq'
    | cont => exact False.elim hq'
def tMakeZ (C : Addr) (sp : Sp) (E : St → XK) (t : TA) : TE := fun σ H Q => t σ H fun vs H1 => ∀ x dx, H1 x = none → H1 dx = none → dx ≠ x →
  sp (.ref x :: vs) (upd (upd H1 dx (.own x)) x (.ins C dx [])) (fun v H2 => v = .non ∧ Q (.ref x) H2) (E σ)
theorem pe_makeZ (M : Mk X.K C f) (F : FnOk X.prog X.w X.K X.mg X.base CX k f fd ps sp) (hr : Room (k + 1) X.A) (hg : Gl X x) (hm : X.mg x = some (.ref C)) (hb : Binds X.K fd ps []) (hx : ∀ σ, PassesAt CX X σ (E σ))
    (ha : PA X (e :: es) t) (hdb : (x == ("__debug__" : Str)) = false := by decide) (he : starEach (e :: es) X.env = (false, eval e X.env) :: starEach es X.env := by rfl) (hpl : (backTo pos (starEach es X.env)).any (·.1) = false := by rfl) :
    PE X (.Call (.Name x p) (e :: es) [] pos) (tMakeZ C sp E t) := by
  refine ⟨fun pins s σ H Q I h => ?_⟩
  refine wpAny_Call_Name_kw (ld_glob I hg hm ?_ hdb)
  refine PySem.W.callWith_K (h₀ := X.base) I.ok.mod.kin M.kp (thn (ha.run pos pins s σ H _ I h) fun us s1 ⟨vs, H1, I1, r, q⟩ => ⟨I1.kIn, ?_⟩) he hpl
  exact run_makeZ M F hr hb (hx σ) I1 r q
def tMethZ (C : Addr) (m : Str) (sp : Sp) (E : St → XK) (ta : TE) (t : TA) : TE := fun σ H Q => ta σ H fun x H1 => ∃ a dx fs, x = .ref a ∧ H1 a = some (.ins C dx fs) ∧ fs.lookup m = none ∧ t σ H1 fun vs H2 => sp (x :: vs) H2 Q (E σ)
/-- o.m(e, ..) -/
theorem pe_methZ {pl : Sem Bool} (he : PE X o ta) (c : Cls X.K C) (hm : Meth X.K C m f) (F : FnOk X.prog X.w X.K X.mg X.base CX k f fd ps sp) (hr : Room k X.A) (hb : Binds X.K fd ps []) (hx : ∀ σ, PassesAt CX X σ (E σ)) (ha : PA X (e :: es) t)
    (hst : starEach (e :: es) X.env = (false, eval e X.env) :: starEach es X.env := by rfl) (hpl : (backTo pos (starEach es X.env)).any (·.1) = false := by rfl)
    (ht : eval (.Call (.Attribute o m apos) (e :: es) [] pos) X.env = (do
      let ov ← eval o X.env
      standAt apos.atName
      let (f, first) ← holding [ov] (getMethod ov m pl)
      callWith pos f first (backTo pos (starEach (e :: es) X.env)) (backToKw pos (keywordEach [] X.env))) := by rfl) :
    PE X (.Call (.Attribute o m apos) (e :: es) [] pos) (tMethZ C m sp E ta t) := by
  refine ⟨fun pins s σ H Q I h => ?_⟩
  refine PySem.W.methodCall_KW (pl := pl) (thn (he.run pins s σ H _ I h) fun u s1 ⟨x, H1, I1, rx, a, dx, fs, ex, ea, l, q⟩ => ?_) ht
  subst ex
  obtain rfl : u = Value.ref a := rx
  refine getmeth_ok I1 ea c hm l ?_
  refine PySem.W.callWith_K (first := [.ref a]) (h₀ := X.base) I.ok.mod.kin hm.kp (thn (ha.run pos pins s1 σ H1 _ I1 q) fun us s2 ⟨vs, H2, I2, r, q2⟩ => ⟨I2.kIn, ?_⟩) hst hpl
  exact run_fnS (us := .ref a :: us) (vs := .ref a :: vs) F hr hb (hx σ) I2 (.cons rfl r) q2
/-- o.m() -/
theorem pe_methZ0 {pl : Sem Bool} (he : PE X o ta) (c : Cls X.K C) (hm : Meth X.K C m f) (F : FnOk X.prog X.w X.K X.mg X.base CX k f fd ps sp) (hr : Room k X.A) (hb : Binds X.K fd ps []) (hx : ∀ σ, PassesAt CX X σ (E σ))
    (ht : eval (.Call (.Attribute o m apos) [] [] pos) X.env = (do
      let ov ← eval o X.env
      standAt apos.atName
      let (f, first) ← holding [ov] (getMethod ov m pl)
      callWith pos f first (backTo pos (starEach [] X.env)) (backToKw pos (keywordEach [] X.env))) := by rfl) :
    PE X (.Call (.Attribute o m apos) [] [] pos) (tMethZ C m sp E ta tNil) := by
  refine ⟨fun pins s σ H Q I h => ?_⟩
  refine PySem.W.methodCall_KW (pl := pl) (thn (he.run pins s σ H _ I h) fun u s1 ⟨x, H1, I1, rx, a, dx, fs, ex, ea, l, q⟩ => ?_) ht
  subst ex
  obtain rfl : u = Value.ref a := rx
  refine getmeth_ok I1 ea c hm l ?_
  exact PySem.W.callWith_K0 (first := [.ref a]) I1.kIn hm.kp (run_fnS (us := [.ref a]) (vs := [.ref a]) F hr hb (hx σ) I1 (.cons rfl .nil) q)
end
end L2
namespace Sim
open PySem L2
open Rp (rep)
open At1 (toV)
open K1 (key)
open KT (keys)
open Ow (own)
open RpA (repA stoA)
section
variable {X : Cx} {Γ : Gm} {B : Bs} {L β C : Type} [Rp β] {F : Kt L β C} {ρ ρ' : Sto} {N : List Str} {sc : Scope} {k j : Nat} {fx : List Nat} {W : WX} {M : List Addr} {pos p p' p2 apos : Pos} {e a b o tg it elt kx : Expr} {st : Stmt} {sts : List Stmt} {es : List Expr} {S : Type} {sto : S → Sto}
variable {α γ τ : Type} [Rp α] [Rp γ] [RpA τ]
/-- self._suits = {} -/
theorem xp_oS (d : Dok X Γ B N sc k fx W M) (T : WbT Γ) {x : Str} (i : Nat) {p0 g0 : List Tt} {p3 : Pos} (hi : ρ[i]? = some (ow (WS.w2 p0 g0))) (hN : N[i]? = some x) (hv : Vis sc x) (hd : (x == ("__debug__" : Str)) = false := by decide) (hcd : (x == ("__classdict__" : Str)) = false := by decide)
    (hs : swapsWith (.Dict [] [] p3) (some (.Attribute (.Name x p) "_suits" p2)) pos.line X.env = pure false := by rfl) : XP1 X Γ B ρ (.Assign [.Attribute (.Name x p) "_suits" p2] (.Dict [] [] p3) pos) (some ()) (fun _ => ρ.set i (ow (WS.w3 p0 g0 []))) := imS (ps_fld (pv_ d.toCok hN hv hd hcd) pe_dnewT hs) fun D σ H ⟨G, s, A, e, q⟩ => by
  intro sd hsd
  obtain ⟨v, fp, h1, ⟨xx, dx, rfl, h2, pv, gv, e1, h4, h5, h6⟩, hg0, ch⟩ := A.openO hi
  have nx : xx ≠ sd := fun z => by rw [z, hsd] at h4; cases h4
  have nd : dx ≠ sd := fun z => by rw [z, hsd] at h2; cases h2
  have ne : dx ≠ xx := fun z => by rw [z, h4] at h2; cases h2
  have gsd : G sd = none := A.sub.none hsd
  have gx : G xx = none := hg0 xx (by rw [e1]; simp)
  refine ⟨_, h1, xx, _, dx, _, rfl, by rw [upd_ne nx]; exact h4, by rw [d.hK]; exact T.cl, by rw [d.hK]; exact T.ns, by simp, q G _ σ (ch WS _ (WS.w3 p0 g0 []) G _ [xx, dx, sd] (.refl _) (fun y o hy => ?_) (fun y _ hy => .inl hy) (fun y o hy ho => ?_) (fun y hy => ?_) (fun y hy => ?_) ⟨xx, dx, rfl, by rw [upd_ne ne, upd_ne nd]; exact h2, pv, gv, sd, [], rfl, upd_same, h5, h6, by rw [upd_ne (Ne.symm nx), upd_same], .nil⟩)⟩
  · have y1 : y ≠ xx := fun z => by rw [z, gx] at hy; cases hy
    have y2 : y ≠ sd := fun z => by rw [z, gsd] at hy; cases hy
    rw [upd_ne y1, upd_ne y2]
    exact A.sub _ _ hy
  · have y1 : y ≠ xx := fun z => hy (by rw [z, e1]; simp)
    have y2 : y ≠ sd := fun z => by rw [z, hsd] at ho; cases ho
    rw [upd_ne y1, upd_ne y2]
    exact ho
  · rw [e1] at hy
    simp at hy
    rcases hy with z | z
    · rw [z, upd_same]; simp
    · rw [z, upd_ne ne, upd_ne nd, h2]; simp
  · simp at hy
    rcases hy with z | z | z
    · exact .inl (by rw [z, e1]; simp)
    · exact .inl (by rw [z, e1]; simp)
    · exact .inr (by rw [z]; exact ⟨hsd, gsd⟩)
/-- self._suits[a] = e -/
theorem xp_oPut (c : Dok X Γ B N sc k fx W M) (T : WbT Γ) {x : Str} (i : Nat) {p0 g0 : List Tt} {s0 : List ((Tt × Tt) × Bool)} {mk : Option (Tt × Tt)} {mv : Option Bool} {p3 : Pos} (hi : ρ[i]? = some (ow (WS.w3 p0 g0 s0))) (hN : N[i]? = some x) (hv : Vis sc x) (hk : XE X Γ B ρ a mk) (he : XE X Γ B ρ e mv) (hd : (x == ("__debug__" : Str)) = false := by decide) (hcd : (x == ("__classdict__" : Str)) = false := by decide)
    (hb : attributeBase (.Name x p) "_suits" X.env (eval (.Name x p) X.env) = eval (.Name x p) X.env := by rfl)
    (hs : swapsWith e (some (.Subscript (.Attribute (.Name x p) "_suits" p3) a p2)) pos.line X.env = pure false := by rfl) :
    XP1 X Γ B ρ (.Assign [.Subscript (.Attribute (.Name x p) "_suits" p3) a p2] e pos) (mv.bind fun v => mk.bind fun y => dput s0 y v) (fun d' => ρ.set i (ow (WS.w3 p0 g0 d'))) := imS (ps_dput c.hu (pe_fld (pv_ c.toCok hN hv hd hcd) hb) hk he hs) fun D σ H ⟨G, s, A, e, q⟩ => by
  cases mv with
  | none => cases e
  | some v =>
    cases mk with
    | none => cases e
    | some y =>
      obtain ⟨hl, e⟩ := ite_some (by have qq : dput s0 y v = some s := e; unfold dput at qq; exact qq)
      subst e
      refine ⟨G, v, A, rfl, fun w G1 H1 g1 r1 => ?_⟩
      obtain ⟨u, fp, h1, ⟨xx, dx, rfl, h2, pv, gv, sd, kvs, e1, h4, h5, h6, h7, h8⟩, hg0, ch⟩ := A.openO hi
      refine ⟨_, h1, xx, _, dx, _, .ref sd, rfl, g1.leH _ _ h4, by rw [c.hK]; exact T.cl, by rw [c.hK]; exact T.ns, rfl, G1, y, A.grow g1, rfl, fun z G2 H2 g2 r2 => ?_⟩
      obtain ⟨t, e2, e3⟩ := TKey.tup r2
      have g := g1.trans g2
      have gsd : G sd = none := hg0 sd (by rw [e1]; simp)
      have nx : xx ≠ sd := fun z => by rw [z, h7] at h4; cases h4
      have nd : dx ≠ sd := fun z => by rw [z, h7] at h2; cases h2
      have g2sd : G2 sd = none := (g.thin sd (some_ne h7) gsd).no h7
      refine ⟨sd, _, rfl, .inr ⟨kvs, keys y, t, g.leH _ _ h7, e2, g2.sub.tup e3, by rw [show kvs.length = s0.length from Paired.length h8]; exact big_lt (by omega), rfl⟩, ?_⟩
      refine q G2 _ σ (ch WS _ (WS.w3 p0 g0 (put s0 y v)) G2 _ fp g.leG (fun b o hy => ?_) g.thin (fun b o hy ho => ?_) (fun b hy => ?_) (fun b hy => .inl hy) ⟨xx, dx, rfl, by rw [upd_ne nd]; exact g.leH _ _ h2, pv, gv, sd, _, e1, by rw [upd_ne nx]; exact g.leH _ _ h4, Rp.mono g.leG h5, Rp.mono g.leG h6, upd_same, (h8.mono g.leG).put (Rp.mono g2.leG r1)⟩)
      · rw [upd_ne (fun z => by rw [z, g2sd] at hy; cases hy)]
        exact g.sub _ _ hy
      · rw [upd_ne (fun z => hy (by rw [z, e1]; simp))]
        exact g.leH _ _ ho
      · by_cases z : b = sd
        · rw [z, upd_same]; simp
        · rw [upd_ne z]
          have := instOwWS.there (Γ := Γ) (G := G) (v := .ref xx) (a := .w3 p0 g0 s0) ⟨xx, dx, rfl, h2, pv, gv, sd, kvs, e1, h4, h5, h6, h7, h8⟩ b hy
          cases qb : H b with
          | none => exact absurd qb this
          | some o => rw [g.leH _ _ qb]; simp
end
end Sim

set_option Elab.async false
set_option autoImplicit false
set_option linter.all false
set_option maxRecDepth 100000
set_option maxHeartbeats 1000000
namespace Sim
open PySem PySem.Spec PyProof.Rows L2
open Rp (rep)
open Ow (own)
open RpA (repA stoA)
/-! ### methods, and Web(..) -/
/-- a method that is pure, its web handed first -/
structure CalM (Γ : Gm) (x : Str) (k : Nat) (fr : Bool) {τ β : Type} [RpA τ] [Rp β] (f : WebD × τ → Option β) : Prop where
  ex : ∃ a fd ps, FnOk Γ.P Γ.w Γ.K Γ.mg Γ.base CX0 k a fd ps (specP Γ fr f) ∧ Meth Γ.K (Γ.C 20) x a ∧ Binds Γ.K fd ps []
/-- where a method stands -/
structure DefM (Γ : Gm) (x qual : Str) (st : Stmt) (ps : List Str) : Prop where
  ex : ∃ a fd, Fun Γ.K x qual st a fd ∧ Meth Γ.K (Γ.C 20) x a ∧ Binds Γ.K fd ps []
section
variable {Γ : Gm} {x qual : Str} {st : Stmt} {N ps : List Str} {k : Nat} {τ β : Type} [RpA τ] [Rp β] {fr : Bool} {S : Type} {sto : S → Sto}
/-- the rule for a def that is pure, its function given, any name -/
theorem fnokQ_of {a : Addr} {fd : FuncData} (F : Fun Γ.K x qual st a fd) (Sc : FnScope N ps (defScope st)) {m : τ → Option (Fl S Empty β Unit)} (fin : S → β) (hfin : ∀ s (G : Hp), rep Γ G .non (fin s)) (hps : RpA.num τ = ps.length)
    (hb : ∀ (X : Cx) (B : Bs) (t : τ), Dok X Γ B N (defScope st) k [] (fun _ _ _ _ => False) [] → XB X Γ B (ktP β fr N.length) (stoA t ++ deads (N.length - RpA.num τ)) (defBody st) (m t) sto) (fm : τ → Option β) (hm : ∀ t, fm t = (m t).bind (retP fin)) : FnOk Γ.P Γ.w Γ.K Γ.mg Γ.base CX0 (k + 1) a fd ps (specP Γ fr fm) := by
  refine F.ok Sc (fun vs H Q E h => ?_) (fun cdv A outer s H vs Q E hr h => ?_)
  · obtain ⟨G, t, b, h1, h2, _⟩ := h
    rw [(RpA.okA (H := H) h2).1, hps]
  · obtain ⟨G, t, b, h1, h2, h3, q⟩ := h
    have hN : RpA.num τ ≤ N.length := by
      rw [hps]
      have z := congrArg List.length Sc.pre
      rw [List.length_take] at z
      omega
    have A0 := at_start (fx := []) h1 h2 hN
    refine ⟨_, hb _ ⟨G, H, [], L2.start N vs, []⟩ t ⟨⟨rfl, rfl, rfl, rfl, rfl, rfl, Sc.nd, rfl, rfl, hr⟩, PassesOwn.never, fun _ => rfl, takes0, rfl, rfl, rfl, rfl⟩, ?_⟩
    rw [hm] at h3
    cases e : m t with
    | none => rw [e] at h3; cases h3
    | some r =>
      rw [e] at h3
      refine ⟨G, r, A0, by first | exact e | rfl, ?_⟩
      cases r with
      | nx s1 =>
        have h3 : some (fin s1) = some b := h3
        have h3 := Option.some.inj h3
        subst h3
        intro G' H' σ' A'
        exact q .non G' H' A'.grown (hfin s1 G') fun _ p z => by cases z
      | bk l => exact l.elim
      | ct l => exact l.elim
      | ret b' c =>
        have h3 : some b' = some b := h3
        have h3 := Option.some.inj h3
        subst h3
        intro v G' H' σ' A' r f
        exact q v G' H' A'.grown r f
      | err e' c => cases h3
theorem calM_of (D : DefM Γ x qual st ps) (Sc : FnScope N ps (defScope st)) {m : WebD × τ → Option (Fl S Empty β Unit)} (fin : S → β) (hfin : ∀ s (G : Hp), rep Γ G .non (fin s)) (hps : RpA.num (WebD × τ) = ps.length)
    (hb : ∀ (X : Cx) (B : Bs) (t : WebD × τ), Dok X Γ B N (defScope st) k [] (fun _ _ _ _ => False) [] → XB X Γ B (ktP β fr N.length) (stoA t ++ deads (N.length - RpA.num (WebD × τ))) (defBody st) (m t) sto) (fm : WebD × τ → Option β) (hm : ∀ t, fm t = (m t).bind (retP fin)) : CalM Γ x (k + 1) fr fm := by
  obtain ⟨a, fd, F, h1, h2⟩ := D.ex
  exact ⟨a, fd, ps, fnokQ_of F Sc fin hfin hps hb fm hm, h1, h2⟩
theorem CalM.mono {f : WebD × τ → Option β} {j : Nat} (h : CalM Γ x j fr f) (hk : j ≤ k) : CalM Γ x k fr f := by
  obtain ⟨a, fd, ps, F, h1, h2⟩ := h.ex
  exact ⟨a, fd, ps, F.mono hk, h1, h2⟩
/-! self is being made: Web.__init__ -/
def specC (Γ : Gm) {τ : Type} [RpA τ] (f : τ → Option (Except Er WebD)) : Sp := fun vs H Q E => ∃ G H0 x dx ws t b, Sub G H0 ∧ H0 x = none ∧ H0 dx = none ∧ dx ≠ x ∧ H = upd (upd H0 dx (.own x)) x (.ins (Γ.C 20) dx []) ∧ vs = .ref x :: ws ∧ repA Γ G ws t ∧ f t = some b ∧ match b with
  | .ok w => ∀ G' H', Grow G H0 G' H' → rep Γ G' (.ref x) w → Q .non H'
  | .error e => ∀ cls d G' H', Grow G H0 G' H' → IsEr Γ e cls d H' → E cls d H'
structure CalC (Γ : Gm) (x : Str) (k : Nat) {τ : Type} [RpA τ] (f : τ → Option (Except Er WebD)) : Prop where
  ex : ∃ a fd ps, FnOk Γ.P Γ.w Γ.K Γ.mg Γ.base (L2.CX Γ.P Γ.w) k a fd ps (specC Γ f) ∧ Mk Γ.K (Γ.C 20) a ∧ Γ.mg x = some (.ref (Γ.C 20)) ∧ Binds Γ.K fd ps []
/-- where a class's __init__ stands -/
structure DefC (Γ : Gm) (x qual : Str) (st : Stmt) (ps : List Str) : Prop where
  ex : ∃ a fd, Fun Γ.K "__init__" qual st a fd ∧ Mk Γ.K (Γ.C 20) a ∧ Γ.mg x = some (.ref (Γ.C 20)) ∧ Binds Γ.K fd ps []
abbrev ktC (n : Nat) (W : WX) : Kt Empty Unit Unit := ⟨fun l => l.elim, fun l => l.elim, fun _ => deads n, false, W⟩
abbrev stC (n : Nat) (w : WS) : Sto := vl w :: deads (n - 1)
def retC : Fl WS Empty Unit Unit → Option (Except Er WebD)
  | .nx (.w3 p g s) => some (.ok ⟨p, g, s⟩)
  | .err e _ => some (.error e)
  | _ => none
theorem at_startC {G H0 : Hp} {x dx : Addr} {ws : List V} {t : τ} (s : Sub G H0) (hx : H0 x = none) (hdx : H0 dx = none) (ne : dx ≠ x) (r : repA Γ G ws t) (hn : RpA.num τ + 1 ≤ N.length) :
    At Γ ⟨G, H0, [], L2.start N (.ref x :: ws), [0]⟩ (ow WS.w0 :: (stoA t ++ deads (N.length - RpA.num τ - 1))) G (upd (upd H0 dx (.own x)) x (.ins (Γ.C 20) dx [])) (L2.start N (.ref x :: ws)) := by
  have q := RpA.okA (H := H0) r
  have hl : (stoA t).length = RpA.num τ := RpA.lenA t
  have kp : ∀ y o, H0 y = some o → upd (upd H0 dx (.own x)) x (.ins (Γ.C 20) dx []) y = some o := fun y o ho => by
    have y1 : y ≠ x := fun z => by rw [z, hx] at ho; cases ho
    have y2 : y ≠ dx := fun z => by rw [z, hdx] at ho; cases ho
    rw [upd_ne y1, upd_ne y2]
    exact ho
  have q' := RpA.okA (H := upd (upd H0 dx (.own x)) x (.ins (Γ.C 20) dx [])) r
  refine ⟨fun y o ho => kp y o (s y o ho), .refl _, fun a o _ h => kp a o h, fun a h => ?_, fun a _ _ h => .inl h, ⟨fun i => if i = 0 then [x, dx] else [], ⟨by simp [L2.start, hl, q.1]; omega, fun i sl e => ?_, fun i j y h h' => ?_, fun i hi => ?_⟩, fun i a h => ?_⟩, fun _ _ => rfl⟩
  · show upd (upd H0 dx (.own x)) x (.ins (Γ.C 20) dx []) a ≠ none
    cases qa : H0 a with
    | none => exact absurd qa h
    | some o => rw [kp a o qa]; simp
  · cases i with
    | zero =>
      have e : ow WS.w0 = sl := Option.some.inj e
      subst e
      exact ⟨some (.ref x), by simp [L2.start], .ref x, rfl, x, dx, rfl, by rw [upd_ne ne, upd_same], rfl, upd_same⟩
    | succ i =>
      rw [List.getElem?_cons_succ] at e
      have z : ¬ (i + 1 = 0) := by omega
      by_cases hi : i < RpA.num τ
      · rw [List.getElem?_append_left (by rw [hl]; exact hi)] at e
        obtain ⟨v, q1, q2⟩ := q'.2 i sl e
        refine ⟨some v, ?_, by rw [if_neg z]; exact q2⟩
        unfold L2.start
        rw [List.getElem?_append_left (by simp [q.1]; omega), List.getElem?_map, List.getElem?_cons_succ, q1]
        rfl
      · rw [List.getElem?_append_right (by rw [hl]; omega), hl] at e
        obtain ⟨e1, e2⟩ := get_rep e
        subst e1
        refine ⟨none, ?_, by rw [if_neg z]; exact rfl⟩
        unfold L2.start
        rw [List.getElem?_append_right (by simp [q.1]; omega), List.getElem?_replicate, if_pos]
        simp [q.1]
        omega
  · by_cases e1 : i = 0 <;> by_cases e2 : j = 0
    · rw [e1, e2]
    · rw [if_neg e2] at h'; simp at h'
    · rw [if_neg e1] at h; simp at h
    · rw [if_neg e1] at h; simp at h
  · rw [if_neg]
    intro e
    rw [e] at hi
    simp at hi
  · dsimp only at h
    by_cases e1 : i = 0
    · rw [if_pos e1] at h
      simp at h
      rcases h with z | z
      · rw [z]; exact ⟨s.none hx, .inl hx⟩
      · rw [z]; exact ⟨s.none hdx, .inl hdx⟩
    · rw [if_neg e1] at h; simp at h
theorem calC_of (D : DefC Γ x qual st ps) (Sc : FnScope N ps (defScope st)) {m : τ → Option (Fl WS Empty Unit Unit)} (hps : RpA.num τ + 1 = ps.length)
    (hb : ∀ (X : Cx) (B : Bs) (t : τ) (W : WX), Dok X Γ B N (defScope st) k [0] W [] → XB X Γ B (ktC N.length W) (ow WS.w0 :: (stoA t ++ deads (N.length - RpA.num τ - 1))) (defBody st) (m t) (stC N.length)) (fm : τ → Option (Except Er WebD)) (hm : ∀ t, fm t = (m t).bind retC) : CalC Γ x (k + 1) fm := by
  obtain ⟨a, fd, F, hM, hg, bi⟩ := D.ex
  refine ⟨a, fd, ps, F.okX Sc (fun vs H Q E h => ?_) (fun cdv A outer s H vs Q E hr h => ?_), hM, hg, bi⟩
  · obtain ⟨G, H0, x, dx, ws, t, b, h1, h2, h3, h4, h5, h6, h7, _⟩ := h
    rw [h6, List.length_cons, (RpA.okA (H := H0) h7).1]
    exact hps
  · obtain ⟨G, H0, x, dx, ws, t, b, h1, h2, h3, h4, h5, h6, h7, h8, q⟩ := h
    have hN : RpA.num τ + 1 ≤ N.length := by
      rw [hps]
      have z := congrArg List.length Sc.pre
      rw [List.length_take] at z
      omega
    subst h5 h6
    have A0 := at_startC (N := N) h1 h2 h3 h4 h7 hN
    refine ⟨_, hb _ ⟨G, H0, [], L2.start N (.ref x :: ws), [0]⟩ t (fun cls d _ H => E cls d H) ⟨⟨rfl, rfl, rfl, rfl, rfl, rfl, Sc.nd, rfl, rfl, hr⟩, passes_of rfl, fun _ => rfl, takes_of rfl rfl rfl rfl, rfl, rfl, rfl, rfl⟩, ?_⟩
    rw [hm] at h8
    cases e : m t with
    | none => rw [e] at h8; cases h8
    | some r =>
      rw [e] at h8
      refine ⟨G, r, A0, by first | exact e | rfl, ?_⟩
      cases r with
      | nx w =>
        cases w with
        | w3 p g su =>
          have h8 : some (Except.ok (WebD.mk p g su)) = some b := h8
          cases h8
          intro G' H' σ' A'
          obtain ⟨v, e1, e2⟩ := A'.get (i := 0) (a := WS.w3 p g su) rfl
          have fx := A'.fix 0 (by simp)
          rw [e1] at fx
          have e3 : (L2.start N (.ref x :: ws))[0]? = some (some (.ref x)) := by simp [L2.start]
          have fx : some (some v) = (L2.start N (.ref x :: ws))[0]? := fx
          rw [e3] at fx
          have ev : v = .ref x := by
            have := Option.some.inj fx
            exact Option.some.inj this
          subst ev
          exact q G' H' A'.grown e2
        | _ => cases h8
      | bk l => exact l.elim
      | ct l => exact l.elim
      | ret b' c => cases h8
      | err e' c =>
        have h8 : some (Except.error e') = some b := h8
        cases h8
        exact fun cls d G' H' σ' A' ie => q cls d G' H' A'.grown ie
/-! self is changed: Web._add_suit -/
structure GrowF (fp : List Addr) (G H G' H' : Hp) : Prop where
  leG : Le G G'
  keep : ∀ a o, a ∉ fp → H a = some o → H' a = some o
  live : ∀ a, H a ≠ none → H' a ≠ none
  sub : Sub G' H'
  thin : ∀ a, a ∉ fp → H a ≠ none → G a = none → Th (H a) (G' a)
theorem At.openF {Γ : Gm} {B : Bs} {ρ : Sto} {G H : Hp} {σ : L2.St} {α : Type} {I : Ow α} {a : α} {i : Nat} (A : At Γ B ρ G H σ) (h : ρ[i]? = some (.own α I a)) : ∃ v fp, σ[i]? = some (some v) ∧ I.own Γ G H v fp a ∧ (∀ x ∈ fp, G x = none) ∧
    ∀ (β : Type) (J : Ow β) (b : β) (G' H' : Hp) (fp' : List Addr), GrowF fp G H G' H' → (∀ x ∈ fp', G' x = none ∧ (x ∈ fp ∨ H x = none)) → J.own Γ G' H' v fp' b →
      At Γ B (ρ.set i (.own β J b)) G' H' σ := by
  obtain ⟨φ, h1, h3⟩ := A.slots
  have hi : i < ρ.length := (List.getElem?_eq_some_iff.mp h).1
  obtain ⟨o, e1, v, e2, ow⟩ := h1.ok i _ h
  have e1 : σ[i]? = some (some v) := by rw [e1, e2]
  refine ⟨v, φ i, e1, ow, fun x hx => (h3 i x hx).1, fun β J b G' H' fp' ⟨leG, keep, thr, sub, thin⟩ hfp own' => ?_⟩
  have hs : i < σ.length := by rw [h1.len]; exact hi
  have hfp2 : ∀ j x, j ≠ i → x ∈ fp' → x ∉ φ j := fun j x hj hx hm => by
    rcases (hfp x hx).2 with q | q
    · exact hj (h1.apart j i x hm q)
    · exact h1.there j x hm q
  have out : ∀ x, x ∉ B.M → B.H x ≠ none → x ∉ φ i := fun x hx hb hm => by
    rcases (h3 i x hm).2 with w | w
    · exact hb w
    · exact hx w
  refine ⟨sub, A.le.trans leG, fun x u hx e => ?_, fun x hx => thr x (A.live x hx), fun x hx hb hg => ?_, ⟨setφ φ i fp', ?_, fun j x hx => ?_⟩, A.fix⟩
  · exact keep x u (out x hx (some_ne e)) (A.keep x u hx e)
  · refine (A.thin x hx hb hg).trans fun z => ?_
    have hh : H x = B.H x := by
      cases q : B.H x with
      | none => exact absurd q hb
      | some u => exact A.keep x u hx q
    rw [← hh]
    exact thin x (out x hx hb) (by rw [hh]; exact hb) z
  · refine ⟨by simp [h1.len], fun j s hj => ?_, fun j k x hx hy => ?_, fun j hj => ?_⟩
    · by_cases z : j = i
      · subst z
        rw [List.getElem?_set_self hi] at hj
        cases hj
        exact ⟨some v, e1, v, rfl, by rw [setφ_same]; exact own'⟩
      · rw [List.getElem?_set_ne (Ne.symm z)] at hj
        obtain ⟨o', q1, q2⟩ := h1.ok j s hj
        refine ⟨o', q1, ?_⟩
        rw [setφ_ne z]
        exact q2.grow leG fun x hx u e => keep x u (fun hm => z (h1.apart j i x hx hm)) e
    · rcases mem_setφ hx with ⟨e, hx⟩ | ⟨e, hx⟩ <;> rcases mem_setφ hy with ⟨e', hy⟩ | ⟨e', hy⟩
      · rw [e, e']
      · exact absurd hy (hfp2 k x e' hx)
      · exact absurd hx (hfp2 j x e hy)
      · exact h1.apart j k x hx hy
    · have z : j ≠ i := by
        intro z
        rw [List.length_set, z] at hj
        omega
      rw [setφ_ne z]
      exact h1.out j (by simpa using hj)
  · rcases mem_setφ hx with ⟨_, q⟩ | ⟨hj, q⟩
    · refine ⟨(hfp x q).1, ?_⟩
      rcases (hfp x q).2 with w | w
      · exact (h3 i x w).2
      · left
        cases z : B.H x with
        | none => rfl
        | some u => exact absurd w (A.live x (some_ne z))
    · exact ⟨(thin x (fun hm => hj (h1.apart j i x q hm)) (h1.there j x q) (h3 j x q).1).none (h1.nt j x q), (h3 j x q).2⟩
def specIE (Γ : Gm) {τ : Type} [RpA τ] (f : τ → WS → Option (Except Er WS)) : Sp := fun vs H Q E => ∃ G x fp w ws t r, Sub G H ∧ vs = .ref x :: ws ∧ repA Γ G ws t ∧ (∀ y ∈ fp, G y = none) ∧ own Γ G H (.ref x) fp w ∧ f t w = some r ∧ match r with
  | .ok w' => ∀ G' H' fp', GrowF fp G H G' H' → (∀ y ∈ fp', G' y = none ∧ (y ∈ fp ∨ H y = none)) → own Γ G' H' (.ref x) fp' w' → Q .non H'
  | .error e => ∀ cls d G' H' fp' (w' : WS), GrowF fp G H G' H' → (∀ y ∈ fp', G' y = none ∧ (y ∈ fp ∨ H y = none)) → own Γ G' H' (.ref x) fp' w' → IsEr Γ e cls d H' → E cls d H'
structure CalIE (Γ : Gm) (x : Str) (k : Nat) {τ : Type} [RpA τ] (f : τ → WS → Option (Except Er WS)) : Prop where
  ex : ∃ a fd ps, FnOk Γ.P Γ.w Γ.K Γ.mg Γ.base (L2.CX Γ.P Γ.w) k a fd ps (specIE Γ f) ∧ Meth Γ.K (Γ.C 20) x a ∧ Binds Γ.K fd ps []
abbrev ktIE (n : Nat) (W : WX) : Kt Empty Unit WS := ⟨fun l => l.elim, fun l => l.elim, fun w => ow w :: deads (n - 1), false, W⟩
abbrev stIE (n : Nat) (w : WS) : Sto := ow w :: deads (n - 1)
def retIE : Fl WS Empty Unit WS → Option (Except Er WS)
  | .nx w' => some (.ok w')
  | .err e _ => some (.error e)
  | _ => none
theorem at_startIE {G H : Hp} {x : Addr} {fp : List Addr} {w : WS} {ws : List V} {t : τ} (s : Sub G H) (r : repA Γ G ws t) (hn : RpA.num τ + 1 ≤ N.length) (hg : ∀ y ∈ fp, G y = none) (ho : own Γ G H (.ref x) fp w) :
    At Γ ⟨G, H, fp, L2.start N (.ref x :: ws), [0]⟩ (ow w :: (stoA t ++ deads (N.length - RpA.num τ - 1))) G H (L2.start N (.ref x :: ws)) := by
  have q := RpA.okA (H := H) r
  have hl : (stoA t).length = RpA.num τ := RpA.lenA t
  refine ⟨s, .refl _, fun _ _ _ h => h, fun _ h => h, fun _ _ _ h => .inl h, ⟨fun i => if i = 0 then fp else [], ⟨by simp [L2.start, hl, q.1]; omega, fun i sl e => ?_, fun i j y h h' => ?_, fun i hi => ?_⟩, fun i a h => ?_⟩, fun _ _ => rfl⟩
  · cases i with
    | zero =>
      have e : ow w = sl := Option.some.inj e
      subst e
      exact ⟨some (.ref x), by simp [L2.start], .ref x, rfl, ho⟩
    | succ i =>
      rw [List.getElem?_cons_succ] at e
      have z : ¬ (i + 1 = 0) := by omega
      by_cases hi : i < RpA.num τ
      · rw [List.getElem?_append_left (by rw [hl]; exact hi)] at e
        obtain ⟨v, q1, q2⟩ := q.2 i sl e
        refine ⟨some v, ?_, by rw [if_neg z]; exact q2⟩
        unfold L2.start
        rw [List.getElem?_append_left (by simp [q.1]; omega), List.getElem?_map, List.getElem?_cons_succ, q1]
        rfl
      · rw [List.getElem?_append_right (by rw [hl]; omega), hl] at e
        obtain ⟨e1, e2⟩ := get_rep e
        subst e1
        refine ⟨none, ?_, by rw [if_neg z]; exact rfl⟩
        unfold L2.start
        rw [List.getElem?_append_right (by simp [q.1]; omega), List.getElem?_replicate, if_pos]
        simp [q.1]
        omega
  · by_cases e1 : i = 0 <;> by_cases e2 : j = 0
    · rw [e1, e2]
    · rw [if_neg e2] at h'; simp at h'
    · rw [if_neg e1] at h; simp at h
    · rw [if_neg e1] at h; simp at h
  · rw [if_neg]
    intro e
    rw [e] at hi
    simp at hi
  · dsimp only at h
    by_cases e1 : i = 0
    · rw [if_pos e1] at h
      exact ⟨hg a h, .inr h⟩
    · rw [if_neg e1] at h; simp at h
theorem atIE_end {G H : Hp} {x : Addr} {fp : List Addr} {ws : List V} {G' H' : Hp} {σ' : L2.St} {w' : WS} (hn : 1 ≤ N.length) (A' : At Γ ⟨G, H, fp, L2.start N (.ref x :: ws), [0]⟩ (ow w' :: deads (N.length - 1)) G' H' σ') :
    ∃ fp', GrowF fp G H G' H' ∧ (∀ y ∈ fp', G' y = none ∧ (y ∈ fp ∨ H y = none)) ∧ own Γ G' H' (.ref x) fp' w' := by
  obtain ⟨φ, h1, h3⟩ := A'.slots
  obtain ⟨o, e1, v, e2, ow'⟩ := h1.ok 0 (ow w') rfl
  have fx := A'.fix 0 (by simp)
  have e3 : (L2.start N (.ref x :: ws))[0]? = some (some (.ref x)) := by simp [L2.start]
  have fx : σ'[0]? = (L2.start N (.ref x :: ws))[0]? := fx
  rw [e1, e2, e3] at fx
  have ev : v = .ref x := by
    have := Option.some.inj fx
    exact Option.some.inj this
  subst ev
  refine ⟨φ 0, ⟨A'.le, A'.keep, A'.live, A'.sub, A'.thin⟩, fun y hy => ⟨(h3 0 y hy).1, ?_⟩, ow'⟩
  exact (h3 0 y hy).2.symm
theorem calIE_of (D : DefM Γ x qual st ps) (Sc : FnScope N ps (defScope st)) {m : τ → WS → Option (Fl WS Empty Unit WS)} (hps : RpA.num τ + 1 = ps.length)
    (hb : ∀ (X : Cx) (B : Bs) (t : τ) (w : WS) (M : List Addr) (W : WX), Dok X Γ B N (defScope st) k [0] W M → XB X Γ B (ktIE N.length W) (ow w :: (stoA t ++ deads (N.length - RpA.num τ - 1))) (defBody st) (m t w) (stIE N.length)) (fm : τ → WS → Option (Except Er WS)) (hm : ∀ t w, fm t w = (m t w).bind retIE) : CalIE Γ x (k + 1) fm := by
  obtain ⟨a, fd, F, hM, bi⟩ := D.ex
  refine ⟨a, fd, ps, F.okX Sc (fun vs H Q E h => ?_) (fun cdv A outer s H vs Q E hr h => ?_), hM, bi⟩
  · obtain ⟨G, x, fp, w, ws, t, r, h1, h2, h3, _⟩ := h
    rw [h2, List.length_cons, (RpA.okA (H := H) h3).1]
    exact hps
  · obtain ⟨G, x, fp, w, ws, t, b, h1, h2, h3, h4, h5, h6, q⟩ := h
    have hN : RpA.num τ + 1 ≤ N.length := by
      rw [hps]
      have z := congrArg List.length Sc.pre
      rw [List.length_take] at z
      omega
    subst h2
    have A0 := at_startIE (N := N) h1 h3 hN h4 h5
    refine ⟨_, hb _ ⟨G, H, fp, L2.start N (.ref x :: ws), [0]⟩ t w fp (fun cls d _ H => E cls d H) ⟨⟨rfl, rfl, rfl, rfl, rfl, rfl, Sc.nd, rfl, rfl, hr⟩, passes_of rfl, fun _ => rfl, takes_of rfl rfl rfl rfl, rfl, rfl, rfl, rfl⟩, ?_⟩
    rw [hm] at h6
    cases e : m t w with
    | none => rw [e] at h6; cases h6
    | some r =>
      rw [e] at h6
      refine ⟨G, r, A0, by first | exact e | rfl, ?_⟩
      cases r with
      | nx w' =>
        have h6 : some (Except.ok w') = some b := h6
        cases h6
        intro G' H' σ' A'
        obtain ⟨fp', q1, q2, q3⟩ := atIE_end (by omega) A'
        exact q G' H' fp' q1 q2 q3
      | bk l => exact l.elim
      | ct l => exact l.elim
      | ret b' c => cases h6
      | err e' c =>
        have h6 : some (Except.error e') = some b := h6
        cases h6
        intro cls d G' H' σ' A' ie
        obtain ⟨fp', q1, q2, q3⟩ := atIE_end (by omega) A'
        exact q cls d G' H' fp' c q1 q2 q3 ie
end
/-! ### their calls -/
def exW {C : Type} (c : C) : Except Er WS → Except (Er × C) (Unit × WS)
  | .ok w => .ok ((), w)
  | .error e => .error (e, c)
def exC {C : Type} (c : C) : Except Er WebD → Except (Er × C) (WebD × Unit)
  | .ok w => .ok (w, ())
  | .error e => .error (e, c)
section
variable {X : Cx} {Γ : Gm} {B : Bs} {L β C : Type} [Rp β] {F : Kt L β C} {ρ ρ' : Sto} {N : List Str} {sc : Scope} {k j : Nat} {fx : List Nat} {W : WX} {M : List Addr} {pos p p' p2 apos : Pos} {e a b o tg it elt kx : Expr} {es : List Expr} {S : Type} {sto : S → Sto}
variable {α γ δ τ : Type} [Rp α] [Rp γ] [Rp δ] [RpA τ] {fr : Bool} {x y : Str}
/-- o.m(e, ..), the web a value -/
theorem xe_meth (c : Cok X Γ N sc k) (T : WbT Γ) {f : WebD × τ → Option δ} {mo : Option WebD} {mt : Option τ} {pl : Sem Bool} (h : CalM Γ x j fr f) (hk : j ≤ k) (ho : XE X Γ B ρ o mo) (ha : XA X Γ B ρ (e :: es) mt) (hf : ∀ p g s : V, (webF p g s).lookup x = none := by intro _ _ _; rfl)
    (hst : starEach (e :: es) X.env = (false, eval e X.env) :: starEach es X.env := by rfl) (hpl : (backTo pos (starEach es X.env)).any (·.1) = false := by rfl)
    (ht : eval (.Call (.Attribute o x apos) (e :: es) [] pos) X.env = (do
      let ov ← eval o X.env
      standAt apos.atName
      let (f, first) ← holding [ov] (getMethod ov x pl)
      callWith pos f first (backTo pos (starEach (e :: es) X.env)) (backToKw pos (keywordEach [] X.env))) := by rfl) :
    XE X Γ B ρ (.Call (.Attribute o x apos) (e :: es) [] pos) (mo.bind fun w => mt.bind fun t => f (w, t)) := by
  obtain ⟨a, fd, ps, Fo, hM, bi⟩ := h.ex
  refine imE (pe_methZ (CX := CX0) (E := fun _ _ _ _ => False) ho (by rw [c.hK]; exact T.cl) (by rw [c.hK]; exact hM) (by rw [c.hP, c.hw, c.hK, c.hmg, c.hbase]; exact Fo) (c.room.mono hk) (by rw [c.hK]; exact bi) (fun σ pins H s e s' I h => h.elim) ha hst hpl ht) fun σ H Q ⟨G, z, A, e, q⟩ => ?_
  cases mo with
  | none => cases e
  | some w =>
    cases mt with
    | none => cases e
    | some t =>
      refine ⟨G, w, A, rfl, fun v G1 H1 g1 r1 => ?_⟩
      obtain ⟨a', dx, p, g, s, h1, h2, h3⟩ := id r1
      refine ⟨a', dx, _, h1, g1.sub _ _ h2, hf p g s, G1, t, A.grow g1, rfl, fun vs G2 H2 g2 r2 => ?_⟩
      exact ⟨G2, (w, t), z, g2.sub, ⟨v, vs, rfl, Rp.mono g2.leG r1, r2⟩, e, fun v' G3 H3 g3 r3 _ => q v' G3 H3 ((g1.trans g2).trans g3) r3⟩
/-- o.m() -/
theorem xe_meth0 (c : Cok X Γ N sc k) (T : WbT Γ) {f : WebD × Unit → Option δ} {mo : Option WebD} {pl : Sem Bool} (h : CalM Γ x j fr f) (hk : j ≤ k) (ho : XE X Γ B ρ o mo) (hf : ∀ p g s : V, (webF p g s).lookup x = none := by intro _ _ _; rfl)
    (ht : eval (.Call (.Attribute o x apos) [] [] pos) X.env = (do
      let ov ← eval o X.env
      standAt apos.atName
      let (f, first) ← holding [ov] (getMethod ov x pl)
      callWith pos f first (backTo pos (starEach [] X.env)) (backToKw pos (keywordEach [] X.env))) := by rfl) :
    XE X Γ B ρ (.Call (.Attribute o x apos) [] [] pos) (mo.bind fun w => f (w, ())) := by
  obtain ⟨a, fd, ps, Fo, hM, bi⟩ := h.ex
  refine imE (pe_methZ0 (CX := CX0) (E := fun _ _ _ _ => False) ho (by rw [c.hK]; exact T.cl) (by rw [c.hK]; exact hM) (by rw [c.hP, c.hw, c.hK, c.hmg, c.hbase]; exact Fo) (c.room.mono hk) (by rw [c.hK]; exact bi) (fun σ pins H s e s' I h => h.elim) ht) fun σ H Q ⟨G, z, A, e, q⟩ => ?_
  cases mo with
  | none => cases e
  | some w =>
    refine ⟨G, w, A, rfl, fun v G1 H1 g1 r1 => ?_⟩
    obtain ⟨a', dx, p, g, s, h1, h2, h3⟩ := id r1
    refine ⟨a', dx, _, h1, g1.sub _ _ h2, hf p g s, ?_⟩
    exact ⟨G1, (w, ()), z, g1.sub, ⟨v, [], rfl, r1, rfl⟩, e, fun v' G3 H3 g3 r3 _ => q v' G3 H3 (g1.trans g3) r3⟩
/-- what stands for it hangs on no list -/
class NoLs (α : Type) [Rp α] : Prop where
  nols : ∀ {Γ : Gm} {G : Hp} {d : Addr} {us : List V} {v : V} {a : α}, G d = some (.lst us) → rep Γ G v a → rep Γ (fun y => if y = d then none else G y) v a
instance (priority := 60) {α : Type} [At1 α] : NoLs α := ⟨fun _ r => r⟩
instance {α β : Type} [Rp α] [Rp β] [NoLs α] [NoLs β] : NoLs (α × β) := ⟨fun {Γ G d us v p} h ⟨a, x, y, h1, h2, h3, h4⟩ => ⟨a, x, y, h1, by
  show (if a = d then none else G a) = _
  rw [if_neg (fun z => by rw [z, h] at h2; cases h2)]
  exact h2, NoLs.nols h h3, NoLs.nols h h4⟩⟩
/-- o.m(), a new list -/
theorem xn_meth0 [NoLs α] (c : Cok X Γ N sc k) (T : WbT Γ) {f : WebD × Unit → Option (List α)} {mo : Option WebD} {pl : Sem Bool} (h : CalM Γ x j true f) (hk : j ≤ k) (ho : XE X Γ B ρ o mo) (hf : ∀ p g s : V, (webF p g s).lookup x = none := by intro _ _ _; rfl)
    (ht : eval (.Call (.Attribute o x apos) [] [] pos) X.env = (do
      let ov ← eval o X.env
      standAt apos.atName
      let (f, first) ← holding [ov] (getMethod ov x pl)
      callWith pos f first (backTo pos (starEach [] X.env)) (backToKw pos (keywordEach [] X.env))) := by rfl) :
    XN X Γ B ρ (.Call (.Attribute o x apos) [] [] pos) (mo.bind fun w => f (w, ())) := by
  obtain ⟨a, fd, ps, Fo, hM, bi⟩ := h.ex
  refine imE (pe_methZ0 (CX := CX0) (E := fun _ _ _ _ => False) ho (by rw [c.hK]; exact T.cl) (by rw [c.hK]; exact hM) (by rw [c.hP, c.hw, c.hK, c.hmg, c.hbase]; exact Fo) (c.room.mono hk) (by rw [c.hK]; exact bi) (fun σ pins H s e s' I h => h.elim) ht) fun σ H Q ⟨G, z, A, e, q⟩ => ?_
  cases mo with
  | none => cases e
  | some w =>
    refine ⟨G, w, A, rfl, fun v G1 H1 g1 r1 => ?_⟩
    obtain ⟨a', dx, p, g, s, h1, h2, h3⟩ := id r1
    refine ⟨a', dx, _, h1, g1.sub _ _ h2, hf p g s, ?_⟩
    refine ⟨G1, (w, ()), z, g1.sub, ⟨v, [], rfl, r1, rfl⟩, e, fun v' G2 H2 g2 ⟨d, us, hv, hd, rl⟩ fr => ?_⟩
    subst hv
    have gg := g1.trans g2
    have hd1 : H1 d = none := fr rfl d rfl
    have hdH : H d = none := by
      cases q : H d with
      | none => rfl
      | some o => rw [g1.leH d o q] at hd1; cases hd1
    have gd : G d = none := A.sub.none hdH
    have hd2 : H2 d = some (.lst us) := g2.sub _ _ hd
    let H3 : Hp := fun a => if a = d then none else H2 a
    let G3 : Hp := fun a => if a = d then none else G2 a
    have e3 : H2 = upd H3 d (.lst us) := by
      funext a
      by_cases z : a = d
      · subst z; rw [upd_same, hd2]
      · rw [upd_ne z]; show H2 a = if a = d then none else H2 a
        rw [if_neg z]
    rw [e3]
    refine q d us G3 H3 ⟨fun a o ho => ?_, fun a o ho => ?_, fun a o ho => ?_, fun a ha hg => ?_⟩ (by show (if d = d then none else H2 d) = none; rw [if_pos rfl]) (Paired.mapP rl fun _ _ r => NoLs.nols hd r)
    · show (if a = d then none else G2 a) = some o
      rw [if_neg (fun z => by rw [z, gd] at ho; cases ho)]
      exact gg.leG _ _ ho
    · show (if a = d then none else H2 a) = some o
      rw [if_neg (fun z => by rw [z, hdH] at ho; cases ho)]
      exact gg.leH _ _ ho
    · have ho : (if a = d then none else G2 a) = some o := ho
      show (if a = d then none else H2 a) = some o
      by_cases z : a = d
      · rw [if_pos z] at ho; cases ho
      · rw [if_neg z] at ho ⊢
        exact g2.sub _ _ ho
    · show Th (H a) (if a = d then none else G2 a)
      by_cases z : a = d
      · rw [if_pos z]; exact .inl rfl
      · rw [if_neg z]; exact gg.thin a ha hg
theorem opAt_in : ∀ {ops : List Nat} {n : Nat} (s : Slot), n ∈ ops → opAt (ops.map fun i => (i, false)) n s = .dead
  | i :: r, n, s, h => by
    rw [List.map_cons]
    unfold opAt
    by_cases z : Nat.beq i n = true
    · rw [if_pos z]
      cases s <;> rfl
    · rw [if_neg z]
      rcases List.mem_cons.mp h with e | e
      · exact absurd (by rw [e]; exact Nat.beq_refl i) z
      · exact opAt_in s e
theorem wks_set {ops : List Nat} {i : Nat} (h : i ∈ ops) (ρ : Sto) (s : Slot) : Sim.wks (ρ.set i s) (ops.map fun i => (i, false)) = Sim.wks ρ (ops.map fun i => (i, false)) := by
  apply List.ext_getElem?
  intro k
  unfold Sim.wks
  rw [wksFrom_get, wksFrom_get]
  by_cases e : k = i
  · subst e
    by_cases hk : k < ρ.length
    · rw [List.getElem?_set_self hk, List.getElem?_eq_getElem hk]
      show some _ = some _
      rw [Nat.zero_add, opAt_in _ h, opAt_in _ h]
    · rw [List.getElem?_eq_none (by simpa using hk), List.getElem?_eq_none (by simpa using hk)]
  · rw [List.getElem?_set_ne (Ne.symm e)]
/-- self.m(e, ..), self being made -/
theorem xx_methIE (d : Dok X Γ B N sc k fx W M) (T : WbT Γ) {f : τ → WS → Option (Except Er WS)} {mt : Option τ} {pl : Sem Bool} (cc : C) (ops : List Nat) (i : Nat) {p0 g0 : List Tt} {s0 : List ((Tt × Tt) × Bool)} (h : CalIE Γ x j f) (hk : j ≤ k) (hi : ρ[i]? = some (ow (WS.w3 p0 g0 s0))) (hN : N[i]? = some y) (hv : Vis sc y) (ha : XA X Γ B ρ (e :: es) mt)
    (hw : Sim.wks ρ (ops.map fun i => (i, false)) = F.str cc) (hin : i ∈ ops) (hW : F.W = W := by rfl) (hd : (y == ("__debug__" : Str)) = false := by decide) (hcd : (y == ("__classdict__" : Str)) = false := by decide) (hf : ∀ p g s : V, (webF p g s).lookup x = none := by intro _ _ _; rfl)
    (hst : starEach (e :: es) X.env = (false, eval e X.env) :: starEach es X.env := by rfl) (hpl : (backTo pos (starEach es X.env)).any (·.1) = false := by rfl)
    (ht : eval (.Call (.Attribute (.Name y p) x apos) (e :: es) [] pos) X.env = (do
      let ov ← eval (.Name y p) X.env
      standAt apos.atName
      let (f, first) ← holding [ov] (getMethod ov x pl)
      callWith pos f first (backTo pos (starEach (e :: es) X.env)) (backToKw pos (keywordEach [] X.env))) := by rfl) :
    XX X Γ B F ρ (.Call (.Attribute (.Name y p) x apos) (e :: es) [] pos) (mt.bind fun t => (f t (WS.w3 p0 g0 s0)).bind fun r => some (exW cc r)) (fun w => ρ.set i (ow w)) := by
  obtain ⟨a, fd, ps, Fo, hM, bi⟩ := h.ex
  refine imE (pe_methZ (CX := L2.CX X.prog X.w) (E := fun σ cls d H => F.W cls d σ H) (pv_ d.toCok hN hv hd hcd) (by rw [d.hK]; exact T.cl) (by rw [d.hK]; exact hM) (by rw [d.hP, d.hw, d.hK, d.hmg, d.hbase]; exact Fo) (d.room.mono hk) (by rw [d.hK]; exact bi) (fun σ => by subst hW; exact passAt d.tk σ) ha hst hpl ht) fun σ H Q ⟨G, r, A, e, q⟩ => ?_
  cases mt with
  | none => cases e
  | some t =>
    have e : ((f t (WS.w3 p0 g0 s0)).bind fun r => some (exW cc r)) = some r := e
    cases hft : f t (WS.w3 p0 g0 s0) with
    | none => rw [hft] at e; cases e
    | some b =>
      rw [hft] at e
      cases e
      obtain ⟨v, fp, h1, ⟨xx, dx, rfl, h2, pv, gv, sd, kvs, e1, h4, h5⟩, h3⟩ := A.getO hi
      refine ⟨_, h1, xx, dx, _, rfl, h4, hf pv gv (.ref sd), G, t, A, rfl, fun vs G1 H1 g1 r1 => ?_⟩
      obtain ⟨v', fp1, k1, own1, hg1, ch⟩ := (A.grow g1).openF hi
      rw [h1] at k1
      cases k1
      refine ⟨G1, xx, fp1, _, vs, t, b, g1.sub, rfl, r1, hg1, own1, hft, ?_⟩
      cases b with
      | ok w => exact fun G2 H2 fp' gf hfp ow' => q .non G2 H2 (g1.leG.trans gf.leG) (ch WS _ w G2 H2 fp' gf hfp ow') rfl
      | error er =>
        intro cls dd G2 H2 fp' w' gf hfp ow' ie
        refine q cls dd G2 H2 ?_ ie
        have A2 := (ch WS _ w' G2 H2 fp' gf hfp ow').drops ops
        rw [wks_set hin, hw] at A2
        exact A2
/-- Web(e, ..) that may raise -/
theorem xx_make (d : Dok X Γ B N sc k fx W M) {f : τ → Option (Except Er WebD)} {mt : Option τ} (cc : C) (ops : List Nat) (h : CalC Γ x j f) (hk : j + 1 ≤ k) (hg : Glb sc x) (ha : XA X Γ B ρ (e :: es) mt)
    (hw : Sim.wks ρ (ops.map fun i => (i, false)) = F.str cc) (hW : F.W = W := by rfl) (hdb : (x == ("__debug__" : Str)) = false := by decide) (he : starEach (e :: es) X.env = (false, eval e X.env) :: starEach es X.env := by rfl) (hpl : (backTo pos (starEach es X.env)).any (·.1) = false := by rfl) :
    XX X Γ B F ρ (.Call (.Name x p) (e :: es) [] pos) (mt.bind fun t => (f t).bind fun r => some (exC cc r)) (fun _ => ρ) := by
  obtain ⟨a, fd, ps, Fo, hM, hm, bi⟩ := h.ex
  refine imE (pe_makeZ (CX := L2.CX X.prog X.w) (E := fun σ cls d H => F.W cls d σ H) (by rw [d.hK]; exact hM) (by rw [d.hP, d.hw, d.hK, d.hmg, d.hbase]; exact Fo) (d.room.mono hk) (d.gl hg) (by rw [d.hmg]; exact hm) (by rw [d.hK]; exact bi) (fun σ => by subst hW; exact passAt d.tk σ) ha hdb he hpl) fun σ H Q ⟨G, r, A, e, q⟩ => ?_
  cases mt with
  | none => cases e
  | some t =>
    have e : ((f t).bind fun r => some (exC cc r)) = some r := e
    cases hft : f t with
    | none => rw [hft] at e; cases e
    | some b =>
      rw [hft] at e
      cases e
      refine ⟨G, t, A, rfl, fun vs G1 H1 g1 r1 xx dx hx hdx ne => ⟨G1, H1, xx, dx, vs, t, b, g1.sub, hx, hdx, ne, rfl, rfl, r1, hft, ?_⟩⟩
      cases b with
      | ok w => exact fun G2 H2 g2 r2 => ⟨rfl, q (.ref xx) G2 H2 (g1.trans g2).leG (A.grow (g1.trans g2)) r2⟩
      | error er => exact fun cls dd G2 H2 g2 ie => q cls dd G2 H2 (by rw [← hw]; exact (A.grow (g1.trans g2)).drops ops) ie
/-- Web(e, ..), where it doesn't -/
theorem xe_make (c : Cok X Γ N sc k) {f : τ → Option (Except Er WebD)} {mt : Option τ} (h : CalC Γ x j f) (hk : j + 1 ≤ k) (hg : Glb sc x) (ha : XA X Γ B ρ (e :: es) mt)
    (hdb : (x == ("__debug__" : Str)) = false := by decide) (he : starEach (e :: es) X.env = (false, eval e X.env) :: starEach es X.env := by rfl) (hpl : (backTo pos (starEach es X.env)).any (·.1) = false := by rfl) :
    XE X Γ B ρ (.Call (.Name x p) (e :: es) [] pos) (mt.bind fun t => (f t).bind okOf) := by
  obtain ⟨a, fd, ps, Fo, hM, hm, bi⟩ := h.ex
  refine imE (pe_makeZ (CX := L2.CX X.prog X.w) (E := fun _ _ _ _ => False) (by rw [c.hK]; exact hM) (by rw [c.hP, c.hw, c.hK, c.hmg, c.hbase]; exact Fo) (c.room.mono hk) (c.gl hg) (by rw [c.hmg]; exact hm) (by rw [c.hK]; exact bi) (fun σ pins H s e s' I h => passL pins σ H s e s' I h) ha hdb he hpl) fun σ H Q ⟨G, r, A, e, q⟩ => ?_
  cases mt with
  | none => cases e
  | some t =>
    have e : (f t).bind okOf = some r := e
    cases hft : f t with
    | none => rw [hft] at e; cases e
    | some b =>
      rw [hft] at e
      cases b with
      | error er => cases e
      | ok w =>
        cases e
        exact ⟨G, t, A, rfl, fun vs G1 H1 g1 r1 xx dx hx hdx ne => ⟨G1, H1, xx, dx, vs, t, .ok _, g1.sub, hx, hdx, ne, rfl, rfl, r1, hft, fun G2 H2 g2 r2 => ⟨rfl, q (.ref xx) G2 H2 (g1.trans g2) r2⟩⟩⟩
/-- e.append(x) of a list that nobody keeps -/
theorem xp_tmpApp (c : Cok X Γ N sc k) {m : Option (List α)} {mv : Option γ} {cpos : Pos} (h : XN X Γ B ρ o m) (he : XE X Γ B ρ e mv) (hbase : attributeBase o "append" X.env (eval o X.env) = eval o X.env := by rfl)
    (hfew : ((backTo cpos (starEach [e] X.env)).all (fun x => !x.1) && (backToKw cpos (keywordEach [] X.env)).all (fun x => x.1.isSome)
      && decide ([e].length + ([] : List Keyword).length + (if ([] : List Keyword).isEmpty then 0 else 1) < 30)) = true := by rfl)
    (hline : (apos.endLine == cpos.line) = true := by rfl) (hs : starEach [e] X.env = (false, eval e X.env) :: starEach [] X.env := by rfl) (hw : swapsWith (.Call (.Attribute o "append" apos) [e] [] cpos) none pos.line X.env = pure false := by rfl) :
    XP1 X Γ B ρ (.Expr (.Call (.Attribute o "append" apos) [e] [] cpos) pos) (m.bind fun xs => mv.bind fun _ => if xs.length + 1 ≤ BIG then some () else none) (fun _ => ρ) :=
  imS (ps_expr (pe_bm PySem.F.plainAttrs_list PySem.F.slot_list_append PySem.F.type_list_append mt_append h (pa_cons he pa_nil hs) hbase hfew hline hs (by rfl)) hw) fun D σ H ⟨G, s, A, e, q⟩ => by
  cases m with
  | none => cases e
  | some xs =>
    cases mv with
    | none => cases e
    | some v =>
      obtain ⟨hb, _⟩ := ite_some (show (if xs.length + 1 ≤ BIG then some () else none) = some s from e)
      refine ⟨G, xs, A, rfl, fun d vs G1 H1 g1 hd rl => ?_⟩
      have hdH : H d = none := by
        cases q : H d with
        | none => rfl
        | some o => rw [g1.leH d o q] at hd; cases hd
      have gn := g1.trans (Grow.newO g1.sub hd (.lst vs))
      have hl : vs.length = xs.length := Paired.length rl
      refine ⟨.inl ⟨rfl, vs, SqL.of upd_same⟩, G1, v, A.grow gn, rfl, fun v2 G2 H2 g2 r2 => ⟨d, vs, v2, rfl, rfl, g2.leH _ _ upd_same, by rw [hl]; exact big_lt (by omega), ?_⟩⟩
      have gg := gn.trans g2
      have gd1 : G1 d = none := g1.sub.none hd
      have gd2 : G2 d = none := (g2.thin d (by rw [upd_same]; simp) gd1).no upd_same
      refine q G2 _ σ (A.grow ⟨gg.leG, fun a o ho => ?_, fun a o ho => ?_, gg.thin⟩)
      · rw [upd_ne (fun z => by rw [z, hdH] at ho; cases ho)]
        exact gg.leH _ _ ho
      · rw [upd_ne (fun z => by rw [z, gd2] at ho; cases ho)]
        exact gg.sub _ _ ho
end
end Sim

set_option Elab.async false
set_option autoImplicit false
set_option linter.all false
set_option maxRecDepth 100000
set_option maxHeartbeats 1000000
namespace Sim
open PySem PySem.Spec PyProof.Rows L2
open Rp (rep)
open Ow (own)
open RpA (repA stoA)
/-! ### the suits of a web that is being made -/
abbrev SU : Type := List ((Tt × Tt) × Bool)
def specS (Γ : Gm) {τ : Type} [RpA τ] (f : τ → List Tt → List Tt → SU → Option (Except Er SU)) : Sp := fun vs H Q E => ∃ G x fp p g s ws t r, Sub G H ∧ vs = .ref x :: ws ∧ repA Γ G ws t ∧ (∀ y ∈ fp, G y = none) ∧ own Γ G H (.ref x) fp (WS.w3 p g s) ∧ f t p g s = some r ∧ match r with
  | .ok s' => ∀ G' H' fp', GrowF fp G H G' H' → (∀ y ∈ fp', G' y = none ∧ (y ∈ fp ∨ H y = none)) → own Γ G' H' (.ref x) fp' (WS.w3 p g s') → Q .non H'
  | .error e => ∀ cls d G' H' fp' (w' : WS), GrowF fp G H G' H' → (∀ y ∈ fp', G' y = none ∧ (y ∈ fp ∨ H y = none)) → own Γ G' H' (.ref x) fp' w' → IsEr Γ e cls d H' → E cls d H'
structure CalS (Γ : Gm) (x : Str) (k : Nat) {τ : Type} [RpA τ] (f : τ → List Tt → List Tt → SU → Option (Except Er SU)) : Prop where
  ex : ∃ a fd ps, FnOk Γ.P Γ.w Γ.K Γ.mg Γ.base (L2.CX Γ.P Γ.w) k a fd ps (specS Γ f) ∧ Meth Γ.K (Γ.C 20) x a ∧ Binds Γ.K fd ps []
abbrev ktS (n : Nat) (p g : List Tt) (W : WX) : Kt Empty Unit SU := ⟨fun l => l.elim, fun l => l.elim, fun s => ow (WS.w3 p g s) :: deads (n - 1), false, W⟩
abbrev stS (n : Nat) (p g : List Tt) (s : SU) : Sto := ow (WS.w3 p g s) :: deads (n - 1)
def retS : Fl SU Empty Unit SU → Option (Except Er SU)
  | .nx s => some (.ok s)
  | .err e _ => some (.error e)
  | _ => none
section
variable {Γ : Gm} {x qual : Str} {st : Stmt} {N ps : List Str} {k : Nat} {τ β : Type} [RpA τ] [Rp β] {fr : Bool} {S : Type} {sto : S → Sto}
theorem calS_of (D : DefM Γ x qual st ps) (Sc : FnScope N ps (defScope st)) {m : τ → List Tt → List Tt → SU → Option (Fl SU Empty Unit SU)} (hps : RpA.num τ + 1 = ps.length)
    (hb : ∀ (X : Cx) (B : Bs) (t : τ) (p g : List Tt) (s : SU) (M : List Addr) (W : WX), Dok X Γ B N (defScope st) k [0] W M → XB X Γ B (ktS N.length p g W) (ow (WS.w3 p g s) :: (stoA t ++ deads (N.length - RpA.num τ - 1))) (defBody st) (m t p g s) (stS N.length p g)) (fm : τ → List Tt → List Tt → SU → Option (Except Er SU)) (hm : ∀ t p g s, fm t p g s = (m t p g s).bind retS) : CalS Γ x (k + 1) fm := by
  obtain ⟨a, fd, F, hM, bi⟩ := D.ex
  refine ⟨a, fd, ps, F.okX Sc (fun vs H Q E h => ?_) (fun cdv A outer s H vs Q E hr h => ?_), hM, bi⟩
  · obtain ⟨G, x, fp, p, g, s, ws, t, r, h1, h2, h3, _⟩ := h
    rw [h2, List.length_cons, (RpA.okA (H := H) h3).1]
    exact hps
  · obtain ⟨G, x, fp, p, g, s, ws, t, b, h1, h2, h3, h4, h5, h6, q⟩ := h
    have hN : RpA.num τ + 1 ≤ N.length := by
      rw [hps]
      have z := congrArg List.length Sc.pre
      rw [List.length_take] at z
      omega
    subst h2
    have A0 := at_startIE (N := N) h1 h3 hN h4 h5
    refine ⟨_, hb _ ⟨G, H, fp, L2.start N (.ref x :: ws), [0]⟩ t p g s fp (fun cls d _ H => E cls d H) ⟨⟨rfl, rfl, rfl, rfl, rfl, rfl, Sc.nd, rfl, rfl, hr⟩, passes_of rfl, fun _ => rfl, takes_of rfl rfl rfl rfl, rfl, rfl, rfl, rfl⟩, ?_⟩
    rw [hm] at h6
    cases e : m t p g s with
    | none => rw [e] at h6; cases h6
    | some r =>
      rw [e] at h6
      refine ⟨G, r, A0, by first | exact e | rfl, ?_⟩
      cases r with
      | nx w' =>
        have h6 : some (Except.ok w') = some b := h6
        cases h6
        intro G' H' σ' A'
        obtain ⟨fp', q1, q2, q3⟩ := atIE_end (by omega) A'
        exact q G' H' fp' q1 q2 q3
      | bk l => exact l.elim
      | ct l => exact l.elim
      | ret b' c => cases h6
      | err e' c =>
        have h6 : some (Except.error e') = some b := h6
        cases h6
        intro cls d G' H' σ' A' ie
        obtain ⟨fp', q1, q2, q3⟩ := atIE_end (by omega) A'
        exact q cls d G' H' fp' _ q1 q2 q3 ie
/-! from the head's facts -/
theorem fun_of' {K : PySem.W.Frag} {x qual : Str} {st : Stmt} {f : Addr} {fd : FuncData} (F : FunD K x qual (defArgs st) (defBody st) (defScope st) [] [] f fd) : Fun K x qual st f fd := by
  obtain ⟨oc, od, dV, kV, doc, pm, an, cdv, ct, osl, h1, h2, h3, h4, h5⟩ := F.ex
  rcases h4 with ⟨_, h4⟩ | ⟨h4, _⟩
  · subst h4
    exact ⟨⟨oc, od, kV, doc, pm, an, cdv, ct, osl, h1, h2, h3⟩, F.kp⟩
  · exact absurd rfl h4
theorem defM_ok {y : Str} {f : Addr} {fd : FuncData} (F : FunD Γ.K x qual (defArgs st) (defBody st) (defScope st) [] [] f fd) (hC : Γ.C 20 = He.ga Γ.K y) (hf : f = He.ma Γ.K (He.ga Γ.K y) x) (hm : (He.Fa.meth y x).ok Γ.K = true)
    (h : ∀ (kV doc pm : Value) (an : Option Addr) (cdv ct : Value) (us : List Value), us.length = ps.length → bindArgs (PySem.W.fnOf x qual (defArgs st) (defBody st) (defScope st) .none kV doc pm an cdv ct) ⟨us, []⟩ = pure (ps.zip us)) : DefM Γ x qual st ps :=
  ⟨f, fd, fun_of' F, by rw [hC, hf]; exact He.meth_ok hm, fun s us _ hl => by
    rw [List.append_nil] at hl ⊢
    exact F.bindsA h s us hl⟩
theorem defC_ok {y : Str} {f : Addr} {fd : FuncData} (F : FunD Γ.K "__init__" qual (defArgs st) (defBody st) (defScope st) [] [] f fd) (hC : Γ.C 20 = He.ga Γ.K y) (hf : f = He.ma Γ.K (He.ga Γ.K y) "__init__") (hm : (He.Fa.mkr y).ok Γ.K = true) (hg : Γ.mg y = some (.ref (He.ga Γ.K y)))
    (h : ∀ (kV doc pm : Value) (an : Option Addr) (cdv ct : Value) (us : List Value), us.length = ps.length → bindArgs (PySem.W.fnOf "__init__" qual (defArgs st) (defBody st) (defScope st) .none kV doc pm an cdv ct) ⟨us, []⟩ = pure (ps.zip us)) : DefC Γ y qual st ps :=
  ⟨f, fd, fun_of' F, by rw [hC, hf]; exact He.mkr_ok hm, by rw [hC]; exact hg, fun s us _ hl => by
    rw [List.append_nil] at hl ⊢
    exact F.bindsA h s us hl⟩
theorem wb_ok {y : Str} (hC : Γ.C 20 = He.ga Γ.K y) (h1 : (He.Fa.cls y).ok Γ.K = true) (h2 : (He.Fa.noat y "pairs").ok Γ.K = true) (h3 : (He.Fa.noat y "givers").ok Γ.K = true) (h4 : (He.Fa.noat y "_suits").ok Γ.K = true) : WbT Γ :=
  ⟨by rw [hC]; exact He.cls_ok h1, by rw [hC]; exact He.noat_ok h2, by rw [hC]; exact He.noat_ok h3, by rw [hC]; exact He.noat_ok h4⟩
end
def exS {C : Type} (c : C) : Except Er SU → Except (Er × C) (Unit × SU)
  | .ok w => .ok ((), w)
  | .error e => .error (e, c)
section
variable {X : Cx} {Γ : Gm} {B : Bs} {L β C : Type} [Rp β] {F : Kt L β C} {ρ ρ' : Sto} {N : List Str} {sc : Scope} {k j : Nat} {fx : List Nat} {W : WX} {M : List Addr} {pos p p' p2 apos : Pos} {e a b o tg it elt kx : Expr} {es : List Expr} {S : Type} {sto : S → Sto}
variable {α γ δ τ : Type} [Rp α] [Rp γ] [Rp δ] [RpA τ] {fr : Bool} {x y : Str}
/-- self.m(e, ..), self being made -/
theorem xx_methS (d : Dok X Γ B N sc k fx W M) (T : WbT Γ) {f : τ → List Tt → List Tt → SU → Option (Except Er SU)} {mt : Option τ} {pl : Sem Bool} (cc : C) (ops : List Nat) (i : Nat) {p0 g0 : List Tt} {s0 : SU} (h : CalS Γ x j f) (hk : j ≤ k) (hi : ρ[i]? = some (ow (WS.w3 p0 g0 s0))) (hN : N[i]? = some y) (hv : Vis sc y) (ha : XA X Γ B ρ (e :: es) mt)
    (hw : Sim.wks ρ (ops.map fun i => (i, false)) = F.str cc) (hin : i ∈ ops) (hW : F.W = W := by rfl) (hd : (y == ("__debug__" : Str)) = false := by decide) (hcd : (y == ("__classdict__" : Str)) = false := by decide) (hf : ∀ p g s : V, (webF p g s).lookup x = none := by intro _ _ _; rfl)
    (hst : starEach (e :: es) X.env = (false, eval e X.env) :: starEach es X.env := by rfl) (hpl : (backTo pos (starEach es X.env)).any (·.1) = false := by rfl)
    (ht : eval (.Call (.Attribute (.Name y p) x apos) (e :: es) [] pos) X.env = (do
      let ov ← eval (.Name y p) X.env
      standAt apos.atName
      let (f, first) ← holding [ov] (getMethod ov x pl)
      callWith pos f first (backTo pos (starEach (e :: es) X.env)) (backToKw pos (keywordEach [] X.env))) := by rfl) :
    XX X Γ B F ρ (.Call (.Attribute (.Name y p) x apos) (e :: es) [] pos) (mt.bind fun t => (f t p0 g0 s0).bind fun r => some (exS cc r)) (fun s => ρ.set i (ow (WS.w3 p0 g0 s))) := by
  obtain ⟨a, fd, ps, Fo, hM, bi⟩ := h.ex
  refine imE (pe_methZ (CX := L2.CX X.prog X.w) (E := fun σ cls d H => F.W cls d σ H) (pv_ d.toCok hN hv hd hcd) (by rw [d.hK]; exact T.cl) (by rw [d.hK]; exact hM) (by rw [d.hP, d.hw, d.hK, d.hmg, d.hbase]; exact Fo) (d.room.mono hk) (by rw [d.hK]; exact bi) (fun σ => by subst hW; exact passAt d.tk σ) ha hst hpl ht) fun σ H Q ⟨G, r, A, e, q⟩ => ?_
  cases mt with
  | none => cases e
  | some t =>
    have e : ((f t p0 g0 s0).bind fun r => some (exS cc r)) = some r := e
    cases hft : f t p0 g0 s0 with
    | none => rw [hft] at e; cases e
    | some b =>
      rw [hft] at e
      cases e
      obtain ⟨v, fp, h1, ⟨xx, dx, rfl, h2, pv, gv, sd, kvs, e1, h4, h5⟩, h3⟩ := A.getO hi
      refine ⟨_, h1, xx, dx, _, rfl, h4, hf pv gv (.ref sd), G, t, A, rfl, fun vs G1 H1 g1 r1 => ?_⟩
      obtain ⟨v', fp1, k1, own1, hg1, ch⟩ := (A.grow g1).openF hi
      rw [h1] at k1
      cases k1
      refine ⟨G1, xx, fp1, p0, g0, s0, vs, t, b, g1.sub, rfl, r1, hg1, own1, hft, ?_⟩
      cases b with
      | ok w => exact fun G2 H2 fp' gf hfp ow' => q .non G2 H2 (g1.leG.trans gf.leG) (ch WS _ (WS.w3 p0 g0 w) G2 H2 fp' gf hfp ow') rfl
      | error er =>
        intro cls dd G2 H2 fp' w' gf hfp ow' ie
        refine q cls dd G2 H2 ?_ ie
        have A2 := (ch WS _ w' G2 H2 fp' gf hfp ow').drops ops
        rw [wks_set hin, hw] at A2
        exact A2
end
end Sim

set_option Elab.async false
set_option autoImplicit false
set_option linter.all false
set_option maxRecDepth 100000
set_option maxHeartbeats 1000000
namespace TP
open PySem PySem.Spec PyProof.Rows SrtO
/-! ### texts, and pairs of texts, in order -/
def ltT (a b : Str) : Bool := decide (a.cps.toList < b.cps.toList)
theorem ltT_asym {a b : Str} (h : ltT a b = true) : ltT b a = false := by
  unfold ltT at *
  simp only [decide_eq_true_eq, decide_eq_false_iff_not] at *
  exact fun z => List.lt_irrefl _ (List.lt_trans h z)
theorem ltT_ntr {a b c : Str} (h1 : ltT b a = false) (h2 : ltT c b = false) : ltT c a = false := by
  unfold ltT at *
  simp only [decide_eq_false_iff_not] at *
  exact List.not_lt.mpr (List.le_trans (List.not_lt.mp h1) (List.not_lt.mp h2))
theorem ltT_tot {a b : Str} (h1 : ltT a b = false) (h2 : ltT b a = false) : a = b := by
  unfold ltT at *
  simp only [decide_eq_false_iff_not] at *
  have : a.cps.toList = b.cps.toList := List.le_antisymm (List.not_lt.mp h2) (List.not_lt.mp h1)
  cases a
  cases b
  congr 1
  exact Array.toList_inj.mp this
theorem ltT_irr (a : Str) : ltT a a = false := by
  unfold ltT
  simp only [decide_eq_false_iff_not]
  exact List.lt_irrefl _
def lexT (p q : Str × Str) : Bool := if p.1 = q.1 then ltT p.2 q.2 else ltT p.1 q.1
theorem lexT_asym {p q : Str × Str} (h : lexT p q = true) : lexT q p = false := by
  unfold lexT at *
  by_cases e : p.1 = q.1
  · rw [if_pos e] at h
    rw [if_pos e.symm]
    exact ltT_asym h
  · rw [if_neg e] at h
    rw [if_neg (Ne.symm e)]
    exact ltT_asym h
theorem lexT_ntr {p q r : Str × Str} (h1 : lexT q p = false) (h2 : lexT r q = false) : lexT r p = false := by
  unfold lexT at *
  by_cases e1 : q.1 = p.1
  · rw [if_pos e1] at h1
    by_cases e2 : r.1 = q.1
    · rw [if_pos e2] at h2
      rw [if_pos (e2.trans e1)]
      exact ltT_ntr h1 h2
    · rw [if_neg e2] at h2
      rw [if_neg (fun z => e2 (z.trans e1.symm)), ← e1]
      exact h2
  · rw [if_neg e1] at h1
    by_cases e2 : r.1 = q.1
    · rw [if_neg (fun z => e1 (e2.symm.trans z)), e2]
      exact h1
    · rw [if_neg e2] at h2
      have h3 := ltT_ntr h1 h2
      by_cases e3 : r.1 = p.1
      · rw [e3] at h2
        exact absurd (ltT_tot h1 h2) e1
      · rw [if_neg e3]
        exact h3
theorem lexT_tot {p q : Str × Str} (h1 : lexT p q = false) (h2 : lexT q p = false) : p = q := by
  unfold lexT at *
  by_cases e : p.1 = q.1
  · rw [if_pos e] at h1
    rw [if_pos e.symm] at h2
    exact Prod.ext e (ltT_tot h1 h2)
  · rw [if_neg e] at h1
    rw [if_neg (Ne.symm e)] at h2
    exact absurd (ltT_tot h1 h2) e
theorem swo_lexT (k : Value → Str × Str) : Swo fun v u => lexT (k v) (k u) := ⟨fun _ _ h => lexT_asym h, fun _ _ _ h1 h2 => lexT_ntr h1 h2⟩
def IsPr (h : Heap) (v : Value) (x y : Str) : Prop := ∃ a o t u n, v = .ref a ∧ h.get? a = some o ∧ o.cls = .type "tuple" ∧ o.data = .seq #[.str x t, .str y u] n
theorem IsPr.keeps {h h' : Heap} {v : Value} {x y : Str} (p : IsPr h v x y) (k : ∀ b o, h.get? b = some o → o.cls = .type "tuple" → h'.get? b = some o) : IsPr h' v x y := by
  obtain ⟨a, o, t, u, n, e, ho, hc, hd⟩ := p
  exact ⟨a, o, t, u, n, e, k _ _ ho hc, hc, hd⟩
section
variable {prog : Program} {w : World} {A : Around} {E : Value → Shared → Prop} {s : Shared}
theorem pr_cmp {vs : List Value} {k : Value → Str × Str} (hp : ∀ v ∈ vs, IsPr s.heap v (k v).1 (k v).2) : SrtO.Cmp prog w A s (tuples' true) (fun p => p.1 ∈ vs) (lt2 fun v u => lexT (k v) (k u)) := by
  intro p q hm hm'
  have h1 := hp _ hm
  have h2 := hp _ hm'
  show wpAny (model prog w) A (keyLt' (tuples' true) p.1 q.1) (fun r s' => s' = s ∧ r = lexT (k p.1) (k q.1)) (fun _ _ => False) s
  unfold lexT
  generalize (k p.1).1 = x at h1 ⊢
  generalize (k p.1).2 = y at h1 ⊢
  generalize (k q.1).1 = x' at h2 ⊢
  generalize (k q.1).2 = y' at h2 ⊢
  obtain ⟨a, o, t, u, n, e, ho, hc, hd⟩ := h1
  obtain ⟨a', o', t', u', n', e', ho', hc', hd'⟩ := h2
  rw [e, e']
  refine PySem.W.kat_lt ho hd ho' hd' ?_
  show PySem.W.KatLex prog w A true (decide (2 < 2)) _ [(.str x t, .str x' t'), (.str y u, .str y' u')] 0 s
  refine PySem.W.kat_cons (SeqAt.EqAt.str_str x t x' t' prog w _ _ ?_)
  refine PySem.W.kat_go (fun e1 => ?_) (fun e1 => ?_)
  · have ex : x = x' := by simpa using e1
    refine PySem.W.kat_yes (PySem.W.kat_cons (SeqAt.EqAt.str_str y u y' u' prog w _ _ ?_))
    refine PySem.W.kat_go (fun e2 => ?_) (fun e2 => ?_)
    · have ey : y = y' := by simpa using e2
      have e3 : (if x = x' then ltT y y' else ltT x x') = false := by
        rw [if_pos ex, ey]
        exact ltT_irr _
      exact PySem.W.kat_yes (PySem.W.kat_nil ⟨rfl, e3.symm⟩)
    · have e3 : (if x = x' then ltT y y' else ltT x x') = ltT y y' := if_pos ex
      refine PySem.W.kat_no (PySem.W.kat_one _ _ (PyProof.Rows.lt_str ?_))
      exact (show s = s ∧ ltT y y' = (if x = x' then ltT y y' else ltT x x') from ⟨rfl, e3.symm⟩)
  · have ex : ¬ x = x' := by simpa using e1
    have e3 : (if x = x' then ltT y y' else ltT x x') = ltT x x' := if_neg ex
    exact PySem.W.kat_no (oneLt_str ⟨rfl, e3.symm⟩)
theorem firsts_of {h : Heap} : ∀ {vs : List Value}, (∀ v ∈ vs, ∃ x y, IsPr h v x y) → ∃ fs : List Value, PySem.W.KatTups h vs fs ∧ fs.length = vs.length ∧ ∀ f ∈ fs, ∃ x t, f = Value.str x t
  | [], _ => ⟨[], PySem.W.KatTups.nil, rfl, fun _ hm => by simp at hm⟩
  | v :: vs, hp => by
    obtain ⟨fs, h1, h2, h3⟩ := firsts_of (vs := vs) fun v' hm => hp v' (List.mem_cons_of_mem _ hm)
    obtain ⟨x, y, a, o, t, u, n, e, ho, hc, hd⟩ := hp v (List.mem_cons_self ..)
    subst e
    refine ⟨.str x t :: fs, PySem.W.KatTups.cons ho hc hd rfl h1, by rw [List.length_cons, List.length_cons, h2], fun f hm => ?_⟩
    rcases List.mem_cons.mp hm with rfl | hm
    · exact ⟨x, t, rfl⟩
    · exact h3 f hm
theorem prs_sortable {a : Addr} {vs : List Value} {k : Value → Str × Str} (h0 : 0 < vs.length) (hp : ∀ v ∈ vs, IsPr s.heap v (k v).1 (k v).2) (ha : ∀ o, s.heap.get? a = some o → o.cls ≠ .type "tuple") : SortableO prog w A s a vs fun v u => lexT (k v) (k u) := by
  intro h' keep
  have hp' : ∀ v ∈ vs, IsPr h' v (k v).1 (k v).2 := fun v hm => (hp v hm).keeps fun b o e c => keep b o (fun z => by subst z; exact ha o e c) e
  obtain ⟨fs, h1, h2, h3⟩ := firsts_of fun v hm => ⟨_, _, hp' v hm⟩
  refine ⟨tuples' true, fun Q E hq => ?_, pr_cmp hp'⟩
  refine PySem.W.kat_kind (T := .type "str") h1 (by omega) (fun f hm => ?_) (by rfl) ?_
  · obtain ⟨x, t, rfl⟩ := h3 f hm
    exact PySem.W.Looks.now
  · have e : (Value.type "str" != Value.type "tuple") = true := by first | decide +kernel | rfl | decide
    rw [e]
    exact hq
end
end TP
namespace L2
open PySem PySem.Spec PyProof.Rows
section
variable {X : Cx}
/-- the two texts of a key tuple -/
def kOfT (H : Hp) (v : Value) : Str × Str := match v with
  | .ref t => (match H t with | some (.tup [.str i, .str j]) => (i, j) | _ => (Str.empty, Str.empty))
  | _ => (Str.empty, Str.empty)
theorem kOfT_eq {H : Hp} {t : Addr} {i j : Str} (h : H t = some (.tup [.str i, .str j])) : kOfT H (.ref t) = (i, j) := by
  unfold kOfT
  simp only [h]
/-- sorted(d), d a dict whose keys are pairs of texts -/
theorem call_sortedDT (hcalm : X.calm = true) : CallR X (.builtin "sorted") (fun xs H Q => ∃ (a : Addr) (kvs : List (List Key × V)) (ks : List (Str × Str)), xs = [.ref a] ∧ Rd H a (.dT kvs) ∧ kvs.map (·.1) = ks.map (fun k => [Sum.inr k.1, Sum.inr k.2]) ∧ ks.length ≤ sizeLine ∧
    ∀ (zs : List (Str × Str)) (ys : List V) (p : Addr), zs.Perm ks → zs.Pairwise (fun a b => TP.lexT b a = false) → Paired (fun y z => ∃ t, y = V.ref t ∧ H t = some (.tup [.str z.1, .str z.2])) ys zs → H p = none → Q (.ref p) (upd H p (.lst ys))) := by
  intro pins s σ H xs us Q I r q
  obtain ⟨a, kvs, ks0, ex, hd, hks, hsz, q⟩ := q
  subst ex
  obtain ⟨u, eu, rx⟩ := vals1 r
  subst eu
  cases rx
  obtain ⟨z, hs, ks, pr, o, es, ep, ho, hx, hdt, he, hn⟩ := (show ObjOk X.prog X.w H s.heap a (.dT kvs) from hd.ok I.hok)
  have l1 : es.size = ks.length := size_of_entries he
  have l2 : kvs.length = ks.length := Paired.length pr
  have l3 : ks0.length = kvs.length := by
    have := congrArg List.length hks
    simpa using this.symm
  refine Calls.call_function_entry PyProof.Rows.kind_sorted PyProof.Rows.plain_sorted PyProof.Rows.entry_sorted (PyProof.Rows.args_sorted1 _) ?_
  unfold Builtin.«sorted»
  refine wpAny_bind (m := checkCount "sorted" 1 1 _) (wpAny_pure ?_)
  refine wpAny_bind (PySem.W.kdu_collect (A := X.A.in1) (kdl_raw hs hx hdt) (I.ok.hd hcalm) ho (by omega) fun h' tk acc hk hacc => ?_)
  have ea : acc.toList = ks.map fun x => Value.ref x.2.1 := by
    have hl : acc.toList.length = ks.length := by rw [Array.length_toList, hacc.1]; exact l1
    apply List.ext_getElem?
    intro j
    rw [List.getElem?_map]
    cases hj : acc.toList[j]? with
    | none =>
      have h1 := List.getElem?_eq_none_iff.mp hj
      rw [List.getElem?_eq_none (by omega)]
      all_goals rfl
    | some v =>
      obtain ⟨en, hen, hv⟩ := hacc.2 j v (by rw [← Array.getElem?_toList]; exact hj)
      have qe := entry_at he j
      rw [hen] at qe
      cases hb : ks[j]? with
      | none =>
        rw [hb] at qe
        exact nomatch (show some en = none from qe)
      | some b =>
        rw [hb] at qe
        have e2 : en = entryOfKey (tupleKind (mixKind X.prog X.w)) b := Option.some.inj qe
        rw [hv, e2]
        all_goals rfl
  -- each of them is a pair
  have hpr : ∀ v ∈ acc.toList, ∃ t i j, v = Value.ref t ∧ H t = some (.tup [.str i, .str j]) := by
    rw [ea]
    intro v hv
    obtain ⟨x, hx, rfl⟩ := List.mem_map.mp hv
    obtain ⟨j, hj⟩ := List.mem_iff_getElem?.mp hx
    obtain ⟨p, hp, rel⟩ : ∃ p, kvs[j]? = some p ∧ H x.2.1 = some (.tup (p.1.map kV)) := by
      clear hx hv ea
      have : ∀ {kvs : List (List Key × V)} {ks : List (List Key × Addr × Value)} (pr : KT H kvs ks) (j : Nat), ks[j]? = some x → ∃ p, kvs[j]? = some p ∧ H x.2.1 = some (.tup (p.1.map kV)) := by
        intro kvs ks pr
        induction pr with
        | nil => intro j h; simp at h
        | cons h t ih =>
          intro j hj
          cases j with
          | zero =>
            have e := Option.some.inj hj
            subst e
            exact ⟨_, rfl, h.2.1⟩
          | succ j => exact ih j (by simpa using hj)
      exact this pr j hj
    have hk := congrArg (fun l => l[j]?) hks
    simp only [List.getElem?_map, hp] at hk
    cases hk0 : ks0[j]? with
    | none => rw [hk0] at hk; cases hk
    | some k =>
      rw [hk0] at hk
      have e : p.1 = [Sum.inr k.1, Sum.inr k.2] := Option.some.inj hk
      rw [e] at rel
      exact ⟨_, k.1, k.2, rfl, rel⟩
  have hmap : acc.toList.map (kOfT H) = ks0 := by
    apply List.ext_getElem?
    intro j
    rw [List.getElem?_map, ea, List.getElem?_map]
    cases hj : ks[j]? with
    | none =>
      have h1 := List.getElem?_eq_none_iff.mp hj
      rw [List.getElem?_eq_none (by omega)]
      all_goals rfl
    | some x =>
      obtain ⟨p, hp, rel⟩ : ∃ p, kvs[j]? = some p ∧ H x.2.1 = some (.tup (p.1.map kV)) := by
        have : ∀ {kvs : List (List Key × V)} {ks : List (List Key × Addr × Value)} (pr : KT H kvs ks) (j : Nat), ks[j]? = some x → ∃ p, kvs[j]? = some p ∧ H x.2.1 = some (.tup (p.1.map kV)) := by
          intro kvs ks pr
          induction pr with
          | nil => intro j h; simp at h
          | cons h t ih =>
            intro j hj
            cases j with
            | zero =>
              have e := Option.some.inj hj
              subst e
              exact ⟨_, rfl, h.2.1⟩
            | succ j => exact ih j (by simpa using hj)
        exact this pr j hj
      have hk := congrArg (fun l => l[j]?) hks
      simp only [List.getElem?_map, hp] at hk
      cases hk0 : ks0[j]? with
      | none => rw [hk0] at hk; cases hk
      | some k =>
        rw [hk0] at hk
        have e : p.1 = [Sum.inr k.1, Sum.inr k.2] := Option.some.inj hk
        rw [e] at rel
        show some (kOfT H (.ref x.2.1)) = some k
        rw [kOfT_eq rel]
  have hal : acc.toList.length = ks.length := by rw [ea, List.length_map]
  have I1 : Inv X pins σ H { s with heap := h', toks := tk } := I.kept hk
  refine wpAny_bind (wpAny_newList ?_ (by rw [hal]; omega))
  have hoL : (h'.push (seqObj "list" acc.toList.toArray 0)).get? h'.objs.size = some (seqObj "list" acc.toList.toArray 0) := Heap.get?_push_size _ rfl
  show wpAny _ _ _ _ _ { s with heap := h'.push (seqObj "list" acc.toList.toArray 0), toks := tk }
  have hp1 : ∀ v ∈ acc.toList, TP.IsPr (h'.push (seqObj "list" acc.toList.toArray 0)) v (kOfT H v).1 (kOfT H v).2 := fun v hv => by
    obtain ⟨t, i, j, rfl, ht⟩ := hpr v hv
    rw [kOfT_eq ht]
    obtain ⟨_, its2, r2, o2, ho2, hc2, n2, hd2⟩ := I1.hok _ _ ht
    obtain ⟨u1, u2, rfl, ri, rj⟩ := vals2 r2
    obtain ⟨t1, rfl⟩ := ri
    obtain ⟨t2, rfl⟩ := rj
    exact ⟨t, o2, t1, t2, n2, rfl, Heap.get?_push_of_some _ ho2, hc2, hd2⟩
  refine wpAny_bind (wpAny_holding (wpAny_call_entry PyProof.Rows.slot_list_sort ⟨_, hoL, rfl⟩ PyProof.Rows.entry_list_sort
    (SrtO.list_sort_ord (s := { s with heap := h'.push (seqObj "list" acc.toList.toArray 0), toks := tk }) (TP.swo_lexT (kOfT H)) hoL (by rw [hal]; omega) (fun h2 => TP.prs_sortable (s := { s with heap := h'.push (seqObj "list" acc.toList.toArray 0), toks := tk }) (by omega) hp1 fun o e => by
      have e' : some o = some (seqObj "list" acc.toList.toArray 0) := e.symm.trans hoL
      cases e'
      intro c
      exact absurd (Value.type.inj c) (by decide)) fun out g1 g2 => ⟨_, rfl, ?_⟩) (PyProof.Rows.args_list_sort _)))
  obtain ⟨e', he'⟩ := PyProof.Rows.sortedHeap_at (vs := acc.toList) (out := out.toArray) hoL
  have hout : ∀ v ∈ out, ∃ t i j, v = Value.ref t ∧ H t = some (.tup [.str i, .str j]) := fun v hv => hpr v (g2.perm.mem_iff.mp hv)
  have hys : ∃ ys : List V, Vals ys out ∧ Paired (fun y z => ∃ t, y = V.ref t ∧ H t = some (.tup [.str z.1, .str z.2])) ys (out.map (kOfT H)) := by
    clear g1 g2 he' e'
    induction out with
    | nil => exact ⟨[], .nil, .nil⟩
    | cons v r ih =>
      obtain ⟨ys, h1, h2⟩ := ih fun w hw => hout w (List.mem_cons_of_mem _ hw)
      obtain ⟨t, i, j, rfl, ht⟩ := hout v List.mem_cons_self
      exact ⟨.ref t :: ys, .cons rfl h1, .cons ⟨t, rfl, by rw [kOfT_eq ht]; exact ht⟩ h2⟩
  obtain ⟨ys, rv, pd⟩ := hys
  have lo : out.length = ks.length := by rw [g2.perm.length_eq, hal]
  have hlen : ys.length ≤ sizeLine := by
    have := rv.length
    omega
  refine wpAny_pure ⟨_, rfl, .ref h'.objs.size, upd H h'.objs.size (.lst ys), I1.laid (t' := tk) (fun b u e => ?_) (Nat.le_refl _)
    (show ObjOk X.prog X.w _ _ _ (.lst ys) from ⟨hlen, out, e', rv, he'⟩), rfl, q (out.map (kOfT H)) ys _ (by rw [← hmap]; exact g2.perm.map _) (List.pairwise_map.mpr g1) pd (I1.hok.fresh (Nat.le_refl _))⟩
  have hb : b < h'.objs.size := Heap.lt_size e
  rw [PyProof.Rows.sortedHeap_old (Nat.ne_of_lt hb) (by rw [size_push']; exact Nat.lt_succ_of_lt hb)]
  exact Heap.get?_push_of_some _ e
end
end L2

set_option Elab.async false
set_option autoImplicit false
set_option linter.all false
set_option maxRecDepth 100000
set_option maxHeartbeats 1000000
namespace TP
open PySem PySem.Spec PyProof.Rows
theorem rising_pw : ∀ {l : List Str} {p : Str}, risingS p l = true → (p :: l).Pairwise fun a b => ltT b a = false
  | [], p, _ => List.pairwise_singleton _ _
  | x :: r, p, h => by
    have h : (!ltCps x.cps.toList p.cps.toList && risingS x r) = true := h
    simp only [Bool.and_eq_true, Bool.not_eq_true'] at h
    have h1 : ltT x p = false := by
      unfold ltT
      rw [← ltCps_eq]
      exact h.1
    have ih := rising_pw h.2
    rw [List.pairwise_cons]
    refine ⟨fun y hy => ?_, ih⟩
    rcases List.mem_cons.mp hy with e | e
    · rw [e]; exact h1
    · exact ltT_ntr h1 (List.rel_of_pairwise_cons ih e)
theorem sorted_pw {l : List Str} (h : sortedS l = true) : l.Pairwise fun a b => ltT b a = false := by
  cases l with
  | nil => exact .nil
  | cons x r => exact rising_pw h
abbrev ltV (k : L2.V → Str × Str) (x y : L2.V) : Bool := lexT (k x) (k y)
theorem ltV_swo (k : L2.V → Str × Str) : SrtO.Swo (ltV k) := ⟨fun _ _ h => lexT_asym h, fun _ _ _ h1 h2 => lexT_ntr h1 h2⟩
end TP
namespace L2
open PySem PySem.Spec PyProof.Rows
/-- sorted(xs), texts, any number of them -/
def rSortedSA (K : PySem.W.Frag) : List V → Hp → VK → Prop := fun vs H Q => ∃ (a : Addr) (xs : List Str), vs = [V.ref a] ∧ SqL K H a (xs.map V.str) ∧
  ∀ (ys : List Str) (p : Addr), ys.Perm xs → ys.Pairwise (fun a b => TP.ltT b a = false) → H p = none → Q (.ref p) (upd H p (.lst (ys.map V.str)))
/-- sorted(xs), pairs of texts -/
def rSortedTO (K : PySem.W.Frag) : List V → Hp → VK → Prop := fun vs H Q => ∃ (a : Addr) (xs : List V) (k : V → Str × Str), vs = [V.ref a] ∧ SqL K H a xs ∧ (∀ x ∈ xs, ∃ t, x = V.ref t ∧ H t = some (.tup [.str (k x).1, .str (k x).2])) ∧
  ∀ ys p, SrtO.Srtd (TP.ltV k) ys → SrtO.Stb (TP.ltV k) ys xs → H p = none → Q (.ref p) (upd H p (.lst ys))
section
variable {X : Cx}
theorem cr_sortedSA : CallR X (.builtin "sorted") (rSortedSA X.K) := by
  intro pins s σ H vs us Q I r h
  obtain ⟨a, xs, rfl, hs, q⟩ := h
  obtain ⟨its, rv, hl, hz⟩ := I.list hs
  rw [Vals.ref1 r]
  refine PyProof.Rows.sorted_strsAny hl.isList rv.strs (by rw [← rv.length]; exact hz) fun out ys h1 h2 h3 => ?_
  obtain ⟨ep, he'⟩ := PyProof.Rows.sortedAll_at s.heap its out
  have hlen : (ys.map V.str).length ≤ sizeLine := by
    rw [List.length_map, h2.length_eq]
    rw [List.length_map] at hz
    exact hz
  exact ⟨.ref _, upd H (s.heap.objs.size + 1) (.lst (ys.map V.str)), I.laid (t' := s.toks) (fun _ _ => PyProof.Rows.sortedAll_old) (Nat.le_succ _) ⟨hlen, out.toList, ep, vals_of_strs h1, he'⟩, rfl, q ys _ h2 (TP.sorted_pw h3) (I.hok.fresh (Nat.le_succ _))⟩
theorem cr_sortedTO : CallR X (.builtin "sorted") (rSortedTO X.K) := by
  intro pins s σ H vs us Q I r h
  obtain ⟨a, xs, k, rfl, hs, hx, q⟩ := h
  obtain ⟨its, rv, hl, hz⟩ := I.list hs
  obtain ⟨u, rfl, ru⟩ := vals1 r
  obtain rfl : u = Value.ref a := ru
  obtain ⟨e1, e2⟩ := refs_back rv fun x m => by
    obtain ⟨t, e, _⟩ := hx x m
    exact ⟨t, e⟩
  have hpr : ∀ v ∈ its, TP.IsPr s.heap v (k (backV v)).1 (k (backV v)).2 := fun v hv => by
    obtain ⟨t, rfl⟩ := e2 v hv
    have hm : V.ref t ∈ xs := by rw [e1]; exact List.mem_map.mpr ⟨_, hv, rfl⟩
    obtain ⟨t', e, ht⟩ := hx _ hm
    cases e
    obtain ⟨_, its2, r2, o, ho, hc, n, hd⟩ := I.hok _ _ ht
    obtain ⟨u1, u2, rfl, ri, rj⟩ := vals2 r2
    obtain ⟨t1, rfl⟩ := ri
    obtain ⟨t2, rfl⟩ := rj
    exact ⟨t, o, t1, t2, n, rfl, ho, hc, hd⟩
  refine SrtO.sorted_ord (TP.swo_lexT fun u => k (backV u)) hl.isList (by rw [← rv.length]; exact hz) (fun h2 h₁ a ha kk => ?_) fun out h1 h2 => ?_
  · refine TP.prs_sortable (s := { s with heap := h₁ }) (by omega) (fun v hm => (hpr v hm).keeps fun b o e _ => (kk b o e).2) fun o e => ?_
    have e' : some o = some (seqObj "list" its.toArray 0) := e.symm.trans ha
    cases e'
    intro c
    exact absurd (Value.type.inj c) (by decide)
  · have h3 : ∀ u ∈ out, ∃ a, u = Value.ref a := fun u hu => e2 u (h2.perm.mem_iff.mp hu)
    obtain ⟨n, hn⟩ := PyProof.Rows.sortedAll_at s.heap its out.toArray
    have hb : SrtO.Stb (TP.ltV k) (out.map backV) xs := by
      rw [e1]
      exact SrtO.Stb.map (TP.ltV_swo k) backV h2
    refine ⟨.ref _, upd H (s.heap.objs.size + 1) (.lst (out.map backV)), I.laid (t' := s.toks) (fun _ _ => PyProof.Rows.sortedAll_old) (Nat.le_succ _) ⟨?_, out, n, vals_back h3, hn⟩, rfl, q _ _ (SrtO.srtd_map h1) hb (I.hok.fresh (Nat.le_succ _))⟩
    rw [hb.len]
    exact hz
end
end L2
namespace Sim
open PySem L2
open Rp (rep)
open At1 (toV)
open KT (keys)
instance instTotTt : Tot Tt := ⟨fun a b => !TP.ltT b.s a.s, fun a b c h1 h2 => by
    simp only [Bool.not_eq_true'] at *
    exact TP.ltT_ntr h1 h2, fun a b => by
    cases q : TP.ltT b.s a.s with
    | false => rfl
    | true => rw [TP.ltT_asym q]; rfl, fun a b h1 h2 => by
    simp only [Bool.not_eq_true'] at *
    exact Tt.ext' (TP.ltT_tot h2 h1)⟩
abbrev tS (p : Tt × Tt) : Str × Str := (p.1.s, p.2.s)
theorem tS_inj {p q : Tt × Tt} (h : tS p = tS q) : p = q := Prod.ext (Tt.ext' (congrArg Prod.fst h)) (Tt.ext' (congrArg Prod.snd h))
instance instTotTP : Tot (Tt × Tt) := ⟨fun a b => !TP.lexT (tS b) (tS a), fun a b c h1 h2 => by
    simp only [Bool.not_eq_true'] at *
    exact TP.lexT_ntr h1 h2, fun a b => by
    cases q : TP.lexT (tS b) (tS a) with
    | false => rfl
    | true => rw [TP.lexT_asym q]; rfl, fun a b h1 h2 => by
    simp only [Bool.not_eq_true'] at *
    exact tS_inj (TP.lexT_tot h2 h1)⟩
/-- a sorted list is told by what it holds -/
theorem map_srt {α β : Type} [Tot α] (f : α → β) {lt : β → β → Bool} (hlt : ∀ a b, Tot.le a b = !lt (f b) (f a)) (tot : ∀ a b, lt a b = false → lt b a = false → a = b) {xs : List α} {ys : List β} (p : ys.Perm (xs.map f)) (s : ys.Pairwise fun a b => lt b a = false) : ys = (srt xs).map f := by
  refine List.Perm.eq_of_pairwise (le := fun a b => lt b a = false) (fun a b _ _ h1 h2 => tot a b h2 h1) s ?_ (p.trans ((srt_perm xs).map f).symm)
  rw [List.pairwise_map]
  refine (srt_pair xs).imp fun {a b} h => ?_
  rw [hlt] at h
  simpa using h
section
variable {X : Cx} {Γ : Gm} {B : Bs} {ρ : Sto} {N : List Str} {sc : Scope} {k : Nat} {pos p p' : Pos} {e a : Expr} {α : Type} [Rp α]
theorem xn_sortT (c : Cok X Γ N sc k) {m : Option (List Tt)} (ha : XR X Γ B ρ a m) (hg : Glb sc "sorted") (hm : Γ.mg "sorted" = none) (s1 : starEach [a] X.env = (false, eval a X.env) :: starEach [] X.env := by rfl) :
    XN X Γ B ρ (.Call (.Name "sorted" p) [a] [] pos) (m.bind fun xs => some (srt xs)) :=
  imE (pe_callB cr_sortedSA (c.gl hg) (by rw [c.hmg]; exact hm) PyProof.Rows.boot_sorted (pa_cons ha pa_nil s1) (he := s1)) fun σ H Q ⟨G, z, A, e, q⟩ => by
  cases m with
  | none => cases e
  | some xs =>
    cases e
    refine ⟨G, xs, A, rfl, fun l vs G1 H1 g1 hp r1 => ⟨l, xs.map (·.s), rfl, SqL.of (by rw [List.map_map, ← show vs = xs.map (V.str ∘ fun t : Tt => t.s) from r1.toV]; exact hp), fun ys q1 h1 h2 h3 => ?_⟩⟩
    have : ys = (srt xs).map (·.s) := map_srt (fun t : Tt => t.s) (lt := TP.ltT) (fun a b => rfl) (fun a b h1 h2 => TP.ltT_tot h1 h2) h1 h2
    subst this
    rw [List.map_map]
    exact q q1 _ G1 H1 g1 h3 (RpL.ofV (α := Tt) _)
/-- sorted(d), the keys pairs of texts -/
theorem xn_sortDT (c : Cok X Γ N sc k) {m : Option (List ((Tt × Tt) × α))} (ha : XDT X Γ B ρ a m) (hg : Glb sc "sorted") (hm : Γ.mg "sorted" = none) (s1 : starEach [a] X.env = (false, eval a X.env) :: starEach [] X.env := by rfl) :
    XN X Γ B ρ (.Call (.Name "sorted" p) [a] [] pos) (m.bind fun d => if d.length ≤ BIG then some (srt (d.map (·.1))) else none) :=
  imE (pe_callB (call_sortedDT c.calm) (c.gl hg) (by rw [c.hmg]; exact hm) PyProof.Rows.boot_sorted (pa_cons ha pa_nil s1) (he := s1)) fun σ H Q ⟨G, z, A, e, q⟩ => by
  cases m with
  | none => cases e
  | some d =>
    obtain ⟨hl, e⟩ := ite_some (show (if d.length ≤ BIG then some (srt (d.map (·.1))) else none) = some z from e)
    subst e
    refine ⟨G, d, A, rfl, fun l kvs G1 H1 g1 hp r1 => ⟨l, kvs, (d.map (·.1)).map tS, rfl, hp, ?_, ?_, fun zs ys q1 h1 h2 h3 h4 => ?_⟩⟩
    · have : ∀ {kvs : List (List Key × V)} {d : List ((Tt × Tt) × α)}, RpT Γ G1 kvs d → kvs.map (·.1) = ((d.map (·.1)).map tS).map (fun k => [Sum.inr k.1, Sum.inr k.2]) := by
        intro kvs d r
        induction r with
        | nil => rfl
        | cons h t ih => rw [List.map_cons, List.map_cons, List.map_cons, List.map_cons, ih, h.1]; rfl
      exact this r1
    · rw [List.length_map, List.length_map]; exact big_le hl
    · have : zs = (srt (d.map (·.1))).map tS := map_srt tS (lt := TP.lexT) (fun a b => rfl) (fun a b h1 h2 => TP.lexT_tot h1 h2) h1 h2
      subst this
      refine q q1 ys _ H1 (g1.trans (Grow.tups g1.sub)) h4 ?_
      have : ∀ {ys : List V} {ws : List (Tt × Tt)}, Paired (fun y z => ∃ t, y = V.ref t ∧ H1 t = some (.tup [.str z.1, .str z.2])) ys (ws.map tS) → RpL Γ (tupd G1 H1) ys ws := by
        intro ys ws
        induction ws generalizing ys with
        | nil => intro h; cases h; exact .nil
        | cons w r ih =>
          intro h
          cases h with
          | cons h t =>
            obtain ⟨t', e1, e2⟩ := h
            exact .cons ⟨t', .str w.1.s, .str w.2.s, e1, tupd_tup g1.sub e2, rfl, rfl⟩ (ih t)
      exact this h3
/-- sorted(xs), pairs of texts -/
theorem xn_sortPT (c : Cok X Γ N sc k) {m : Option (List (Tt × Tt))} (ha : XR X Γ B ρ a m) (hg : Glb sc "sorted") (hm : Γ.mg "sorted" = none) (s1 : starEach [a] X.env = (false, eval a X.env) :: starEach [] X.env := by rfl) :
    XN X Γ B ρ (.Call (.Name "sorted" p) [a] [] pos) (m.bind fun xs => some (srt xs)) :=
  imE (pe_callB cr_sortedTO (c.gl hg) (by rw [c.hmg]; exact hm) PyProof.Rows.boot_sorted (pa_cons ha pa_nil s1) (he := s1)) fun σ H Q ⟨G, z, A, e, q⟩ => by
  cases m with
  | none => cases e
  | some xs =>
    cases e
    refine ⟨G, xs, A, rfl, fun l vs G1 H1 g1 hp r1 => ?_⟩
    let kk : V → Str × Str := fun v => match v with
      | .ref t => (match H1 t with | some (.tup [.str x, .str y]) => (x, y) | _ => (Str.empty, Str.empty))
      | _ => (Str.empty, Str.empty)
    have hk : ∀ {v : V} {w : Tt × Tt}, rep Γ G1 v w → kk v = tS w ∧ ∃ t, v = V.ref t ∧ H1 t = some (.tup [.str w.1.s, .str w.2.s]) ∧ G1 t = some (.tup [.str w.1.s, .str w.2.s]) := by
      intro v w ⟨t, x, y, e1, e2, e3, e4⟩
      have e3 : x = .str w.1.s := rep1 e3
      have e4 : y = .str w.2.s := rep1 e4
      subst e1 e3 e4
      have h1 := g1.sub _ _ e2
      refine ⟨?_, t, rfl, h1, e2⟩
      show (match H1 t with | some (.tup [.str x, .str y]) => (x, y) | _ => (Str.empty, Str.empty)) = _
      rw [h1]
    have all : ∀ {vs : List V} {xs : List (Tt × Tt)}, RpL Γ G1 vs xs → vs.map kk = xs.map tS ∧ ∀ v ∈ vs, ∃ w : Tt × Tt, rep Γ G1 v w := by
      intro vs xs r
      induction r with
      | nil => exact ⟨rfl, fun v hv => by simp at hv⟩
      | cons h t ih =>
        refine ⟨by rw [List.map_cons, List.map_cons, ih.1, (hk h).1], fun v hv => ?_⟩
        rcases List.mem_cons.mp hv with z | z
        · rw [z]; exact ⟨_, h⟩
        · exact ih.2 v z
    obtain ⟨a1, a2⟩ := all r1
    refine ⟨l, vs, kk, rfl, SqL.of hp, fun v hv => ?_, fun ys q1 h1 h2 h3 => ?_⟩
    · obtain ⟨w, hw⟩ := a2 v hv
      obtain ⟨b1, t, b2, b3, _⟩ := hk hw
      exact ⟨t, b2, by rw [b1]; exact b3⟩
    · have pm : (ys.map kk).Perm (xs.map tS) := by rw [← a1]; exact h2.perm.map kk
      have pw : (ys.map kk).Pairwise fun a b => TP.lexT b a = false := List.pairwise_map.mpr h1
      have hy : ys.map kk = (srt xs).map tS := map_srt tS (lt := TP.lexT) (fun a b => rfl) (fun a b h1 h2 => TP.lexT_tot h1 h2) pm pw
      refine q q1 ys G1 H1 g1 h3 ?_
      have a3 : ∀ v ∈ ys, ∃ w : Tt × Tt, rep Γ G1 v w := fun v hv => a2 v (h2.perm.mem_iff.mp hv)
      clear h1 h2 pm pw
      generalize srt xs = zs at hy
      induction ys generalizing zs with
      | nil => cases zs with
        | nil => exact .nil
        | cons z r => cases hy
      | cons v r ih => cases zs with
        | nil => cases hy
        | cons z s =>
          obtain ⟨w, hw⟩ := a3 v (by simp)
          have e1 := (List.cons.inj hy).1
          have e2 := (List.cons.inj hy).2
          rw [(hk hw).1] at e1
          have : w = z := tS_inj e1
          subst this
          exact .cons hw (ih (fun u hu => a3 u (by simp [hu])) s e2)
end
end Sim

set_option Elab.async false
set_option autoImplicit false
set_option linter.all false
set_option maxRecDepth 100000
set_option maxHeartbeats 1000000
namespace Sim
open PySem L2
open Rp (rep)
open At1 (toV)
open K1 (key)
open KT (keys)
open Ow (own)
open RpA (repA stoA)
section
variable {X : Cx} {Γ : Gm} {B : Bs} {L β C : Type} [Rp β] {F : Kt L β C} {ρ ρ' : Sto} {N : List Str} {sc : Scope} {k j : Nat} {fx : List Nat} {W : WX} {M : List Addr} {pos p p' p2 apos : Pos} {e a b o tg it elt kx : Expr} {es : List Expr} {S : Type} {sto : S → Sto}
variable {α γ δ τ : Type} [Rp α] [Rp γ] [Rp δ] [RpA τ]
/-- z = [elt for x, y in it if t], the name a plain local of the def's -/
theorem xp_setLc2N (d : Dok X Γ B N sc k fx W M) {x y z : Str} {px py pz pt : Pos} {nt : Nat} {i l j : Nat} {ifs : List Expr} {scope sc' : Scope} {mxs : Option (List (α × δ))} {t : α × δ → Option Bool} {f : α × δ → Option γ} (hj : N[j]? = some z) (hyl : sc.names.lookup z = some .local) (hsw : ((if sc.kind.isAnnotationScope then ScopeKind.function else sc.kind) == .function && sc.names.lookup z == some .local && pz.line == p.line && !(scope.names.any fun (n, k) => n == z && (k == .local || k == .cell))) = true)
    (hi : XI X Γ B ρ (.Tuple [.Name x px, .Name y py] nt pt) it mxs) (hsc : relS scope sc = sc') (hB : blkC N sc scope [(x, i), (y, l)] = true) (hx : N[i]? = some x) (hy : N[l]? = some y) (hxl' : sc'.names.lookup x = some .local) (hyl' : sc'.names.lookup y = some .local)
    (ht : ∀ X', Cok X' Γ N sc' k → ∀ a : α × δ, PTs X' ifs (cT Γ B (st2 ρ i l a) (t a)))
    (he : ∀ X', Cok X' Γ N sc' k → ∀ a : α × δ, XE X' Γ B (st2 ρ i l a) elt (f a)) (hs : ∀ x, foldedSetIterable it X.env x = pure x := by intro _; rfl) (hρ : Nat.ble (i + 1) ρ.length = true := by rfl) (hfc : fx.contains i = false := by rfl) (hρ2 : Nat.ble (l + 1) ρ.length = true := by rfl) (hfc2 : fx.contains l = false := by rfl) (hρ3 : Nat.ble (j + 1) ρ.length = true := by rfl) (hf3 : fx.contains j = false := by rfl) :
    XP1 X Γ B ρ (.Assign [.Name z pz] (.ListComp elt [⟨.Tuple [.Name x px, .Name y py] nt pt, it, ifs, 0⟩] scope p) pos) (mxs.bind (lcB t f)) (fun z => ρ.set j (ow (OL.mk z))) := by
  have cb : ∀ (s : Shared) (H : Hp) (C : Addr) (cl : List (Str × Addr)) (fp : List Addr), Cok (X.blk s H scope (compEnvC scope cl C X.env) fp) Γ N sc' k := fun s H C cl fp => d.toCok.blk hsc
  have gn : ∀ (s : Shared) (H : Hp) (C : Addr) (cl : List (Str × Addr)) (fp : List Addr) {z : Str} {pz : Pos} {j : Nat}, N[j]? = some z → sc'.names.lookup z = some .local → PG (X.blk s H scope (compEnvC scope cl C X.env) fp) (.Name z pz) (gName j) := fun s H C cl fp {z pz j} h1 h2 =>
    pg_name (i := j) (by rw [(cb s H C cl fp).hN]; exact d.nd) (by rw [(cb s H C cl fp).hN]; exact h1) (by rw [(cb s H C cl fp).hsc]; exact .inl h2) (.inr (by rw [(cb s H C cl fp).hsc]; exact h2))
  exact imS (ps_setLc (own := [(x, i), (y, l)]) (g := gP X.K i l) (tt := fun σ H Q => ∃ a, cT Γ B (st2 ρ i l a) (t a) σ H Q) (te := fun σ H Q => ∃ a, cE Γ B (st2 ρ i l a) (f a) σ H Q) d.calm (by rw [d.hN]; exact d.nd) (by rw [d.hN]; exact hj) (by rw [d.hsc]; exact hyl) ((sw_lc d.toCok).trans (by rw [hsw])) hi (by rw [d.hN, d.hsc]; exact blkOk_by hB)
    (fun s H C cl fp => imG (pg_tup (cb s H C cl fp).calm (pgs_cons (gn s H C cl fp hx hxl') (pgs_cons (gn s H C cl fp hy hyl') pgs_nil))) fun v σ H Q ⟨p, u, w, h1, h2, q⟩ => ⟨p, [u, w], h1, h2, rfl, u, [w], rfl, w, [], rfl, rfl, q⟩)
    (fun s H C cl fp => ⟨fun pins s' σ H' Q I ⟨a, q⟩ => (ht _ (cb s H C cl fp) a).run pins s' σ H' Q I q⟩) (fun s H C cl fp => allE fun a => he _ (cb s H C cl fp) a) hs) fun D σ H ⟨G, s, A, e, q⟩ => lc_sim2 (lc_pre hρ hfc d.hfx).1 (lc_pre hρ hfc d.hfx).2 (lc_pre hρ2 hfc2 d.hfx).1 (lc_pre hρ2 hfc2 d.hfx).2 (Q := fun v H1 => gName j v σ H1 D.nx) ⟨G, s, A, e, fun p vs G1 H1 g hp r => q G1 _ _ ((A.grow g).setN (Nat.le_of_ble_eq_true hρ3) hp ⟨p, vs, rfl, rfl, upd_same, r⟩ (lc_pre hρ3 hf3 d.hfx).1)⟩
theorem xp_setLc2 (d : Dok X Γ B N sc k fx W M) {x y z : Str} {px py pz pt : Pos} {nt : Nat} {i l j : Nat} {ifs : List Expr} {scope sc' : Scope} {mxs : Option (List (α × δ))} {t : α × δ → Option Bool} {f : α × δ → Option γ} (hj : N[j]? = some z) (hyl : sc.names.lookup z = some .local) (hsw : ((if sc.kind.isAnnotationScope then ScopeKind.function else sc.kind) == .function && sc.names.lookup z == some .local && pz.line == p.line && !(scope.names.any fun (n, k) => n == z && (k == .local || k == .cell))) = true)
    (hi : XI X Γ B ρ (.Tuple [.Name x px, .Name y py] nt pt) it mxs) (hsc : relS scope sc = sc') (hB : blkC N sc scope [(x, i), (y, l)] = true) (hx : N[i]? = some x) (hy : N[l]? = some y) (hxl' : sc'.names.lookup x = some .local) (hyl' : sc'.names.lookup y = some .local)
    (ht : ∀ X', Cok X' Γ N sc' k → ∀ a : α × δ, PTs X' ifs (cT Γ B (st2 ρ i l a) (t a)))
    (he : ∀ X', Cok X' Γ N sc' k → ∀ a : α × δ, XE X' Γ B (st2 ρ i l a) elt (f a)) (hs : ∀ x, foldedSetIterable it X.env x = pure x := by intro _; rfl) (hρ : Nat.ble (i + 1) ρ.length = true := by rfl) (hfc : fx.contains i = false := by rfl) (hρ2 : Nat.ble (l + 1) ρ.length = true := by rfl) (hfc2 : fx.contains l = false := by rfl) (hρ3 : Nat.ble (j + 1) ρ.length = true := by rfl) (hf3 : fx.contains j = false := by rfl) :
    XP1 X Γ B ρ (.Assign [.Name z pz] (.ListComp elt [⟨.Tuple [.Name x px, .Name y py] nt pt, it, ifs, 0⟩] scope p) pos) (mxs.bind (lcB t f)) (fun z => ρ.set j (vl z)) := by
  have h := xp_setLc2N (α := α) (γ := γ) d (elt := elt) (pos := pos) hj hyl hsw hi hsc hB hx hy hxl' hyl' ht he hs hρ hfc hρ2 hfc2 hρ3 hf3
  refine imS (lkS' h) fun D σ H ⟨G, s, A, e, q⟩ => ⟨G, s, A, e, fun G' H' σ' A' => ?_⟩
  have hx : (ρ.set j (ow (OL.mk s)))[j]? = some (ow (OL.mk s)) := by rw [List.getElem?_set_self (Nat.le_of_ble_eq_true hρ3)]
  refine (At.freeze A' hx rfl).mono fun H2 ⟨G2, l2, A2⟩ => ?_
  rw [List.set_set] at A2
  exact q G2 H2 σ' A2
/-- x, y = e -/
theorem xp_unp2 (d : Dok X Γ B N sc k fx W M) {x y : Str} {p1 p2 pt : Pos} {nt : Nat} (i l : Nat) {m : Option (α × γ)} (he : XE X Γ B ρ e m) (hi : N[i]? = some x) (hx : Loc sc x) (hj : N[l]? = some y) (hy : Loc sc y) (hρ : Nat.ble (i + 1) ρ.length = true := by rfl) (hf : fx.contains i = false := by rfl)
    (hρ2 : Nat.ble (l + 1) ρ.length = true := by rfl) (hf2 : fx.contains l = false := by rfl) (hs : swapsWithSole [.Tuple [.Name x p1, .Name y p2] nt pt] e pos.line X.env = pure false := by rfl) (hw : swappedStores [.Tuple [.Name x p1, .Name y p2] nt pt] e X.env = pure none := by rfl) :
    XP1 X Γ B ρ (.Assign [.Tuple [.Name x p1, .Name y p2] nt pt] e pos) m (fun t => (ρ.set i (vl t.1)).set l (vl t.2)) :=
  imS (ps_asg he (xg_pair (α := α) (γ := γ) (S := Unit) (ρ := fun _ => ρ) d i l hi hx hj hy (fun _ => hρ) hf (fun _ => hρ2) hf2) hs hw) fun D σ H ⟨G, s, A, e, q⟩ => ⟨G, s, A, e, fun v G1 H1 g1 r1 => ⟨(), s, G1, A.grow g1, r1, fun G' H' σ' l A' => q G' H' σ' A'⟩⟩
end
end Sim

set_option Elab.async false
set_option autoImplicit false
set_option linter.all false
set_option maxRecDepth 100000
set_option maxHeartbeats 1000000
namespace L2
open PySem PySem.Spec PyProof.Rows
/-! ### dict comprehensions whose keys are tuples -/
/-- d[k] = v by a comprehension, k a tuple -/
theorem d_dictSetT {X : Cx} {pins : List (Addr × Obj)} {σ : L2.St} {H : Hp} {s : Shared} {E : Value → Shared → Prop} {D b : Addr} {kvs : List (List Key × V)} {k : List Key} {v : V} {u r : Value} {Q : Unit → Shared → Prop} (hu : X.A.units + 1 < cLine) (I : Inv X pins σ H s) (hD : H D = some (.dT kvs)) (hz : kvs.length < sizeLine)
    (eb : H b = some (.tup (k.map kV))) (ry : RelV (.ref b) u) (rv : RelV v r) (h : ∀ s', Inv X pins σ (upd H D (.dT (putK kvs k v))) s' → Q () s') : wpAny (model X.prog X.w) X.A (dictSet D u r) Q E s := by
  cases (show u = Value.ref b from ry)
  obtain ⟨z, hd, xs, rel, dd⟩ := dt_of I.hok hD
  have hz2 : xs.length ≤ sizeLine := by rw [← Paired.length rel]; exact z
  have hl : (putK kvs k v).length ≤ sizeLine := by have := length_putK kvs k v; omega
  refine wpAny_dictSet_heap (hsz := hz2) (show (tupleKind (mixKind X.prog X.w)).room X.A from Nat.lt_of_succ_lt hu) (key_of I.hok eb) dd fun h' dd' hs => h _ ?_
  obtain ⟨q, es, ep, hq, h2, h3, h4, _, h5⟩ := dd'
  refine d_write I (by rw [hD]; exact True.intro) hs ⟨q, hq⟩ ⟨hl, hd, _, (rel.put k eb rv).keeps fun c ys ec => ?_, q, es, ep, hq, h2, h3, h4, h5⟩
  rw [upd_ne (ne_of ec hD (fun z => nomatch z))]
  exact ec
section
variable {X : Cx}
def tDcT (wi : TI) (g : TG) (tt : TT) (tk tv : TE) (vs : List Nat) : TE := fun σ H Q => wi σ H fun J H1 => ∀ D, H1 D = none → ∃ W : Nat → Nat → Hp → Prop, (∃ m, W 0 m (upd H1 D (.dT []))) ∧ ∀ i m H, W i m H →
  (J.stop i H ∧ Q (.ref D) H) ∨ (J.go i H ∧ ∃ Nx : Hp → Prop, (∀ H', Nx H' → ∃ m', m' < m ∧ W (i + 1) m' H') ∧ ∀ x H', J.yld i H x H' → g x (wipe σ vs) H' fun σ2 H2 => wipe σ2 vs = wipe σ vs ∧ tt σ2 H2 fun b H3 =>
    if b = true then tk σ2 H3 fun y H4 => tv σ2 H4 fun z H5 => ∃ kvs k b, y = .ref b ∧ H5 b = some (.tup (k.map kV)) ∧ H5 D = some (.dT kvs) ∧ kvs.length < sizeLine ∧ Nx (upd H5 D (.dT (putK kvs k z))) else Nx H3)
theorem dcT_core {pins : List (Addr × Obj)} {s : Shared} {σ : L2.St} {H : Hp} {Q : VK} {kx vx tg iter : Expr} {ifs : List Expr} {scope : Scope} {own : List (Str × Nat)} {pos pos' : Pos} {wi : TI} {g : TG} {tt : TT} {tk tv : TE} {use : Option (Value → Sem Unit)} {Qf : Value → Shared → Prop}
    (hu : X.A.units + 1 < cLine) (hc : X.calm = true) (hN : X.N.Nodup) (I : Inv X pins σ H s) (hi : PI X tg iter wi) (ok : BlkOk X.N X.env.scope scope own)
    (hg : ∀ (s : Shared) (H : Hp) (C : Addr) (cl : List (Str × Addr)) (fp : List Addr), PG (X.blk s H scope (compEnvC scope cl C X.env) fp) tg g) (ht : ∀ (s : Shared) (H : Hp) (C : Addr) (cl : List (Str × Addr)) (fp : List Addr), PTs (X.blk s H scope (compEnvC scope cl C X.env) fp) ifs tt)
    (hk : ∀ (s : Shared) (H : Hp) (C : Addr) (cl : List (Str × Addr)) (fp : List Addr), PE (X.blk s H scope (compEnvC scope cl C X.env) fp) kx tk)
    (he : ∀ (s : Shared) (H : Hp) (C : Addr) (cl : List (Str × Addr)) (fp : List Addr), PE (X.blk s H scope (compEnvC scope cl C X.env) fp) vx tv) (hs : ∀ x, foldedSetIterable iter X.env x = pure x)
    (h : tDcT wi g tt tk tv (own.map (·.2)) σ H Q)
    (hRR : ∀ D C s' m H', Inv X pins σ H' s' → Q (.ref D) H' → s'.heap.Ns C m → FpOk X pins H' C → compPost (model X.prog X.w) X.A X.xe use Qf (.ref D) C (.ok .next) s') :
    wpAny (model X.prog X.w) X.A (comprehension (.DictComp kx vx [⟨tg, iter, ifs, 0⟩] scope pos) scope X.env pos' newDict false (eval iter X.env) use) Qf X.xe s := by
  have hfree : ∀ y ∈ scope.names, y.2 = .free → ∃ c, X.env.cells.lookup y.1 = some c := fun y hy e => by
    rcases ok.free y hy e with k | k
    · exact I.ok.has _ (.inl k)
    · exact I.ok.has _ (.inr k)
  refine wpAny_comprehension_free (use := use) rfl hs (closure_ok hfree) ok.kind (fun y hy e => by rw [ok.uniq y hy, e])
    (thn (hi.run pins s σ H _ I h) fun xv s1 hx => thn hx fun itv s2 h2 => ?_)
  obtain ⟨it, fp, tn, J, H2, e, I2, T, st2, f2, q⟩ := h2
  subst e
  refine wpAny_newObj_type (newEnv_comp ?_)
  generalize hD : s2.heap.objs.size = D
  have hDn : H2 D = none := I2.hok.fresh (Nat.le_of_eq hD)
  obtain ⟨W, ⟨m0, w0⟩, turn⟩ := q D hDn
  -- the new list
  generalize hs3 : ({ s2 with heap := s2.heap.push { cls := .type "dict", data := .dict #[] } } : Shared) = s3
  have I3 : Inv X pins σ (upd H2 D (.dT [])) s3 := by
    rw [← hs3]
    refine I2.laid (t' := s2.toks) (fun b o e => Heap.get?_push_of_some _ e) (Nat.le_of_eq hD) ?_
    rw [← hD]
    exact dt_empty s2.heap I2.big
  have h3 : s3.heap = s2.heap.push { cls := .type "dict", data := .dict #[] } := by rw [← hs3]
  have sz : ∀ b ∈ fp, b < s2.heap.objs.size := fun b hb => by
    obtain ⟨o, e, _⟩ := T.obj _ _ st2 b hb
    exact Heap.lt_size e
  have f3 : ∀ b ∈ fp, FpOk X pins (upd H2 D (.dT [])) b ∧ b < s3.heap.objs.size := fun b hb => by
    have hlt := sz b hb
    refine ⟨⟨?_, (f2 b hb).2⟩, by rw [h3, Heap.size_push]; exact Nat.lt_succ_of_lt hlt⟩
    rw [upd_ne (by rw [← hD]; exact Nat.ne_of_lt hlt)]
    exact (f2 b hb).1
  have st3 : tn 0 s3.heap := T.keep _ _ _ st2 fun b _ o e => by rw [h3]; exact Heap.get?_push_of_some _ e
  have I4 := block_start I3 ok hN f3
  have pg := hg s3 (upd H2 D (.dT [])) s3.heap.objs.size (cellsFrom (s3.heap.objs.size + 1) scope.names (cloFrom X.env.cells scope.names [])) fp
  have pt := ht s3 (upd H2 D (.dT [])) s3.heap.objs.size (cellsFrom (s3.heap.objs.size + 1) scope.names (cloFrom X.env.cells scope.names [])) fp
  have pk := hk s3 (upd H2 D (.dT [])) s3.heap.objs.size (cellsFrom (s3.heap.objs.size + 1) scope.names (cloFrom X.env.cells scope.names [])) fp
  have pe := he s3 (upd H2 D (.dT [])) s3.heap.objs.size (cellsFrom (s3.heap.objs.size + 1) scope.names (cloFrom X.env.cells scope.names [])) fp
  show codeAny _ _ (.compStart (.DictComp kx vx [⟨tg, iter, ifs, 0⟩] scope pos) 0 (.ref it) (.ref D) (compEnvC scope (cellsFrom (s3.heap.objs.size + 1) scope.names (cloFrom X.env.cells scope.names [])) s3.heap.objs.size X.env)) (compPost (model X.prog X.w) X.A X.xe use Qf (.ref D) s3.heap.objs.size) { s3 with heap := pushCells (s3.heap.push { cls := .type "dict", data := .dict #[] }) scope.names }
  have nfp : ∀ b ∈ fp, (upd H2 D (.dT [])) b = none := fun b hb => (f3 b hb).1.1
  generalize hce : compEnvC scope (cellsFrom (s3.heap.objs.size + 1) scope.names (cloFrom X.env.cells scope.names [])) s3.heap.objs.size X.env = ce at I4 pg pt pk pe ⊢
  have cL : ce.locals = s3.heap.objs.size := by subst hce; rfl
  generalize hH3 : upd H2 D (.dT []) = H3 at I3 I4 pg pt pk pe w0 nfp f3
  generalize hs4 : ({ s3 with heap := pushCells (s3.heap.push { cls := .type "dict", data := .dict #[] }) scope.names } : Shared) = s4 at I4 ⊢
  have st4 : tn 0 s4.heap := T.keep _ _ _ st3 fun b _ o e => by rw [← hs4]; exact pushCells_keeps _ _ _ _ (Heap.get?_push_of_some _ e)
  have stat : ∀ {σ' : St} {H' : Hp} {s' : Shared}, Inv (X.blk s3 H3 scope ce fp) [] σ' H' s' → (∀ b ∈ fp, H' b = none) → ∀ b ∈ fp, FpOk (X.blk s3 H3 scope ce fp) [] H' b := fun {σ' H' s'} I' hn b hb =>
    ⟨hn b hb, (I'.ok.exf b hb).1, I'.ok.exfs b hb, .inl hb, fun x c e => (I'.ok.exf b hb).2 x c e, fun p hp => absurd (show p ∈ ([] : List (Addr × Obj)) ++ [] from hp) (by simp)⟩
  have loop : codeAny (model X.prog X.w) X.A (.compLoop (.DictComp kx vx [⟨tg, iter, ifs, 0⟩] scope pos) 0 (.ref it) (.ref D) ce) (compPost (model X.prog X.w) X.A X.xe use Qf (.ref D) s3.heap.objs.size) s4 := by
    refine compLoop_anyD (fun n s' => ∃ i H', Inv (X.blk s3 H3 scope ce fp) [] (wipe σ (own.map (·.2))) H' s' ∧ tn i s'.heap ∧ (∀ b ∈ fp, H' b = none) ∧ W i n H') ?_ m0 ⟨0, H3, I4, st4, nfp, w0⟩
    rintro n s5 ⟨i, H5, I5, st5, n5, w5⟩
    rcases turn i n H5 w5 with ⟨stop, qq⟩ | ⟨go, Nx, hNx, step⟩
    · have td := T.done (X.blk s3 H3 scope ce fp) rfl rfl rfl hc i [] s5 _ H5 (fun _ _ => False) I5 (stat I5 n5) st5 stop
      refine thnF td fun r s6 ⟨hr, I6⟩ => ?_
      subst hr
      -- back in the def's context
      have I7 : Inv X pins σ H5 s6 := I3.call' (ch := fp) I6.os I6.base I6.hok I6.bare fun b hb => ⟨(f3 b hb).1.2.2.2.1, (f3 b hb).1.2.1, (f3 b hb).1.2.2.2.2.1, (f3 b hb).1.2.2.2.2.2⟩
      have nC : H5 s3.heap.objs.size = none := by
        have z : H5 ce.locals = none := I6.free
        rw [cL] at z
        exact z
      obtain ⟨m, hn, _⟩ := I6.loc
      have hn : s6.heap.Ns ce.locals m := hn
      rw [cL] at hn
      exact hRR D s3.heap.objs.size s6 m H5 I7 qq hn (I3.fpOk (Nat.le_refl _) nC)
    · have ti := T.item (X.blk s3 H3 scope ce fp) rfl rfl rfl hc i [] s5 _ H5 (fun _ _ => False) I5 (stat I5 n5) st5 go
      refine thnF ti fun r s6 ⟨u, hr, h6⟩ => ?_
      subst hr
      refine thnF h6 fun _ s7 ⟨x, H7, I7, r7, y7, st7, n7⟩ => ?_
      have I7' := I7.pinned (stat I7 n7) (T.obj _ _ st7)
      refine thnF (pg.run _ s7 _ H7 x u _ I7' r7 (step x H7 y7)) fun _ s8 ⟨σ8, H8, I8, hw8, q8⟩ => ?_
      refine thnF (pt.run _ s8 σ8 H8 _ I8 q8) fun b s9 ⟨H9, I9, q9⟩ => ?_
      -- the turn's end
      have fin : ∀ {s' : Shared} {H' : Hp}, Inv (X.blk s3 H3 scope ce fp) ([] ++ pinsAt fp s7.heap) σ8 H' s' → Nx H' → ∃ m, m < n ∧ ∃ i H', Inv (X.blk s3 H3 scope ce fp) [] (wipe σ (own.map (·.2))) H' s' ∧ tn i s'.heap ∧ (∀ b ∈ fp, H' b = none) ∧ W i m H' := fun {s' H'} I' nx => by
        obtain ⟨m', hm, w'⟩ := hNx H' nx
        have pin' : ∀ b ∈ fp, ∀ o, s7.heap.get? b = some o → s'.heap.get? b = some o ∧ H' b = none := fun b hb o e =>
          let z := I'.pin (b, o) (List.mem_append_right _ (List.mem_append_right _ (mem_pinsAt hb e)))
          ⟨z.1, z.2.1⟩
        have hl : (wipe σ (own.map (·.2))).length = σ8.length := by rw [← hw8, wipe_length]
        refine ⟨m', hm, i + 1, H', (I'.unpinned (pins := [])).weak hl (fun j v e => ?_), T.keep _ _ _ st7 fun b hb o e => (pin' b hb o e).1, fun b hb => ?_, w'⟩
        · rw [← hw8] at e
          exact (wipe_some e).1
        · obtain ⟨o, e, _⟩ := T.obj _ _ st7 b hb
          exact (pin' b hb o e).2
      cases b with
      | false =>
        simp only [Bool.false_eq_true, if_false] at q9 ⊢
        exact fin I9 q9
      | true =>
        simp only [if_true] at q9 ⊢
        refine thnF (pk.run _ s9 σ8 H9 _ I9 q9) fun z s10 ⟨yk, H10, I10, r10, q10⟩ => ?_
        refine thnF (pe.run _ s10 σ8 H10 _ I10 q10) fun z2 s11 ⟨yv, H11, I11, r11, kvs, k, bk, ek, eb, hD11, hz11, nx⟩ => ?_
        subst ek
        exact d_dictSetT (X := X.blk s3 H3 scope ce fp) hu I11 hD11 hz11 eb r10 r11 fun s12 I12 => fin I12 nx
  exact codeAny_compStart_dict loop (T.self X.A 0 _ _ _ st4 loop)
end
end L2
namespace Sim
open PySem PySem.Spec PyProof.Rows L2
open Rp (rep)
open At1 (toV)
open K1 (key)
open KT (keys)
open Ow (own)
open RpA (repA stoA)
def cTN (Γ : Gm) (B : Bs) (ρ : Sto) {κ α : Type} [KT κ] [Rp α] (m : Option (List (κ × α))) : TE := fun σ H Q => ∃ G xs, At Γ B ρ G H σ ∧ m = some xs ∧ ∀ p vs G1 H1, Grow G H G1 H1 → H1 p = none → RpT Γ G1 vs xs → Q (.ref p) (upd H1 p (.dT vs))
/-- a dict comprehension over a walk -/
theorem dcT_it {J : It} {n : Nat} {G : Hp → Prop} {Y : Nat → Hp → V → Hp → Prop} (w : Walk J n G Y) {g : TG} {tt : TT} {tk tv : TE} {vs : List Nat} {σ : L2.St} {H1 : Hp} {D : Addr} {Qd : Hp → Prop} (Pv : Nat → Hp → Prop) (h0 : Pv 0 (upd H1 D (.dT []))) (hG : ∀ i H, i ≤ n → Pv i H → G H)
    (hs : ∀ i x H H', i < n → Pv i H → Y i H x H' → g x (wipe σ vs) H' fun σ2 H2 => wipe σ2 vs = wipe σ vs ∧ tt σ2 H2 fun b H3 =>
      if b = true then tk σ2 H3 fun y H4 => tv σ2 H4 fun z H5 => ∃ kvs k b, y = .ref b ∧ H5 b = some (.tup (k.map kV)) ∧ H5 D = some (.dT kvs) ∧ kvs.length < sizeLine ∧ Pv (i + 1) (upd H5 D (.dT (putK kvs k z))) else Pv (i + 1) H3) (hd : ∀ H, Pv n H → Qd H) :
    ∃ W : Nat → Nat → Hp → Prop, (∃ m, W 0 m (upd H1 D (.dT []))) ∧ ∀ i m H, W i m H →
      (J.stop i H ∧ Qd H) ∨ (J.go i H ∧ ∃ Nx : Hp → Prop, (∀ H', Nx H' → ∃ m', m' < m ∧ W (i + 1) m' H') ∧ ∀ x H', J.yld i H x H' → g x (wipe σ vs) H' fun σ2 H2 => wipe σ2 vs = wipe σ vs ∧ tt σ2 H2 fun b H3 =>
        if b = true then tk σ2 H3 fun y H4 => tv σ2 H4 fun z H5 => ∃ kvs k b, y = .ref b ∧ H5 b = some (.tup (k.map kV)) ∧ H5 D = some (.dT kvs) ∧ kvs.length < sizeLine ∧ Nx (upd H5 D (.dT (putK kvs k z))) else Nx H3) := by
  refine ⟨fun i m H => m = n - i ∧ i ≤ n ∧ Pv i H, ⟨n, rfl, Nat.zero_le _, h0⟩, fun i m H ⟨em, hi, p⟩ => ?_⟩
  by_cases hl : i < n
  · exact .inr ⟨w.goes i H hl (hG i H hi p), Pv (i + 1), fun H' p' => ⟨n - (i + 1), by omega, rfl, hl, p'⟩, fun x H' y => hs i x H H' hl p (w.yields i H x H' hl (hG i H hi p) y)⟩
  · obtain rfl : i = n := by omega
    exact .inl ⟨w.stops H (hG i H hi p), hd H p⟩
theorem ps_setDcTT {X : Cx} {i : Nat} {y : Str} {py : Pos} {kx vx tg iter : Expr} {ifs : List Expr} {scope : Scope} {own : List (Str × Nat)} {pos spos : Pos} {wi : TI} {g : TG} {tt : TT} {tk tv : TE} (hu : X.A.units + 1 < cLine) (hc : X.calm = true) (hN : X.N.Nodup) (hy : X.N[i]? = some y) (hyl : X.env.scope.names.lookup y = some .local)
    (hsw : swapsWith (.DictComp kx vx [⟨tg, iter, ifs, 0⟩] scope pos) (some (.Name y py)) spos.line X.env = pure true) (hi : PI X tg iter wi) (ok : BlkOk X.N X.env.scope scope own)
    (hg : ∀ (s : Shared) (H : Hp) (C : Addr) (cl : List (Str × Addr)) (fp : List Addr), PG (X.blk s H scope (compEnvC scope cl C X.env) fp) tg g) (ht : ∀ (s : Shared) (H : Hp) (C : Addr) (cl : List (Str × Addr)) (fp : List Addr), PTs (X.blk s H scope (compEnvC scope cl C X.env) fp) ifs tt)
    (hk : ∀ (s : Shared) (H : Hp) (C : Addr) (cl : List (Str × Addr)) (fp : List Addr), PE (X.blk s H scope (compEnvC scope cl C X.env) fp) kx tk)
    (he : ∀ (s : Shared) (H : Hp) (C : Addr) (cl : List (Str × Addr)) (fp : List Addr), PE (X.blk s H scope (compEnvC scope cl C X.env) fp) vx tv) (hs : ∀ x, foldedSetIterable iter X.env x = pure x := by intro _; rfl) :
    PS X (.Assign [.Name y py] (.DictComp kx vx [⟨tg, iter, ifs, 0⟩] scope pos) spos) (tAsg (tDcT wi g tt tk tv (own.map (·.2))) (gName i)) := by
  refine ⟨fun pins s σ H D I h => ?_⟩
  rw [exec_Assign_Name_used _ _ _ _ hsw]
  refine wpAny_bind (wpAny_standAt (wpAny_bind ?_))
  show wpAny _ X.A (do
    let _ ← comprehension (.DictComp kx vx [⟨tg, iter, ifs, 0⟩] scope pos) scope X.env (firstIterPos [⟨tg, iter, ifs, 0⟩] pos) newDict false (eval iter X.env) (some (assign (.Name y py) X.env))) _ _ s
  have h2 : tDcT wi g tt tk tv (own.map (·.2)) σ H (fun x H1 => gName i x σ H1 D.nx) := h
  refine wpAny_bind (thn (dcT_core hu (Qf := fun _ s2 => SP X pins D .next s2) hc hN I hi ok hg ht hk he hs h2 fun L C s2 m H2 I2 q hn f => ?_) fun _ s2 hq => wpAny_pure (wpAny_pure hq))
  show wpAny _ _ (assign (.Name y py) X.env (.ref L)) _ _ _
  obtain ⟨f0, f1, f2, f3, f4, f5⟩ := f
  refine wpAny_assign_Name (store_ok2 (v := V.ref L) I2 hN hy (.inl hyl) rfl (fun s4 I4 ⟨a, sb, ha⟩ => ?_) (.inr hyl))
  have hne : C ≠ a := by
    rcases ha with z | z
    · rw [z]; exact f1
    · exact fun e => f4 y a z e.symm
  exact ⟨m, hn.sameBut sb hne, fun h5 sb5 => ⟨_, H2, I4.turned (t' := s4.toks) (fun b o hb e => (sb5.2 b hb).trans e) f0 f1 f3 f4 f5, q⟩⟩
section
variable {X : Cx} {Γ : Gm} {B : Bs} {L β C : Type} [Rp β] {F : Kt L β C} {ρ ρ' : Sto} {N : List Str} {sc : Scope} {k : Nat} {fx : List Nat} {W : WX} {M : List Addr} {pos p p' p2 : Pos} {e a b o tg it elt kx vx : Expr} {es : List Expr} {S : Type} {sto : S → Sto}
variable {α γ κ : Type} [Rp α] [Rp γ] [KT κ] [Rp κ] [TKey κ] [DecidableEq κ]
theorem dcT_sim {i : Nat} {mxs : Option (List α)} {t : α → Option Bool} {fk : α → Option κ} {fv : α → Option γ} (hf : i ∉ B.fx) (hρ : i < ρ.length) {σ : L2.St} {H : Hp} {Q : VK} (h : cTN Γ B ρ (mxs.bind (dcB t fk fv)) σ H Q) :
    tDcT (cI Γ B ρ mxs) (gName i) (fun σ H Q => ∃ a, cT Γ B (ρ.set i (vl a)) (t a) σ H Q) (fun σ H Q => ∃ a, cE Γ B (ρ.set i (vl a)) (fk a) σ H Q) (fun σ H Q => ∃ a, cE Γ B (ρ.set i (vl a)) (fv a) σ H Q) [i] σ H Q := by
  obtain ⟨G, zs, A, e, q⟩ := h
  cases mxs with
  | none => cases e
  | some xs =>
    obtain ⟨hl, e⟩ : xs.length ≤ BIG ∧ dcM t fk fv [] xs = some zs := by
      have e : dcB t fk fv xs = some zs := e
      unfold dcB at e
      by_cases hc : xs.length ≤ BIG
      · rw [if_pos hc] at e; exact ⟨hc, e⟩
      · rw [if_neg hc] at e; cases e
    refine ⟨G, xs, A, rfl, fun J G' H' g ⟨Y, hw, hy⟩ D hD => ?_⟩
    have hGD : G' D = none := g.sub.none hD
    refine dcT_it (g := gName i) (tt := fun σ H Q => ∃ a, cT Γ B (ρ.set i (vl a)) (t a) σ H Q) (tk := fun σ H Q => ∃ a, cE Γ B (ρ.set i (vl a)) (fk a) σ H Q) (tv := fun σ H Q => ∃ a, cE Γ B (ρ.set i (vl a)) (fv a) σ H Q) (vs := [i]) (σ := σ) (Qd := fun H2 => Q (.ref D) H2) hw (fun j H2 => ∃ G1 vs ys, Grow G' H' G1 H2 ∧ G1 D = none ∧ H2 D = some (.dT vs) ∧ RpT Γ G1 vs ys ∧ ys.length ≤ j ∧ dcM t fk fv ys (xs.drop j) = some zs)
      ⟨G', [], [], Grow.newO g.sub hD _, hGD, upd_same, .nil, Nat.le_refl _, e⟩ (fun j H2 _ ⟨G1, vs, ys, g1, _⟩ => ⟨G1, g1.leG, g1.sub⟩) ?_ ?_
    · rintro j v H2 H3 hj ⟨G1, vs, ys, g1, hG1, hD1, r1, hl1, e1⟩ y
      obtain ⟨x0, G2, hx0, g2, rv⟩ := hy j H2 v H3 hj y G1 g1.leG g1.sub
      have ed : xs.drop j = x0 :: xs.drop (j + 1) := by
        obtain ⟨h1, h2⟩ := List.getElem?_eq_some_iff.mp hx0
        rw [List.drop_eq_getElem_cons h1, h2]
      rw [ed] at e1
      unfold dcM at e1
      have A2 := ((A.grow g).grow g1).grow g2
      have A3 : At Γ B (ρ.set i (vl x0)) G2 H3 ((σ.set i none).set i (some v)) := by
        have := (A2.wiped i hf).setV (i := i) (by simpa using hρ) rv hf
        simpa using this
      show wipe ((wipe σ [i]).set i (some v)) [i] = wipe σ [i] ∧ _
      refine ⟨wipe_set1, ?_⟩
      cases hb : t x0 with
      | none => rw [hb] at e1; cases e1
      | some b =>
        rw [hb] at e1
        refine ⟨x0, G2, b, A3, hb, fun G4 H4 g4 => ?_⟩
        cases b with
        | false =>
          have e1 : dcM t fk fv ys (xs.drop (j + 1)) = some zs := e1
          obtain ⟨z1, z2, z3⟩ := Grow.itemK (o' := .dT vs) g1 hD hG1 hD1 (g2.trans g4)
          exact ⟨G4, vs, ys, ⟨z1.leG, ((g1.trans g2).trans g4).leH, ((g1.trans g2).trans g4).sub, z1.thin⟩, z2, z3, r1.mono (g2.trans g4).leG, by omega, e1⟩
        | true =>
          have e1 : (fk x0).bind (fun y => (fv x0).bind fun z => dcM t fk fv (put ys y z) (xs.drop (j + 1))) = some zs := e1
          cases hfk : fk x0 with
          | none => rw [hfk] at e1; cases e1
          | some y =>
            cases hfv : fv x0 with
            | none => rw [hfk, hfv] at e1; cases e1
            | some z =>
              rw [hfk, hfv] at e1
              have e1 : dcM t fk fv (put ys y z) (xs.drop (j + 1)) = some zs := e1
              refine ⟨x0, G4, y, A3.grow g4, hfk, fun wk G5 H5 g5 r5 => ⟨x0, G5, z, A3.grow (g4.trans g5), hfv, fun wv G6 H6 g6 r6 => ?_⟩⟩
              have gg := ((g2.trans g4).trans g5).trans g6
              obtain ⟨z1, z2, z3⟩ := Grow.itemK (o' := .dT (putK vs (keys y) wv)) g1 hD hG1 hD1 gg
              have hvl : vs.length = ys.length := Paired.length r1
              have hb1 : xs.length ≤ 1000000 := hl
              obtain ⟨tb, te1, te2⟩ := TKey.tup r5
              refine ⟨vs, keys y, tb, te1, g6.leH _ _ (g5.sub.tup te2), z3, big_lt (show vs.length ≤ 1000000 by omega), G6, _, put ys y z, z1, z2, upd_same, (r1.mono gg.leG).put r6, ?_, e1⟩
              have := put_len ys y z
              omega
    · rintro H2 ⟨G1, vs, ys, g1, hG1, hD1, r1, _, e1⟩
      rw [List.drop_length] at e1
      have e1 : some ys = some zs := e1
      have e1 := Option.some.inj e1
      subst e1
      have := q D vs G1 (hideD H2 D) (g.trans (g1.hide hD hG1)) (if_pos rfl) r1
      rw [upd_hide hD1] at this
      exact this
theorem xp_setDtN (d : Dok X Γ B N sc k fx W M) {x y : Str} {px py : Pos} {i j : Nat} {ifs : List Expr} {scope sc' : Scope} {p : Pos} {mxs : Option (List α)} {t : α → Option Bool} {fk : α → Option κ} {fv : α → Option γ} (hj : N[j]? = some y) (hyl : sc.names.lookup y = some .local) (hsw : ((if sc.kind.isAnnotationScope then ScopeKind.function else sc.kind) == .function && sc.names.lookup y == some .local && py.line == p.line && !(scope.names.any fun (n, k) => n == y && (k == .local || k == .cell))) = true) (hi : XI X Γ B ρ (.Name x px) it mxs) (hsc : relS scope sc = sc') (hB : blkC N sc scope [(x, i)] = true) (hx : N[i]? = some x) (hxl : scope.names.lookup x = some .local) (hxl' : sc'.names.lookup x = some .local)
    (ht : ∀ X', Cok X' Γ N sc' k → ∀ a : α, PTs X' ifs (cT Γ B (ρ.set i (vl a)) (t a)))
    (hk : ∀ X', Cok X' Γ N sc' k → ∀ a : α, XE X' Γ B (ρ.set i (vl a)) kx (fk a))
    (he : ∀ X', Cok X' Γ N sc' k → ∀ a : α, XE X' Γ B (ρ.set i (vl a)) vx (fv a)) (hs : ∀ x, foldedSetIterable it X.env x = pure x := by intro _; rfl) (hρ : Nat.ble (i + 1) ρ.length = true := by rfl) (hfc : fx.contains i = false := by rfl) (hρ2 : Nat.ble (j + 1) ρ.length = true := by rfl) (hf2 : fx.contains j = false := by rfl) :
    XP1 X Γ B ρ (.Assign [.Name y py] (.DictComp kx vx [⟨.Name x px, it, ifs, 0⟩] scope p) pos) (mxs.bind (dcB t fk fv)) (fun z => ρ.set j (ow (OT.mk z))) := by
  have cb : ∀ (s : Shared) (H : Hp) (C : Addr) (cl : List (Str × Addr)) (fp : List Addr), Cok (X.blk s H scope (compEnvC scope cl C X.env) fp) Γ N sc' k := fun s H C cl fp => d.toCok.blk hsc
  exact imS (ps_setDcTT d.hu (own := [(x, i)]) (g := gName i) (tt := fun σ H Q => ∃ a, cT Γ B (ρ.set i (vl a)) (t a) σ H Q) (tk := fun σ H Q => ∃ a, cE Γ B (ρ.set i (vl a)) (fk a) σ H Q) (tv := fun σ H Q => ∃ a, cE Γ B (ρ.set i (vl a)) (fv a) σ H Q) d.calm (by rw [d.hN]; exact d.nd) (by rw [d.hN]; exact hj) (by rw [d.hsc]; exact hyl) ((sw_dc d.toCok).trans (by rw [hsw])) hi (by rw [d.hN, d.hsc]; exact blkOk_by hB)
    (fun s H C cl fp => pg_name (i := i) (by rw [(cb s H C cl fp).hN]; exact d.nd) (by rw [(cb s H C cl fp).hN]; exact hx) (by rw [(cb s H C cl fp).hsc]; exact .inl hxl') (.inr (by rw [(cb s H C cl fp).hsc]; exact hxl')))
    (fun s H C cl fp => ⟨fun pins s' σ H' Q I ⟨a, q⟩ => (ht _ (cb s H C cl fp) a).run pins s' σ H' Q I q⟩) (fun s H C cl fp => allE fun a => hk _ (cb s H C cl fp) a) (fun s H C cl fp => allE fun a => he _ (cb s H C cl fp) a) hs) fun D σ H ⟨G, s, A, e, q⟩ => dcT_sim (lc_pre hρ hfc d.hfx).1 (lc_pre hρ hfc d.hfx).2 (Q := fun v H1 => gName j v σ H1 D.nx) ⟨G, s, A, e, fun p vs G1 H1 g hp r => q G1 _ _ ((A.grow g).setN (Nat.le_of_ble_eq_true hρ2) hp ⟨p, vs, rfl, rfl, upd_same, r⟩ (lc_pre hρ2 hf2 d.hfx).1)⟩
theorem xp_setDt (d : Dok X Γ B N sc k fx W M) {x y : Str} {px py : Pos} {i j : Nat} {ifs : List Expr} {scope sc' : Scope} {p : Pos} {mxs : Option (List α)} {t : α → Option Bool} {fk : α → Option κ} {fv : α → Option γ} (hj : N[j]? = some y) (hyl : sc.names.lookup y = some .local) (hsw : ((if sc.kind.isAnnotationScope then ScopeKind.function else sc.kind) == .function && sc.names.lookup y == some .local && py.line == p.line && !(scope.names.any fun (n, k) => n == y && (k == .local || k == .cell))) = true) (hi : XI X Γ B ρ (.Name x px) it mxs) (hsc : relS scope sc = sc') (hB : blkC N sc scope [(x, i)] = true) (hx : N[i]? = some x) (hxl : scope.names.lookup x = some .local) (hxl' : sc'.names.lookup x = some .local)
    (ht : ∀ X', Cok X' Γ N sc' k → ∀ a : α, PTs X' ifs (cT Γ B (ρ.set i (vl a)) (t a)))
    (hk : ∀ X', Cok X' Γ N sc' k → ∀ a : α, XE X' Γ B (ρ.set i (vl a)) kx (fk a))
    (he : ∀ X', Cok X' Γ N sc' k → ∀ a : α, XE X' Γ B (ρ.set i (vl a)) vx (fv a)) (hs : ∀ x, foldedSetIterable it X.env x = pure x := by intro _; rfl) (hρ : Nat.ble (i + 1) ρ.length = true := by rfl) (hfc : fx.contains i = false := by rfl) (hρ2 : Nat.ble (j + 1) ρ.length = true := by rfl) (hf2 : fx.contains j = false := by rfl) :
    XP1 X Γ B ρ (.Assign [.Name y py] (.DictComp kx vx [⟨.Name x px, it, ifs, 0⟩] scope p) pos) (mxs.bind (dcB t fk fv)) (fun z => ρ.set j (vl (DT.mk z))) := by
  have h := xp_setDtN (α := α) (γ := γ) d (kx := kx) (vx := vx) (pos := pos) hj hyl hsw hi hsc hB hx hxl hxl' ht hk he hs hρ hfc hρ2 hf2
  refine imS (lkS' h) fun D σ H ⟨G, s, A, e, q⟩ => ⟨G, s, A, e, fun G' H' σ' A' => ?_⟩
  have hx : (ρ.set j (ow (OT.mk s)))[j]? = some (ow (OT.mk s)) := by rw [List.getElem?_set_self (Nat.le_of_ble_eq_true hρ2)]
  refine (At.freeze A' hx rfl).mono fun H2 ⟨G2, l2, A2⟩ => ?_
  rw [List.set_set] at A2
  exact q G2 H2 σ' A2
end
end Sim

set_option Elab.async false
set_option autoImplicit false
set_option linter.all false
set_option maxRecDepth 100000
set_option maxHeartbeats 1000000
namespace Sim
open PySem L2
open Rp (rep)
open At1 (toV)
open Ow (own)
open RpA (repA stoA)
/-- xs.insert(i, y) -/
@[irreducible] def pins {α : Type} (xs : List α) (i : Int) (y : α) : Option (List α) := if xs.length + 1 ≤ BIG ∧ 0 ≤ i ∧ i.natAbs < 1073741824 then some (xs.take i.toNat ++ [y] ++ xs.drop i.toNat) else none
section
variable {X : Cx} {Γ : Gm} {B : Bs} {ρ : Sto} {N : List Str} {sc : Scope} {k : Nat} {fx : List Nat} {W : WX} {M : List Addr} {pos p p' p2 : Pos} {e a : Expr} {α : Type} [Rp α]
theorem xp_insert (d : Dok X Γ B N sc k fx W M) {mi : Option Int} {m : Option α} {x : Str} (i : Nat) {xs : List α} {apos cpos : Pos} (hi : ρ[i]? = some (ow (OL.mk xs))) (hN : N[i]? = some x) (hv : Vis sc x) (ha : XE X Γ B ρ a mi) (he : XE X Γ B ρ e m) (hd : (x == ("__debug__" : Str)) = false := by decide) (hcd : (x == ("__classdict__" : Str)) = false := by decide)
    (hfew : ((backTo cpos (starEach [a, e] X.env)).all (fun x => !x.1) && (backToKw cpos (keywordEach [] X.env)).all (fun x => x.1.isSome)
      && decide ([a, e].length + ([] : List Keyword).length + (if ([] : List Keyword).isEmpty then 0 else 1) < 30)) = true := by rfl)
    (hline : (apos.endLine == cpos.line) = true := by rfl) (hs : starEach [a, e] X.env = (false, eval a X.env) :: starEach [e] X.env := by rfl) (hs2 : starEach [e] X.env = (false, eval e X.env) :: starEach [] X.env := by rfl) (hpl : (backTo cpos (starEach [e] X.env)).any (·.1) = false := by rfl) (hw : swapsWith (.Call (.Attribute (.Name x p) "insert" apos) [a, e] [] cpos) none pos.line X.env = pure false := by rfl) :
    XP1 X Γ B ρ (.Expr (.Call (.Attribute (.Name x p) "insert" apos) [a, e] [] cpos) pos) (mi.bind fun n => m.bind fun y => pins xs n y) (fun ys => ρ.set i (ow (OL.mk ys))) :=
  imS (ps_expr (pe_bm PySem.F.plainAttrs_list PySem.F.slot_list_insert PySem.F.type_list_insert mt_insert (pv_ d.toCok hN hv hd hcd) (pa_cons ha (pa_cons he pa_nil hs2) hs) (by rfl) hfew hline hs hpl) hw) fun D σ H ⟨G, s, A, e, q⟩ => by
  cases mi with
  | none => cases e
  | some n =>
    cases m with
    | none => cases e
    | some y =>
      obtain ⟨⟨hl, h0, hb⟩, e⟩ := ite_some (by have qq : pins xs n y = some s := e; unfold pins at qq; exact qq)
      subst e
      obtain ⟨v, fp, h1, ⟨p, vs, rfl, h3, h4, h5⟩, h6⟩ := A.getO hi
      have hlen : vs.length = xs.length := h5.length
      refine ⟨.ref p, h1, .inl ⟨rfl, vs, SqL.of h4⟩, G, n, A, rfl, fun u G1 H1 g1 r1 => ⟨G1, y, A.grow g1, rfl, fun w G2 H2 g2 r2 => ?_⟩⟩
      have g := g1.trans g2
      refine ⟨p, vs, n, w, rfl, by rw [rep1 r1]; rfl, g.leH _ _ h4, by rw [hlen]; exact big_lt (by omega), h0, by omega, ?_⟩
      exact q G2 _ σ ((A.grow g).setL hi h1 ((((h5.mono g.leG).take _).append (.cons r2 .nil)).append ((h5.mono g.leG).drop _)))
end
end Sim

set_option Elab.async false
set_option autoImplicit false
set_option linter.all false
set_option maxRecDepth 100000
set_option maxHeartbeats 1000000
namespace Sim
open PySem L2
open Rp (rep)
open At1 (toV)
open Ow (own)
open RpA (repA stoA)
def bInt (b : Bool) : Int := if b then 1 else 0
/-- the greatest of a list -/
def maxL (xs : List Int) : Option Int := match xs with
  | [] => none
  | x :: r => some (r.foldl max x)
theorem foldl_max : ∀ (r : List Int) (x : Int), (r.foldl max x = x ∨ r.foldl max x ∈ r) ∧ x ≤ r.foldl max x ∧ ∀ y ∈ r, y ≤ r.foldl max x
  | [], x => ⟨.inl rfl, Int.le_refl _, fun y hy => by simp at hy⟩
  | z :: r, x => by
    obtain ⟨h1, h2, h3⟩ := foldl_max r (max x z)
    rw [List.foldl_cons]
    refine ⟨?_, by omega, fun y hy => ?_⟩
    · rcases h1 with h | h
      · rw [h]
        by_cases q : x ≤ z
        · right; rw [show max x z = z by omega]; simp
        · left; omega
      · right; simp [h]
    · rcases List.mem_cons.mp hy with e | e
      · rw [e]; omega
      · exact h3 y e
theorem maxL_ok {xs : List Int} {m : Int} (h : maxL xs = some m) : m ∈ xs ∧ ∀ y ∈ xs, y ≤ m := by
  cases xs with
  | nil => cases h
  | cons x r =>
    obtain ⟨h1, h2, h3⟩ := foldl_max r x
    have e : r.foldl max x = m := Option.some.inj h
    rw [e] at h1 h2 h3
    refine ⟨?_, fun y hy => ?_⟩
    · rcases h1 with z | z
      · rw [z]; simp
      · simp [z]
    · rcases List.mem_cons.mp hy with z | z
      · rw [z]; exact h2
      · exact h3 y z
section
variable {X : Cx} {Γ : Gm} {B : Bs} {L β C : Type} [Rp β] {F : Kt L β C} {ρ ρ' : Sto} {N : List Str} {sc : Scope} {k : Nat} {fx : List Nat} {W : WX} {M : List Addr} {pos pos' p p' p2 : Pos} {e a b o tg it elt kx : Expr} {st : Stmt} {sts suite : List Stmt} {b₀ : Stmt} {es : List Expr} {S Sx : Type} {sto : S → Sto}
/-- int(b) of a truth value -/
theorem xe_intB (c : Cok X Γ N sc k) {m : Option Bool} (ha : XE X Γ B ρ a m) (hg : Glb sc "int") (hm : Γ.mg "int" = none) (s1 : starEach [a] X.env = (false, eval a X.env) :: starEach [] X.env := by rfl) : XE X Γ B ρ (.Call (.Name "int" p) [a] [] pos) (m.bind fun b => some (bInt b)) :=
  imE (pe_callTy call_int1 (c.gl hg) (by rw [c.hmg]; exact hm) (by decide +kernel) (pa_cons ha pa_nil s1) (he := s1)) fun σ H Q ⟨G, z, A, e, q⟩ => by
  cases m with
  | none => cases e
  | some b =>
    cases e
    exact ⟨G, b, A, rfl, fun v G1 H1 g1 r1 => .inr ⟨b, by rw [rep1 r1]; rfl, q _ G1 H1 g1 rfl⟩⟩
/-- max(xs) -/
theorem xe_maxL (c : Cok X Γ N sc k) {m : Option (List Int)} (ha : XR X Γ B ρ a m) (hg : Glb sc "max") (hm : Γ.mg "max" = none) (s1 : starEach [a] X.env = (false, eval a X.env) :: starEach [] X.env := by rfl) : XE X Γ B ρ (.Call (.Name "max" p) [a] [] pos) (m.bind maxL) :=
  imE (pe_callB (cr_max c.calm) (c.gl hg) (by rw [c.hmg]; exact hm) PyProof.Rows.boot_max (pa_cons ha pa_nil s1) (he := s1)) fun σ H Q ⟨G, z, A, e, q⟩ => by
  cases m with
  | none => cases e
  | some xs =>
    have e : maxL xs = some z := e
    obtain ⟨h1, h2⟩ := maxL_ok e
    refine ⟨G, xs, A, rfl, fun l vs G1 H1 g1 hp r1 => ⟨l, xs, rfl, SqL.of (by rw [← show vs = xs.map V.int from r1.toV]; exact hp), List.length_pos_of_mem h1, fun m' q1 q2 => ?_⟩⟩
    have : m' = z := by
      have a1 := h2 m' q1
      have a2 := q2 z h1
      omega
    rw [this]
    exact q _ G1 H1 g1 rfl
/-- try: .. except C: .. -/
theorem xb_tryOnly (d : Dok X Γ B N sc k fx W M) {cs : List Nat} (xs : ExS Γ cs) {stx : Sx → Sto} {mb : Option (Fl S L β (C ⊕ Sx))} {ms : Er → Sx → Option (Fl S L β C)} {x : Str} {j : Nat} (hx : ExT Γ x j) (hj : j ∈ cs) (hg : Glb sc x) (hfr : F.fr = false)
    (hb : ∀ (X' : Cx) (W' : WX), Dok X' Γ B N sc k fx W' M → XB X' Γ B (F.tr stx W') ρ sts mb sto)
    (hs : ∀ (X' : Cx) (a : Addr) (er : Er) (s : Sx), Hok X' Γ N sc k a er → hitN cs j er = true → XB X' Γ B F.su (stx s) (b₀ :: suite) (ms er s) sto)
    (hdb : (x == ("__debug__" : Str)) = false := by decide) :
    XB1 X Γ B F ρ (.Try sts [.ExceptHandler (some (.Name x p)) none (b₀ :: suite) pos'] [] [] pos) (tryM (hitN cs j) mb ms) sto := by
  refine imS (ps_try_only (Wout := W) (tb := fun W' => cS Γ B (F.tr stx W') ρ mb sto)
    (ts := fun a cls dd => fun D σ H => ∃ q : { q : Er × Sx // hitN cs j q.1 = true }, (cls = .ref (Γ.C q.1.1.cls) ∧ dd = none) ∧ cS Γ B F.su (stx q.1.2) (ms q.1.1 q.1.2) sto D σ H)
    d.stk d.frm ⟨d.gl hg, hdb, .inl (by rw [d.hmg]; exact hx.g)⟩ d.tk (fun W' pn xe tk pa => hb _ W' ⟨⟨d.hP, d.hw, d.hK, d.hmg, d.hbase, d.hN, d.nd, d.hsc, d.calm, d.room⟩, pa, d.hfn, tk, d.hfx, d.hM, d.stk, d.frm⟩) (fun a oe cls dd pn hz hfs => ?_)) fun D σ H ⟨G, r, A, e, q⟩ => ?_
  · refine ⟨fun pins s σ H D I h => ?_⟩
    obtain ⟨⟨⟨er, sx⟩, hh⟩, ⟨hc, hd⟩, h⟩ := h
    subst hc hd
    exact (hs (X.suite a ((a, oe) :: pn)) a er sx ⟨d.hP, d.hw, d.hK, d.hmg, d.hbase, d.hN, d.nd, d.hsc, ⟨X, oe, pn, none, rfl, hz, fun _ => rfl, hfs⟩⟩ hh).run pins s σ H D I h
  · refine ⟨G, ?_⟩
    cases hmb : mb with
    | none => rw [hmb] at e; cases e
    | some rb =>
      rw [hmb] at e
      refine ⟨rb, A, rfl, ?_⟩
      cases rb with
      | nx s => cases e; exact q
      | bk l => cases e; exact q
      | ct l => cases e; exact q
      | ret b c =>
        cases c with
        | inl c => cases e; exact q
        | inr x => cases e
      | err er c =>
        cases c with
        | inl c => cases e
        | inr sx =>
          have e : (if hitN cs j er = true then noErr (ms er sx) else none) = some r := e
          by_cases hh : hitN cs j er = true
          · rw [if_pos hh] at e
            obtain ⟨e, hne⟩ := noErr_some e
            have h7 : er.cls ∈ cs ∧ He.subN er.cls j = true := by
              have hh : (decide (er.cls ∈ cs) && He.subN er.cls j) = true := hh
              simp at hh
              exact hh
            intro cls dd G' H' σ' A' ie
            have ic : cls = .ref (Γ.C er.cls) := ie.1
            have idd : dd = none := by
              have := ie.2
              rwa [if_neg (fun z : er.cls = 9 => xs.no9 (by rw [← z]; exact h7.1))] at this
            subst ic idd
            refine ⟨true, ?_, fun _ a ha => ⟨⟨(er, sx), hh⟩, ⟨rfl, rfl⟩, G', r, A', e, ?_⟩, fun z => by cases z⟩
            · have := xs.exm er.cls j h7.1 hj
              rw [h7.2] at this
              rw [d.hK]
              exact this
            · cases r with
              | nx s => exact q
              | bk l => exact q
              | ct l => exact q
              | ret b c => exact q
              | err e2 c2 => exact absurd rfl (hne e2 c2)
          · rw [if_neg hh] at e; cases e
end
end Sim

set_option Elab.async false
set_option autoImplicit false
set_option linter.all false
set_option maxRecDepth 100000
set_option maxHeartbeats 1000000
namespace Sim
open PySem L2
open Rp (rep)
open At1 (toV)
open Ow (own)
open RpA (repA stoA)
section
variable {X : Cx} {Γ : Gm} {B : Bs} {ρ : Sto} {N : List Str} {sc : Scope} {k j : Nat} {pos p p' : Pos} {e a b : Expr} {es : List Expr} {x y : Str} {α τ : Type} [Rp α] [RpA τ]
/-- a def that hands back a new list -/
theorem xn_callN [NoLs α] (c : Cok X Γ N sc k) {f : τ → Option (List α)} {mt : Option τ} (h : Cal Γ x j true f) (hk : j ≤ k) (hg : Glb sc x) (ha : XA X Γ B ρ (e :: es) mt) (hdb : (x == ("__debug__" : Str)) = false := by decide) (he : starEach (e :: es) X.env = (false, eval e X.env) :: starEach es X.env := by rfl) (hpl : (backTo pos (starEach es X.env)).any (·.1) = false := by rfl) :
    XN X Γ B ρ (.Call (.Name x p) (e :: es) [] pos) (mt.bind f) := by
  obtain ⟨a, fd, ps, F, hm, kp, bi⟩ := h.ex
  refine imE (pe_call (dvs := []) (CX := CX0) (E := E0) (by rw [c.hP, c.hw, c.hK, c.hmg, c.hbase]; exact F) (c.room.mono hk) (c.gl hg) (by rw [c.hmg]; exact hm) (by rw [c.hK]; exact kp) (by rw [c.hK]; exact bi) .nil pass0 ha hdb he hpl) fun σ H Q ⟨G, z, A, e, q⟩ => ?_
  cases mt with
  | none => cases e
  | some t =>
    refine ⟨G, t, A, rfl, fun vs G1 H1 g1 r1 => ?_⟩
    show specP Γ true f (vs ++ []) H1 Q E0
    rw [List.append_nil]
    refine ⟨G1, t, z, g1.sub, r1, e, fun v' G2 H2 g2 ⟨d, us, hv, hd, rl⟩ fr => ?_⟩
    subst hv
    have gg := g1.trans g2
    have hd1 : H1 d = none := fr rfl d rfl
    have hdH : H d = none := by
      cases q : H d with
      | none => rfl
      | some o => rw [g1.leH d o q] at hd1; cases hd1
    have gd : G d = none := A.sub.none hdH
    have hd2 : H2 d = some (.lst us) := g2.sub _ _ hd
    let H3 : Hp := fun a => if a = d then none else H2 a
    let G3 : Hp := fun a => if a = d then none else G2 a
    have e3 : H2 = upd H3 d (.lst us) := by
      funext a
      by_cases z : a = d
      · subst z; rw [upd_same, hd2]
      · rw [upd_ne z]; show H2 a = if a = d then none else H2 a
        rw [if_neg z]
    rw [e3]
    refine q d us G3 H3 ⟨fun a o ho => ?_, fun a o ho => ?_, fun a o ho => ?_, fun a ha hg => ?_⟩ (by show (if d = d then none else H2 d) = none; rw [if_pos rfl]) (Paired.mapP rl fun _ _ r => NoLs.nols hd r)
    · show (if a = d then none else G2 a) = some o
      rw [if_neg (fun z => by rw [z, gd] at ho; cases ho)]
      exact gg.leG _ _ ho
    · show (if a = d then none else H2 a) = some o
      rw [if_neg (fun z => by rw [z, hdH] at ho; cases ho)]
      exact gg.leH _ _ ho
    · have ho : (if a = d then none else G2 a) = some o := ho
      show (if a = d then none else H2 a) = some o
      by_cases z : a = d
      · rw [if_pos z] at ho; cases ho
      · rw [if_neg z] at ho ⊢
        exact g2.sub _ _ ho
    · show Th (H a) (if a = d then none else G2 a)
      by_cases z : a = d
      · rw [if_pos z]; exact .inl rfl
      · rw [if_neg z]; exact gg.thin a ha hg
end
end Sim

set_option Elab.async false
set_option autoImplicit false
set_option linter.all false
set_option maxRecDepth 100000
set_option maxHeartbeats 1000000
namespace Sim
open PySem L2
open Rp (rep)
open At1 (toV)
section
variable {X : Cx} {Γ : Gm} {B : Bs} {ρ ρ' : Sto} {N : List Str} {sc : Scope} {k : Nat} {fx : List Nat} {W : WX} {M : List Addr} {pos p p' p2 : Pos} {e a b o tg it elt : Expr} {es : List Expr} {S : Type} {sto : S → Sto}
variable {α β γ : Type} [Rp α] [Rp β] [Rp γ]
theorem RpL.rev {α : Type} [Rp α] {Γ : Gm} {G : Hp} : ∀ {vs : List V} {xs : List α}, RpL Γ G vs xs → RpL Γ G vs.reverse xs.reverse
  | _, _, .nil => .nil
  | _, _, .cons r s => by
    rw [List.reverse_cons, List.reverse_cons]
    exact RpL.append (RpL.rev s) (.cons r .nil)
/-- tuple(t) of a tuple of two -/
theorem xe_tupP (c : Cok X Γ N sc k) {m : Option (α × γ)} (ha : XE X Γ B ρ a m) (hg : Glb sc "tuple") (hm : Γ.mg "tuple" = none) (s1 : starEach [a] X.env = (false, eval a X.env) :: starEach [] X.env := by rfl) :
    XE X Γ B ρ (.Call (.Name "tuple" p) [a] [] pos) m := imE (pe_tupleOf (c.gl hg) (by rw [c.hmg]; exact hm) ha s1) fun σ H Q ⟨G, z, A, e, q⟩ => by
  subst e
  exact ⟨G, z, A, rfl, fun v G1 H1 g1 ⟨p, x, y, h1, h2, h3⟩ => .inr ⟨p, [x, y], by rw [h1], SqT.of (g1.sub.tup h2), q _ G1 H1 g1 ⟨p, x, y, rfl, h2, h3⟩⟩⟩
end
/-- b is True -/
theorem o_isB {Γ : Gm} : Op2 Γ (fun x y H Q => ∃ a b, x = V.bl a ∧ y = V.bl b ∧ Q (V.bl (decide (a = b))) H) fun (i j : Bool) => some (decide (i = j)) := op2_pure fun p q z H Q e k => ⟨p, q, rfl, rfl, by cases e; exact k⟩
theorem o_isnotB {Γ : Gm} : Op2 Γ (fun x y H Q => ∃ a b, x = V.bl a ∧ y = V.bl b ∧ Q (V.bl (!decide (a = b))) H) fun (i j : Bool) => some (!decide (i = j)) := op2_pure fun p q z H Q e k => ⟨p, q, rfl, rfl, by cases e; exact k⟩
section
variable {X : Cx} {Γ : Gm} {B : Bs} {ρ : Sto} {N : List Str} {sc : Scope} {k : Nat} {fx : List Nat} {W : WX} {M : List Addr} {pos p : Pos} {α : Type} [Rp α]
/-- xs.reverse() -/
theorem xp_reverse (d : Dok X Γ B N sc k fx W M) {x : Str} (i : Nat) {xs : List α} {apos cpos : Pos} (hi : ρ[i]? = some (ow (OL.mk xs))) (hN : N[i]? = some x) (hv : Vis sc x) (hd : (x == ("__debug__" : Str)) = false := by decide) (hcd : (x == ("__classdict__" : Str)) = false := by decide)
    (hline : (apos.endLine == cpos.line) = true := by rfl) (hw : swapsWith (.Call (.Attribute (.Name x p) "reverse" apos) [] [] cpos) none pos.line X.env = pure false := by rfl) :
    XP1 X Γ B ρ (.Expr (.Call (.Attribute (.Name x p) "reverse" apos) [] [] cpos) pos) (some xs.reverse) (fun ys => ρ.set i (ow (OL.mk ys))) :=
  imS (ps_expr (pe_bm0 PySem.F.plainAttrs_list PySem.F.slot_list_reverse PySem.F.type_list_reverse mt_reverse (pv_ d.toCok hN hv hd hcd) (by rfl) hline) hw) fun D σ H ⟨G, s, A, e, q⟩ => by
  cases e
  obtain ⟨v, fp, h1, ⟨p, vs, rfl, h3, h4, h5⟩, h6⟩ := A.getO hi
  refine ⟨.ref p, h1, .inl ⟨rfl, vs, SqL.of h4⟩, p, vs, rfl, rfl, h4, ?_⟩
  exact q G _ σ (A.setL hi h1 (RpL.rev h5))
end
end Sim

set_option Elab.async false
set_option autoImplicit false
set_option linter.all false
set_option maxRecDepth 100000
set_option maxHeartbeats 1000000
namespace Sim
open PySem L2
open Rp (rep)
open At1 (toV)
open Dat (toD)
/-! ### lists of two, of four things of their kinds -/
structure R2 (α β : Type) where
  a : α
  b : β
  deriving DecidableEq
structure R4 (α β γ δ : Type) where
  a : α
  b : β
  c : γ
  d : δ
  deriving DecidableEq
instance instRpR2 {α β : Type} [Rp α] [Rp β] : Rp (R2 α β) := ⟨fun Γ G v p => ∃ a x y, v = .ref a ∧ G a = some (.lst [x, y]) ∧ rep Γ G x p.a ∧ rep Γ G y p.b, fun e ⟨a, x, y, h1, h2, h3, h4⟩ => ⟨a, x, y, h1, e _ _ h2, Rp.mono e h3, Rp.mono e h4⟩⟩
instance instRpR4 {α β γ δ : Type} [Rp α] [Rp β] [Rp γ] [Rp δ] : Rp (R4 α β γ δ) := ⟨fun Γ G v p => ∃ a x y z t, v = .ref a ∧ G a = some (.lst [x, y, z, t]) ∧ rep Γ G x p.a ∧ rep Γ G y p.b ∧ rep Γ G z p.c ∧ rep Γ G t p.d, fun e ⟨a, x, y, z, t, h1, h2, h3, h4, h5, h6⟩ => ⟨a, x, y, z, t, h1, e _ _ h2, Rp.mono e h3, Rp.mono e h4, Rp.mono e h5, Rp.mono e h6⟩⟩
instance {α β : Type} [Rp α] [DecidableEq α] [Dat α] [Rp β] [DecidableEq β] [Dat β] : Dat (R2 α β) := ⟨fun p => .list [toD p.a, toD p.b], max (Dat.dep α) (Dat.dep β) + 1, fun ⟨a, x, y, h1, h2, h3, h4⟩ => by
    subst h1; exact .lst (SqL.of h2) (.cons (Dat.reads h3) (.cons (Dat.reads h4) .nil)), fun p => by simp only [PyData.canLay0, PyData.canLayAll0]; rw [Dat.lay p.a, Dat.lay p.b]; rfl, fun p => by
    simp only [PyData.depth, PyData.depthAll]
    have h1 := Dat.deep p.a
    have h2 := Dat.deep p.b
    omega, fun a b => by
    simp only [PyData.eqv, PyData.eqvAll, Bool.and_true]
    rw [Dat.eqv a.a b.a, Dat.eqv a.b b.b, ← Bool.decide_and]
    exact decide_eq_decide.mpr ⟨fun ⟨h1, h2⟩ => by cases a; cases b; cases h1; cases h2; rfl, fun h => by rw [h]; exact ⟨rfl, rfl⟩⟩⟩
instance {α β γ δ : Type} [Rp α] [DecidableEq α] [Dat α] [Rp β] [DecidableEq β] [Dat β] [Rp γ] [DecidableEq γ] [Dat γ] [Rp δ] [DecidableEq δ] [Dat δ] : Dat (R4 α β γ δ) := ⟨fun p => .list [toD p.a, toD p.b, toD p.c, toD p.d], max (Dat.dep α) (max (Dat.dep β) (max (Dat.dep γ) (Dat.dep δ))) + 1, fun ⟨a, x, y, z, t, h1, h2, h3, h4, h5, h6⟩ => by
    subst h1; exact .lst (SqL.of h2) (.cons (Dat.reads h3) (.cons (Dat.reads h4) (.cons (Dat.reads h5) (.cons (Dat.reads h6) .nil)))), fun p => by simp only [PyData.canLay0, PyData.canLayAll0]; rw [Dat.lay p.a, Dat.lay p.b, Dat.lay p.c, Dat.lay p.d]; rfl, fun p => by
    simp only [PyData.depth, PyData.depthAll]
    have h1 := Dat.deep p.a
    have h2 := Dat.deep p.b
    have h3 := Dat.deep p.c
    have h4 := Dat.deep p.d
    omega, fun a b => by
    simp only [PyData.eqv, PyData.eqvAll, Bool.and_true]
    rw [Dat.eqv a.a b.a, Dat.eqv a.b b.b, Dat.eqv a.c b.c, Dat.eqv a.d b.d, ← Bool.decide_and, ← Bool.decide_and, ← Bool.decide_and]
    exact decide_eq_decide.mpr ⟨fun ⟨h1, h2, h3, h4⟩ => by cases a; cases b; cases h1; cases h2; cases h3; cases h4; rfl, fun h => by rw [h]; exact ⟨rfl, rfl, rfl, rfl⟩⟩⟩
section
variable {X : Cx} {Γ : Gm} {B : Bs} {ρ ρ' : Sto} {N : List Str} {sc : Scope} {k : Nat} {fx : List Nat} {W : WX} {M : List Addr} {pos p p' : Pos} {e a b c d : Expr}
variable {α γ δ ε : Type} [Rp α] [Rp γ] [Rp δ] [Rp ε]
theorem xe_r2a {m : Option (R2 α γ)} {j : Nat} {p1 : Pos} (ha : XE X Γ B ρ a m) : XE X Γ B ρ (.Subscript a (.Constant (.int 0) j p1) pos) (m.bind fun t => some t.a) := imE (pe_ix ix_list ha pe_int fun _ _ => rfl) fun σ H Q ⟨G, z, A, e, q⟩ => by
  cases m with
  | none => cases e
  | some t =>
    cases e
    refine ⟨G, t, A, rfl, fun v G1 H1 g1 ⟨p, x, y, h1, h2, h3, h4⟩ => ?_⟩
    exact ⟨p, [x, y], 0, x, h1, rfl, SqL.of (g1.sub.lst h2), rfl, q x G1 H1 g1 h3⟩
theorem xe_r2b {m : Option (R2 α γ)} {j : Nat} {p1 : Pos} (ha : XE X Γ B ρ a m) : XE X Γ B ρ (.Subscript a (.Constant (.int 1) j p1) pos) (m.bind fun t => some t.b) := imE (pe_ix ix_list ha pe_int fun _ _ => rfl) fun σ H Q ⟨G, z, A, e, q⟩ => by
  cases m with
  | none => cases e
  | some t =>
    cases e
    refine ⟨G, t, A, rfl, fun v G1 H1 g1 ⟨p, x, y, h1, h2, h3, h4⟩ => ?_⟩
    exact ⟨p, [x, y], 1, y, h1, rfl, SqL.of (g1.sub.lst h2), rfl, q y G1 H1 g1 h4⟩
theorem xe_r2 {ma : Option α} {mb : Option γ} (ha : XE X Γ B ρ a ma) (hb : XE X Γ B ρ b mb) (s1 : starEach [a, b] X.env = (false, eval a X.env) :: starEach [b] X.env := by rfl)
    (s2 : starEach [b] X.env = (false, eval b X.env) :: starEach [] X.env := by rfl) : XE X Γ B ρ (.List [a, b] pos) (ma.bind fun x => mb.bind fun y => some (R2.mk x y)) :=
  imE (pe_lst (pa_cons ha (pa_cons hb pa_nil s2) s1)) fun σ H Q ⟨G, z, A, e, q⟩ => by
  cases ma with
  | none => cases e
  | some x =>
    cases mb with
    | none => cases e
    | some y =>
      cases e
      refine ⟨G, x, A, rfl, fun v1 G1 H1 g1 r1 => ⟨G1, y, A.grow g1, rfl, fun v2 G2 H2 g2 r2 => ⟨(by show 2 ≤ sizeLine; decide), fun p hp => ?_⟩⟩⟩
      have g4 := Grow.new g2.sub hp (.lst [v1, v2])
      exact q _ _ _ ((g1.trans g2).trans g4) ⟨p, v1, v2, rfl, upd_same, Rp.mono (g2.leG.trans g4.leG) r1, Rp.mono g4.leG r2⟩
theorem xe_r4 {ma : Option α} {mb : Option γ} {mc : Option δ} {md : Option ε} (ha : XE X Γ B ρ a ma) (hb : XE X Γ B ρ b mb) (hc : XE X Γ B ρ c mc) (hd : XE X Γ B ρ d md) (s1 : starEach [a, b, c, d] X.env = (false, eval a X.env) :: starEach [b, c, d] X.env := by rfl)
    (s2 : starEach [b, c, d] X.env = (false, eval b X.env) :: starEach [c, d] X.env := by rfl) (s3 : starEach [c, d] X.env = (false, eval c X.env) :: starEach [d] X.env := by rfl) (s4 : starEach [d] X.env = (false, eval d X.env) :: starEach [] X.env := by rfl) :
    XE X Γ B ρ (.List [a, b, c, d] pos) (ma.bind fun x => mb.bind fun y => mc.bind fun z => md.bind fun t => some (R4.mk x y z t)) :=
  imE (pe_lst (pa_cons ha (pa_cons hb (pa_cons hc (pa_cons hd pa_nil s4) s3) s2) s1)) fun σ H Q ⟨G, z, A, e, q⟩ => by
  cases ma with
  | none => cases e
  | some x =>
    cases mb with
    | none => cases e
    | some y =>
      cases mc with
      | none => cases e
      | some w =>
        cases md with
        | none => cases e
        | some t =>
          cases e
          refine ⟨G, x, A, rfl, fun v1 G1 H1 g1 r1 => ⟨G1, y, A.grow g1, rfl, fun v2 G2 H2 g2 r2 => ⟨G2, w, A.grow (g1.trans g2), rfl, fun v3 G3 H3 g3 r3 => ⟨G3, t, A.grow ((g1.trans g2).trans g3), rfl, fun v4 G4 H4 g4 r4 => ⟨(by show 4 ≤ sizeLine; decide), fun p hp => ?_⟩⟩⟩⟩⟩
          have g5 := Grow.new g4.sub hp (.lst [v1, v2, v3, v4])
          exact q _ _ _ ((((g1.trans g2).trans g3).trans g4).trans g5) ⟨p, v1, v2, v3, v4, rfl, upd_same, Rp.mono (((g2.leG.trans g3.leG).trans g4.leG).trans g5.leG) r1, Rp.mono ((g3.leG.trans g4.leG).trans g5.leG) r2, Rp.mono (g4.leG.trans g5.leG) r3, Rp.mono g5.leG r4⟩
end
section
variable {X : Cx} {Γ : Gm} {B : Bs} {ρ : Sto} {N : List Str} {sc : Scope} {k : Nat} {fx : List Nat} {pos : Pos} {elt it : Expr} {α γ : Type} [Rp α] [Rp γ]
/-- a comprehension whose name is read by a comprehension within -/
theorem xn_lcC (d : Cok X Γ N sc k) {x : Str} {px : Pos} {i : Nat} {ifs : List Expr} {scope sc' : Scope} {mxs : Option (List α)} {t : α → Option Bool} {f : α → Option γ} (hi : XI X Γ B ρ (.Name x px) it mxs) (hsc : relS scope sc = sc') (hB : blkC N sc scope [(x, i)] = true) (hx : N[i]? = some x) (hxl : scope.names.lookup x = some .cell) (hxl' : sc'.names.lookup x = some .cell) (hfx : B.fx = fx)
    (ht : ∀ X', Cok X' Γ N sc' k → ∀ a : α, PTs X' ifs (cT Γ B (ρ.set i (vl a)) (t a)))
    (he : ∀ X', Cok X' Γ N sc' k → ∀ a : α, XE X' Γ B (ρ.set i (vl a)) elt (f a)) (hs : ∀ x, foldedSetIterable it X.env x = pure x := by intro _; rfl) (hρ : Nat.ble (i + 1) ρ.length = true := by rfl) (hfc : fx.contains i = false := by rfl) :
    XN X Γ B ρ (.ListComp elt [⟨.Name x px, it, ifs, 0⟩] scope pos) (mxs.bind (lcB t f)) := by
  have cb : ∀ (s : Shared) (H : Hp) (C : Addr) (cl : List (Str × Addr)) (fp : List Addr), Cok (X.blk s H scope (compEnvC scope cl C X.env) fp) Γ N sc' k := fun s H C cl fp => d.blk hsc
  exact imE (pe_lc (own := [(x, i)]) (g := gName i) (tt := fun σ H Q => ∃ a, cT Γ B (ρ.set i (vl a)) (t a) σ H Q) (te := fun σ H Q => ∃ a, cE Γ B (ρ.set i (vl a)) (f a) σ H Q) d.calm (by rw [d.hN]; exact d.nd) hi (by rw [d.hN, d.hsc]; exact blkOk_by hB)
    (fun s H C cl fp => pg_name (i := i) (by rw [(cb s H C cl fp).hN]; exact d.nd) (by rw [(cb s H C cl fp).hN]; exact hx) (by rw [(cb s H C cl fp).hsc]; exact .inr hxl') (.inl (by show (scope.names.lookup x == some .cell) = true; rw [hxl]; rfl)))
    (fun s H C cl fp => ⟨fun pins s' σ H' Q I ⟨a, q⟩ => (ht _ (cb s H C cl fp) a).run pins s' σ H' Q I q⟩) (fun s H C cl fp => allE fun a => he _ (cb s H C cl fp) a) hs) fun σ H Q h => lc_sim (lc_pre hρ hfc hfx).1 (lc_pre hρ hfc hfx).2 h
end
end Sim

set_option Elab.async false
set_option autoImplicit false
set_option linter.all false
set_option maxRecDepth 100000
set_option maxHeartbeats 1000000
namespace Sim
open PySem L2
open Rp (rep)
open At1 (toV)
/-! ### comprehensions with two fors -/
def lc2M {α β γ : Type} (ys : α → Option (List β)) (f : α → β → Option γ) : List α → Option (List γ)
  | [] => some []
  | x :: r => (ys x).bind fun bs => (lcM (fun _ => some true) (f x) bs).bind fun us => (lc2M ys f r).bind fun vs => some (us ++ vs)
/-- .. where there is room -/
@[irreducible] def lc2B {α β γ : Type} (ys : α → Option (List β)) (f : α → β → Option γ) (xs : List α) : Option (List γ) := (lc2M ys f xs).bind fun zs => if zs.length ≤ BIG then some zs else none
/-- a walk beside a list in the making -/
theorem it_in {J : It} {n : Nat} {Z : Hp → Prop} {Y : Nat → Hp → V → Hp → Prop} (w : Walk J n Z Y) {gg : TG} {t1 : TT} {e1 : TE} {ks : List Nat} {τ : St} {Hs : Hp} {D : Addr} {Fin : Hp → Prop} (I : Nat → Hp → Prop) (i0 : I 0 Hs) (iZ : ∀ j h, j ≤ n → I j h → Z h)
    (st : ∀ j u h h', j < n → I j h → Y j h u h' → gg u (wipe τ ks) h' fun τ2 h2 => wipe τ2 ks = wipe τ ks ∧ t1 τ2 h2 fun c h3 =>
      if c = true then e1 τ2 h3 fun z h4 => ∃ got, h4 D = some (.lst got) ∧ got.length < sizeLine ∧ I (j + 1) (upd h4 D (.lst (got ++ [z]))) else I (j + 1) h3) (iF : ∀ h, I n h → Fin h) :
    ∃ W : Nat → Nat → Hp → Prop, (∃ m, W 0 m Hs) ∧ ∀ j m h, W j m h →
      (J.stop j h ∧ Fin h) ∨ (J.go j h ∧ ∃ Nx : Hp → Prop, (∀ h', Nx h' → ∃ m', m' < m ∧ W (j + 1) m' h') ∧ ∀ u h', J.yld j h u h' → gg u (wipe τ ks) h' fun τ2 h2 => wipe τ2 ks = wipe τ ks ∧ t1 τ2 h2 fun c h3 =>
        if c = true then e1 τ2 h3 fun z h4 => ∃ got, h4 D = some (.lst got) ∧ got.length < sizeLine ∧ Nx (upd h4 D (.lst (got ++ [z]))) else Nx h3) := by
  refine ⟨fun j m h => I j h ∧ j + m = n, ⟨n, i0, by omega⟩, fun j m h z => ?_⟩
  obtain ⟨p, e⟩ := z
  have q := iZ j h (by omega) p
  cases m with
  | zero =>
    have e' : j = n := by omega
    subst e'
    exact .inl ⟨w.stops h q, iF h p⟩
  | succ m => exact .inr ⟨w.goes j h (by omega) q, I (j + 1), fun h' p' => ⟨m, by omega, p', by omega⟩, fun u h' y => st j u h h' (by omega) p (w.yields j h u h' (by omega) q y)⟩
section
variable {X : Cx} {Γ : Gm} {B : Bs} {ρ : Sto} {N : List Str} {sc : Scope} {k : Nat} {fx : List Nat} {pos : Pos} {elt it it1 : Expr} {α β γ : Type} [Rp α] [Rp β] [Rp γ]
theorem lc2_sim {i l : Nat} {mxs : Option (List α)} {ys : α → Option (List β)} {f : α → β → Option γ} (hf : i ∉ B.fx) (hρ : i < ρ.length) (hf2 : l ∉ B.fx) (hρ2 : l < ρ.length) (hil : i ≠ l) (hdl : ρ[l]? = some .dead) {σ : St} {H : Hp} {Q : VK} (h : cN Γ B ρ (mxs.bind (lc2B ys f)) σ H Q) :
    tLc2 (cI Γ B ρ mxs) (gName i) (fun σ H Q => ∃ a : α, cT Γ B (ρ.set i (vl a)) (some true) σ H Q) (fun σ H Q => ∃ a : α, cI Γ B (ρ.set i (vl a)) (ys a) σ H Q) (gName l) (fun σ H Q => ∃ (a : α) (b : β), cT Γ B ((ρ.set i (vl a)).set l (vl b)) (some true) σ H Q)
      (fun σ H Q => ∃ (a : α) (b : β), cE Γ B ((ρ.set i (vl a)).set l (vl b)) (f a b) σ H Q) [i, l] [l] σ H Q := by
  obtain ⟨G, zs, A, e, q⟩ := h
  cases mxs with
  | none => cases e
  | some xs =>
    obtain ⟨hl, e⟩ : zs.length ≤ BIG ∧ lc2M ys f xs = some zs := by
      have e : lc2B ys f xs = some zs := e
      unfold lc2B at e
      cases hm : lc2M ys f xs with
      | none => rw [hm] at e; cases e
      | some z =>
        rw [hm] at e
        obtain ⟨c, e⟩ := ite_some e
        subst e
        exact ⟨c, rfl⟩
    refine ⟨G, xs, A, rfl, fun J G' H' g ⟨Y, hw, hy⟩ D hD => ?_⟩
    have hGD : G' D = none := g.sub.none hD
    -- the walk without: what is told of the rest, and what is made so far
    let Pv : Nat → Hp → Prop := fun j H2 => ∃ G1 vs us ws, Grow G' H' G1 H2 ∧ G1 D = none ∧ H2 D = some (.lst vs) ∧ RpL Γ G1 vs us ∧ lc2M ys f (xs.drop j) = some ws ∧ us ++ ws = zs
    refine ⟨fun j m H2 => Pv j H2 ∧ j + m = xs.length, ⟨xs.length, ⟨G', [], [], zs, Grow.newO g.sub hD _, hGD, upd_same, .nil, e, rfl⟩, by omega⟩, fun j m H2 z => ?_⟩
    obtain ⟨⟨G1, vs, us, ws, g1, hG1, hD1, r1, e1, e2⟩, ejm⟩ := z
    have hZ : ∃ G3, Le G' G3 ∧ Sub G3 H2 := ⟨G1, g1.leG, g1.sub⟩
    cases m with
    | zero =>
      have hj : j = xs.length := by omega
      subst hj
      refine .inl ⟨hw.stops H2 hZ, ?_⟩
      rw [List.drop_length] at e1
      have e1 := Option.some.inj (show some ([] : List γ) = some ws from e1)
      subst e1
      rw [List.append_nil] at e2
      subst e2
      have := q D vs G1 (hideD H2 D) (g.trans (g1.hide hD hG1)) (if_pos rfl) r1
      rw [upd_hide hD1] at this
      exact this
    | succ m =>
      have hj : j < xs.length := by omega
      refine .inr ⟨hw.goes j H2 hj hZ, Pv (j + 1), fun h' p' => ⟨m, by omega, p', by omega⟩, fun v H3 y => ?_⟩
      obtain ⟨x0, G2, hx0, g2, rv⟩ := hy j H2 v H3 hj (hw.yields j H2 v H3 hj hZ y) G1 g1.leG g1.sub
      have ed : xs.drop j = x0 :: xs.drop (j + 1) := by
        obtain ⟨h1, h2⟩ := List.getElem?_eq_some_iff.mp hx0
        rw [List.drop_eq_getElem_cons h1, h2]
      rw [ed] at e1
      unfold lc2M at e1
      cases hb : ys x0 with
      | none => rw [hb] at e1; cases e1
      | some bs =>
      rw [hb] at e1
      cases hu : lcM (fun _ => some true) (f x0) bs with
      | none =>
        have e1 : (lcM (fun _ => some true) (f x0) bs).bind (fun us => (lc2M ys f (xs.drop (j + 1))).bind fun vs => some (us ++ vs)) = some ws := e1
        rw [hu] at e1; cases e1
      | some u0 =>
      have e1 : (lcM (fun _ => some true) (f x0) bs).bind (fun us => (lc2M ys f (xs.drop (j + 1))).bind fun vs => some (us ++ vs)) = some ws := e1
      rw [hu] at e1
      cases hr : lc2M ys f (xs.drop (j + 1)) with
      | none =>
        have e1 : (lc2M ys f (xs.drop (j + 1))).bind (fun vs => some (u0 ++ vs)) = some ws := e1
        rw [hr] at e1; cases e1
      | some w0' =>
      have e1 : (lc2M ys f (xs.drop (j + 1))).bind (fun vs => some (u0 ++ vs)) = some ws := e1
      rw [hr] at e1
      have e1 : u0 ++ w0' = ws := Option.some.inj e1
      subst e1
      -- the store within: the first name holds x0
      have dl : ρ.set l .dead = ρ := by
        obtain ⟨h1, h2⟩ := List.getElem?_eq_some_iff.mp hdl
        rw [← h2, List.set_getElem_self h1]
      have inner : ∀ {G5 : Hp} {H5 : Hp}, Grow G' H' G5 H5 → Le G2 G5 → At Γ B (ρ.set i (vl x0)) G5 H5 ((wipe σ [i, l]).set i (some v)) := fun {G5 H5} g5 le => by
        have A5 := (A.grow g).grow g5
        have := ((A5.wiped l hf2).wiped i hf).setV (i := i) (by simpa using hρ) (Rp.mono le rv) hf
        rw [dl, List.set_set] at this
        exact this
      have hil' : l ≠ i := fun z => hil z.symm
      have gD2 : H3 D = some (.lst vs) := g2.leH _ _ hD1
      have w0 : wipe ((wipe σ [i, l]).set i (some v)) [i, l] = wipe σ [i, l] := by
        show (((((σ.set l none).set i none).set i (some v)).set l none).set i none) = (σ.set l none).set i none
        rw [List.set_set, List.set_comm _ _ hil, List.set_set, List.set_set]
      show wipe ((wipe σ [i, l]).set i (some v)) [i, l] = wipe σ [i, l] ∧ _
      refine ⟨w0, x0, G2, true, inner (g1.trans g2) (.refl _), rfl, fun G3 H4 g3 => ?_⟩
      show ite (true = true) _ _
      rw [if_pos rfl]
      refine ⟨x0, G3, bs, inner ((g1.trans g2).trans g3) g3.leG, hb, fun J1 G5 H5 g5 ⟨Y1, hw1, hy1⟩ => ?_⟩
      have gb := ((g1.trans g2).trans g3).trans g5
      have hD5 : H5 D = some (.lst vs) := g5.leH _ _ (g3.leH _ _ gD2)
      have hG5 : G5 D = none := by
        have := (g2.trans g3).trans g5
        exact (this.thin D (some_ne hD1) hG1).none fun ws e => by rw [hD1] at e; cases e
      refine it_in (gg := gName l) (t1 := fun σ H Q => ∃ (a : α) (b : β), cT Γ B ((ρ.set i (vl a)).set l (vl b)) (some true) σ H Q) (e1 := fun σ H Q => ∃ (a : α) (b : β), cE Γ B ((ρ.set i (vl a)).set l (vl b)) (f a b) σ H Q) (ks := [l]) (τ := (wipe σ [i, l]).set i (some v)) (D := D) (Fin := Pv (j + 1)) hw1 (fun jj h6 => ∃ G6 vs6 us6 ws6, Grow G' H' G6 h6 ∧ Le G5 G6 ∧ G6 D = none ∧ h6 D = some (.lst vs6) ∧ RpL Γ G6 vs6 us6 ∧ lcM (fun _ => some true) (f x0) (bs.drop jj) = some ws6 ∧ us6 ++ ws6 ++ w0' = zs)
        ⟨G5, vs, us, u0, gb, .refl _, hG5, hD5, r1.mono ((g2.trans g3).trans g5).leG, hu, by rw [← e2]; simp⟩ (fun jj h6 _ ⟨G6, _, _, _, g6, le6, _⟩ => ⟨G6, le6, g6.sub⟩) ?_ ?_
      · rintro jj u h6 h7 hjj ⟨G6, vs6, us6, ws6, g6, le6, hG6, hD6, r6, e6, e7⟩ y1
        obtain ⟨y0, G7, hy0, g7, ru⟩ := hy1 jj h6 u h7 hjj y1 G6 le6 g6.sub
        have ed1 : bs.drop jj = y0 :: bs.drop (jj + 1) := by
          obtain ⟨h1, h2⟩ := List.getElem?_eq_some_iff.mp hy0
          rw [List.drop_eq_getElem_cons h1, h2]
        rw [ed1] at e6
        unfold lcM at e6
        have e6 : (f x0 y0).bind (fun y => (lcM (fun _ => some true) (f x0) (bs.drop (jj + 1))).bind fun ys => some (y :: ys)) = some ws6 := e6
        have At3 : ∀ {G8 H8 : Hp}, Grow G' H' G8 H8 → Le G7 G8 → At Γ B ((ρ.set i (vl x0)).set l (vl y0)) G8 H8 ((wipe ((wipe σ [i, l]).set i (some v)) [l]).set l (some u)) := fun {G8 H8} g8 le8 => by
          have A8 := inner g8 (((g3.leG.trans g5.leG).trans le6).trans (g7.leG.trans le8))
          have dl2 : (ρ.set i (vl x0)).set l .dead = ρ.set i (vl x0) := by rw [List.set_comm _ _ hil, dl]
          have := (A8.wiped l hf2).setV (i := l) (by simpa using hρ2) (Rp.mono le8 ru) hf2
          rw [dl2] at this
          exact this
        show wipe ((wipe ((wipe σ [i, l]).set i (some v)) [l]).set l (some u)) [l] = wipe ((wipe σ [i, l]).set i (some v)) [l] ∧ _
        refine ⟨?_, x0, y0, G7, true, At3 (g6.trans g7) (.refl _), rfl, fun G8 H8 g8 => ?_⟩
        · show (((((wipe σ [i, l]).set i (some v)).set l none).set l (some u)).set l none) = (((wipe σ [i, l]).set i (some v)).set l none)
          rw [List.set_set, List.set_set]
        · show ite (true = true) _ _
          rw [if_pos rfl]
          cases hfx : f x0 y0 with
          | none => rw [hfx] at e6; cases e6
          | some yv =>
            rw [hfx] at e6
            cases hr2 : lcM (fun _ => some true) (f x0) (bs.drop (jj + 1)) with
            | none =>
              have e6 : (lcM (fun _ => some true) (f x0) (bs.drop (jj + 1))).bind (fun ys => some (yv :: ys)) = some ws6 := e6
              rw [hr2] at e6; cases e6
            | some us7 =>
              have e6 : (lcM (fun _ => some true) (f x0) (bs.drop (jj + 1))).bind (fun ys => some (yv :: ys)) = some ws6 := e6
              rw [hr2] at e6
              cases e6
              refine ⟨x0, y0, G8, yv, At3 ((g6.trans g7).trans g8) g8.leG, hfx, fun w G9 H9 g9 r9 => ?_⟩
              obtain ⟨z1, z2, z3⟩ := Grow.item (ws := vs6 ++ [w]) g6 hD hG6 hD6 ((g7.trans g8).trans g9)
              have le9 : Le G6 G9 := ((g7.trans g8).trans g9).leG
              refine ⟨vs6, z3, ?_, G9, vs6 ++ [w], us6 ++ [yv], us7, z1, le6.trans le9, z2, upd_same, (r6.mono le9).append (.cons r9 .nil), rfl, by rw [← e7]; simp⟩
              have h1 : vs6.length = us6.length := r6.length
              have h2 : us6.length ≤ zs.length := by rw [← e7]; simp
              exact big_lt (by omega)
      · rintro h6 ⟨G6, vs6, us6, ws6, g6, le6, hG6, hD6, r6, e6, e7⟩
        rw [List.drop_length] at e6
        have e6 := Option.some.inj (show some ([] : List γ) = some ws6 from e6)
        subst e6
        rw [List.append_nil] at e7
        exact ⟨G6, vs6, us6, w0', g6, hG6, hD6, r6, hr, e7⟩
/-- [elt for x in it for y in it1] -/
theorem xn_lc22 (d : Cok X Γ N sc k) {x y : Str} {px py : Pos} {i l : Nat} {scope sc' : Scope} {mxs : Option (List α)} {ys : α → Option (List β)} {f : α → β → Option γ} (hi : XI X Γ B ρ (.Name x px) it mxs) (hsc : relS scope sc = sc') (hB : blkC N sc scope [(x, i), (y, l)] = true) (hx : N[i]? = some x) (hy : N[l]? = some y) (hxl' : sc'.names.lookup x = some .local) (hyl' : sc'.names.lookup y = some .local) (hfx : B.fx = fx)
    (h1 : ∀ X', Cok X' Γ N sc' k → ∀ a : α, XI X' Γ B (ρ.set i (vl a)) (.Name y py) it1 (ys a))
    (he : ∀ X', Cok X' Γ N sc' k → ∀ (a : α) (b : β), XE X' Γ B ((ρ.set i (vl a)).set l (vl b)) elt (f a b)) (hs : ∀ x, foldedSetIterable it X.env x = pure x := by intro _; rfl) (hs1 : ∀ env x, foldedSetIterable it1 env x = pure x := by intro _ _; rfl)
    (hρ : Nat.ble (i + 1) ρ.length = true := by rfl) (hfc : fx.contains i = false := by rfl) (hρ2 : Nat.ble (l + 1) ρ.length = true := by rfl) (hfc2 : fx.contains l = false := by rfl) (hil : i ≠ l := by decide) (hdl : ρ[l]? = some .dead := by rfl) :
    XN X Γ B ρ (.ListComp elt [⟨.Name x px, it, [], 0⟩, ⟨.Name y py, it1, [], 0⟩] scope pos) (mxs.bind (lc2B ys f)) := by
  have cb : ∀ (s : Shared) (H : Hp) (C : Addr) (cl : List (Str × Addr)) (fp : List Addr), Cok (X.blk s H scope (compEnvC scope cl C X.env) fp) Γ N sc' k := fun s H C cl fp => d.blk hsc
  have gn : ∀ (s : Shared) (H : Hp) (C : Addr) (cl : List (Str × Addr)) (fp : List Addr) {z : Str} {pz : Pos} {j : Nat}, N[j]? = some z → sc'.names.lookup z = some .local → PG (X.blk s H scope (compEnvC scope cl C X.env) fp) (.Name z pz) (gName j) := fun s H C cl fp {z pz j} h1 h2 =>
    pg_name (i := j) (by rw [(cb s H C cl fp).hN]; exact d.nd) (by rw [(cb s H C cl fp).hN]; exact h1) (by rw [(cb s H C cl fp).hsc]; exact .inl h2) (.inr (by rw [(cb s H C cl fp).hsc]; exact h2))
  exact imE (pe_lc2 (own := [(x, i), (y, l)]) (vs1 := [l]) d.calm (by rw [d.hN]; exact d.nd) hi (by rw [d.hN, d.hsc]; exact blkOk_by hB) (fun j hj => by simp at hj ⊢; exact .inr hj)
    (fun s H C cl fp => gn s H C cl fp hx hxl') (fun s H C cl fp => ⟨fun pins s' σ H' Q I ⟨a, q⟩ => (xts_nil (fun a : α => ρ.set i (vl a)) a).run pins s' σ H' Q I q⟩)
    (fun s H C cl fp => ⟨fun pins s' σ H' R I ⟨a, q⟩ => (h1 _ (cb s H C cl fp) a).run pins s' σ H' R I q⟩)
    (fun s H C cl fp => gn s H C cl fp hy hyl') (fun s H C cl fp => ⟨fun pins s' σ H' Q I ⟨a, b, q⟩ => (xts_nil (fun _ : Unit => (ρ.set i (vl a)).set l (vl b)) ()).run pins s' σ H' Q I q⟩)
    (fun s H C cl fp => allE fun a => allE fun b => he _ (cb s H C cl fp) a b) hs hs1) fun σ H Q h => lc2_sim (lc_pre hρ hfc hfx).1 (lc_pre hρ hfc hfx).2 (lc_pre hρ2 hfc2 hfx).1 (lc_pre hρ2 hfc2 hfx).2 hil hdl h
end
end Sim

set_option Elab.async false
set_option autoImplicit false
set_option linter.all false
set_option maxRecDepth 100000
set_option maxHeartbeats 1000000
namespace Sim
open PySem PySem.Spec PyProof.Rows L2
open Rp (rep)
open At1 (toV)
open K1 (key)
/-! ### a dict of one pair -/
theorem upd_hideN {H : Hp} {D : Addr} {o : HO} : upd (hideD H D) D o = upd H D o := by
  funext a
  unfold upd hideD
  by_cases z : a = D
  · rw [if_pos z, if_pos z]
  · rw [if_neg z, if_neg z, if_neg z]
section
variable {X : Cx} {Γ : Gm} {B : Bs} {ρ : Sto} {N : List Str} {sc : Scope} {k : Nat} {fx : List Nat} {W : WX} {M : List Addr} {pos : Pos} {a b : Expr} {κ α : Type} [K1 κ] [At1 κ] [KAt κ] [Rp α]
theorem xk_one {mk : Option κ} {mv : Option α} (hk : XE X Γ B ρ a mk) (hv : XE X Γ B ρ b mv) : XKN X Γ B ρ (.Dict [some a] [b] pos) (mk.bind fun x => mv.bind fun y => some [(x, y)]) :=
  imE (pe_disp (pps_cons hk hv pps_nil) rfl rfl (by simp) (by simp)) fun σ H Q ⟨G, xs, A, e, q⟩ => by
  cases mk with
  | none => cases e
  | some x =>
    cases mv with
    | none => cases e
    | some y =>
      cases e
      refine fun p hp => ?_
      have g0 := Grow.newO A.sub hp (.dK [])
      refine ⟨G, x, A.grow g0, rfl, fun v1 G1 H1 g1 r1 => ⟨G1, y, A.grow (g0.trans g1), rfl, fun v2 G2 H2 g2 r2 => ?_⟩⟩
      have h2 : H2 p = some (.dK []) := (g1.trans g2).leH _ _ upd_same
      have hG : G p = none := A.sub.none hp
      have hG2 : G2 p = none := Th.no ((g1.trans g2).thin p (some_ne upd_same) hG) upd_same
      refine ⟨h2, [(key x, v2)], by rw [rep1 r1]; show [(toV x, v2)] = [(kV (key x), v2)]; rw [KAt.same], by simp, ?_⟩
      have g3 := (g0.trans g1).trans g2
      have := q p [(key x, v2)] G2 (hideD H2 p) (Grow.hide ⟨g3.leG, g3.leH, g3.sub, g3.thin⟩ hp hG2) (if_pos rfl) (.cons ⟨rfl, r2⟩ .nil)
      rw [upd_hideN] at this
      exact this
end
/-! ### xs.remove(x), data -/
def rRemD (K : PySem.W.Frag) : V → List V → Hp → VK → Prop := fun x ys H Q => ∃ (l : Addr) (xs : List V) (y : V) (ds : List PyData) (d : PyData) (j : Nat), x = .ref l ∧ ys = [y] ∧ H l = some (.lst xs) ∧ DpAll K H xs ds ∧ Dp K H y d ∧
  SeqAt.shaped (.list ds) = true ∧ SeqAt.shaped d = true ∧ (∃ c, ds[j]? = some c ∧ PyData.eqv c d = true) ∧ (∀ i c, i < j → ds[i]? = some c → PyData.eqv c d = false) ∧ Q .non (upd H l (.lst (xs.eraseIdx j)))
theorem mt_removeD {X : Cx} (hu : X.A.units + 65 < cLine) : MtM X "list.remove" (rRemD X.K) := by
  intro pins s σ H x ys v us Q I rx rys h
  obtain ⟨l, xs, y, ds, d, j, rfl, rfl, hH, ha, hy, sl, sd, ⟨c, hc1, hc2⟩, hno, q⟩ := h
  cases rx
  cases rys with
  | cons ry rt =>
    rename_i uy ut
    cases rt
    obtain ⟨bs, r1⟩ := Dp.reads I d y uy hy ry
    have hxs : PyData.canLayAll0 ds = true := SeqAt.canLay_of_shaped sl
    have hroom : X.A.units + 1 + min (PyData.depthAll ds) d.depth < cLine := room_in_shaped sd hu
    obtain ⟨z, its, n, rv, hlen, e0⟩ := I.lstM hH
    obtain ⟨as, h4⟩ := Dp.readsAll I ds _ its ha rv
    have hmap : its.map (SeqAt.readOf s.heap) = ds := SeqAt.readsAll_map ds its as hxs h4
    have hgt : ∀ i (hi : i < its.length), ds[i]? = some (SeqAt.readOf s.heap its[i]) := fun i hi => by rw [← hmap, List.getElem?_map, List.getElem?_eq_getElem hi]; rfl
    have hj : j < its.length := by
      have := (List.getElem?_eq_some_iff.mp hc1).1
      rw [← hmap, List.length_map] at this
      exact this
    have hsz : its.toArray.size ≤ sizeLine := by rw [List.size_toArray, ← hlen]; exact z
    refine call_meets PySem.F.slot_list_remove ⟨_, e0, rfl⟩ PySem.F.entry_list_remove (PySem.F.args_list_remove_2 _ _)
      (SeqAt.list_removeAt l its.toArray n none #[] uy (fun u => PyData.eqv (SeqAt.readOf s.heap u) d) j (by rw [List.size_toArray]; exact hj) ?_ ?_ hsz)
      ⟨e0, SeqAt.items_eqAt (vs := its.toArray) (show ReadsAll s.heap its.toArray.toList ds as from h4) r1 hxs (SeqAt.canLay_of_shaped sd) hroom, ?_⟩
    · have h1 := hgt j hj
      rw [hc1] at h1
      show PyData.eqv (SeqAt.readOf s.heap its[j]) d = true
      rw [← Option.some.inj h1]; exact hc2
    · intro m hm hmj
      have hm' : m < its.length := by rw [List.size_toArray] at hm; exact hm
      exact hno m _ hmj (hgt m hm')
    · refine ⟨.non, _, I.lset (its' := its.eraseIdx j) hH e0 ?_ (rv.eraseIdx j) ?_, rfl, q⟩
      · show its.toArray.eraseIdxIfInBounds j = (its.eraseIdx j).toArray
        simp
      · have := List.length_eraseIdx_le xs j
        omega
@[irreducible] def premove {α : Type} [DecidableEq α] (xs : List α) (x : α) : Option (List α) := if x ∈ xs ∧ xs.length ≤ BIG then some (xs.eraseIdx (xs.findIdx fun y => decide (y = x))) else none
section
variable {X : Cx} {Γ : Gm} {B : Bs} {ρ : Sto} {N : List Str} {sc : Scope} {k : Nat} {fx : List Nat} {W : WX} {M : List Addr} {pos p p' : Pos} {e : Expr} {α : Type} [Rp α] [DecidableEq α] [Dat α]
open Dat (toD)
theorem xp_remove (d : Dok X Γ B N sc k fx W M) {m : Option α} {x : Str} (i : Nat) {xs : List α} {apos cpos : Pos} (hi : ρ[i]? = some (ow (OL.mk xs))) (hN : N[i]? = some x) (hv : Vis sc x) (he : XE X Γ B ρ e m) (hdep : Dat.dep α ≤ 60 := by decide) (hd : (x == ("__debug__" : Str)) = false := by decide) (hcd : (x == ("__classdict__" : Str)) = false := by decide)
    (hfew : ((backTo cpos (starEach [e] X.env)).all (fun x => !x.1) && (backToKw cpos (keywordEach [] X.env)).all (fun x => x.1.isSome)
      && decide ([e].length + ([] : List Keyword).length + (if ([] : List Keyword).isEmpty then 0 else 1) < 30)) = true := by rfl)
    (hline : (apos.endLine == cpos.line) = true := by rfl) (hs : starEach [e] X.env = (false, eval e X.env) :: starEach [] X.env := by rfl) (hw : swapsWith (.Call (.Attribute (.Name x p) "remove" apos) [e] [] cpos) none pos.line X.env = pure false := by rfl) :
    XP1 X Γ B ρ (.Expr (.Call (.Attribute (.Name x p) "remove" apos) [e] [] cpos) pos) (m.bind fun y => premove xs y) (fun ys => ρ.set i (ow (OL.mk ys))) :=
  imS (ps_expr (pe_bm PySem.F.plainAttrs_list PySem.F.slot_list_remove PySem.F.type_list_remove (mt_removeD d.toCok.hu65) (pv_ d.toCok hN hv hd hcd) (pa_cons he pa_nil hs) (by rfl) hfew hline hs (by rfl)) hw) fun D σ H ⟨G, s, A, e, q⟩ => by
  cases m with
  | none => cases e
  | some y =>
    obtain ⟨⟨hin, hl⟩, e⟩ := ite_some (by have qq : premove xs y = some s := e; unfold premove at qq; exact qq)
    subst e
    obtain ⟨v, fp, h1, ⟨p, vs, rfl, h3, h4, h5⟩, h6⟩ := A.getO hi
    refine ⟨.ref p, h1, .inl ⟨rfl, vs, SqL.of h4⟩, G, y, A, rfl, fun u G1 H1 g1 r1 => ?_⟩
    have hex : ∃ z ∈ xs, decide (z = y) = true := ⟨y, hin, by simp⟩
    have hjl := List.findIdx_lt_length_of_exists hex
    have r5 := h5.mono g1.leG
    refine ⟨p, vs, u, xs.map toD, toD y, xs.findIdx (fun z => decide (z = y)), rfl, rfl, g1.leH _ _ h4, ?_, ?_, dat_shapedL hdep xs, dat_shaped (by omega) y, ⟨toD xs[xs.findIdx fun z => decide (z = y)], by rw [List.getElem?_map, List.getElem?_eq_getElem hjl]; rfl, ?_⟩, fun i c hi2 hc => ?_, ?_⟩
    · rw [d.toCok.hK]; exact DpAll.up g1.sub (dat_reads r5)
    · rw [d.toCok.hK]; exact Dp.up g1.sub (Dat.reads r1)
    · rw [Dat.eqv]
      have := List.findIdx_getElem (xs := xs) (p := fun z => decide (z = y)) (w := hjl)
      exact this
    · rw [List.getElem?_map] at hc
      have hil : i < xs.length := by omega
      rw [List.getElem?_eq_getElem hil] at hc
      have hc : toD xs[i] = c := Option.some.inj hc
      rw [← hc, Dat.eqv]
      have := List.not_of_lt_findIdx hi2
      simpa using this
    · exact q G1 _ σ ((A.grow g1).setL hi h1 (RpL.erase _ r5))
end
section
variable {X : Cx} {Γ : Gm} {B : Bs} {ρ : Sto} {N : List Str} {sc : Scope} {k : Nat} {fx : List Nat} {W : WX} {M : List Addr} {pos p p' : Pos} {e : Expr} {α S : Type} [Rp α] {sto : S → Sto}
/-- x = [F] -/
theorem xp_setL1F (d : Dok X Γ B N sc k fx W M) {m : Option (α × S)} {x : Str} (i : Nat) {lp : Pos} (he : XF X Γ B ρ e m sto) (hi : N[i]? = some x) (hx : Loc sc x) (hρ : ∀ s, Nat.ble (i + 1) (sto s).length = true := by intro _; rfl) (hf : fx.contains i = false := by rfl) (s1 : starEach [e] X.env = (false, eval e X.env) :: starEach [] X.env := by rfl) (hs : swapsWith (.List [e] lp) (some (.Name x p')) pos.line X.env = pure false := by rfl) :
    XP1 X Γ B ρ (.Assign [.Name x p'] (.List [e] lp) pos) m (fun q => (sto q.2).set i (ow (OL.mk [q.1]))) :=
  imS (ps_set (i := i) (by rw [d.hN]; exact d.nd) (by rw [d.hN]; exact hi) (by rw [d.hsc]; exact hx) (pe_lst (pa_cons he pa_nil s1)) hs (.inl (d.hfn x))) fun D σ H ⟨G, s, A, e, q⟩ => by
  subst e
  refine ⟨G, s.1, s.2, A, rfl, fun v G1 H1 l1 A1 r1 => ⟨(by show 1 ≤ sizeLine; decide), fun p hp => ?_⟩⟩
  refine q G1 _ _ (A1.setN (Nat.le_of_ble_eq_true (hρ s.2)) hp ⟨p, [v], rfl, rfl, upd_same, .cons r1 .nil⟩ fun hm => ?_)
  rw [d.hfx] at hm
  rw [List.contains_iff_mem.mpr hm] at hf
  cases hf
end
/-! ### a new list made while a list of one's own is read as a value -/
theorem RpL.flt {α : Type} [Rp α] [Flat α] {Γ : Gm} {G G' : Hp} : ∀ {vs : List V} {xs : List α}, RpL Γ G vs xs → RpL Γ G' vs xs
  | _, _, .nil => .nil
  | _, _, .cons r s => .cons (Flat.flat r) (RpL.flt s)
theorem xn_thawL {X : Cx} {Γ : Gm} {B : Bs} {ρ : Sto} {e : Expr} {α : Type} [Rp α] [Flat α] {m : Option (List α)} (i : Nat) {δ : Type} {I : Ow δ} {z : δ} (hi : ρ[i]? = some (.own δ I z)) (hc : I.canF = true) (hdk : ∀ G H v fp, I.own Γ G H v fp z → ∃ q o, fp = [q] ∧ H q = some o ∧ ¬ isDk o)
    (h : XN X Γ B (ρ.set i (.val I.F I.iF (I.toF z))) e m) : XN X Γ B ρ e m := imE h fun σ H Q ⟨G, x, A, e, q⟩ => by
  obtain ⟨φ, h1, h3⟩ := A.slots
  obtain ⟨o', e1, v, e2, ow⟩ := h1.ok i _ hi
  obtain ⟨d, o, ef, ho, hd⟩ := hdk _ _ _ _ ow
  obtain ⟨l1, A1⟩ := A.freezeX hi hc h1 h3 fun _ => default
  rw [ef] at A1 l1
  have eH : lkd H [d] (fun _ => default) = H := by
    funext y
    by_cases z : y = d
    · subst z; rw [lkd_nd ho hd, ho]
    · rw [lkd1 z]
  rw [eH] at A1 l1
  exact ⟨_, x, A1, e, fun p vs G' H' g hp r => q p vs G H' ⟨.refl _, g.leH, fun a o q => g.sub a o (g.leG a o (l1 a o q)), fun _ _ q => .inl q⟩ hp (RpL.flt r)⟩
/-- for x in t, t a tuple of two alike -/
theorem xi_pair {X : Cx} {Γ : Gm} {B : Bs} {ρ : Sto} {tg e : Expr} {α : Type} [Rp α] {m : Option (α × α)} (h : XE X Γ B ρ e m) : XI X Γ B ρ tg e (m.bind fun t => some [t.1, t.2]) := imI (pi_tup h) fun σ H R ⟨G, xs, A, e, q⟩ => by
  cases m with
  | none => cases e
  | some t =>
    cases e
    refine ⟨G, t, A, rfl, fun v G' H' g ⟨p, x, y, h1, h2, h3, h4⟩ => ?_⟩
    subst h1
    have hq : ∀ {G1 : Hp} {H1 : Hp}, Le G' G1 → Sub G1 H1 → SqT X.K H1 p [x, y] := fun l s => SqT.of (s.tup (l _ _ h2))
    have rl : RpL Γ G' [x, y] [t.1, t.2] := .cons h3 (.cons h4 .nil)
    refine ⟨p, rfl, ⟨[x, y], hq (.refl _) g.sub⟩, q _ G' H' g ⟨YAt [x, y], ?_, fun i H v H1 hi ⟨y1, y2⟩ G1 l1 s1 => ?_⟩⟩
    · exact (walk_tup (K := X.K) (a := p) (xs := [x, y])).mono (fun H ⟨G1, l1, s1⟩ => hq l1 s1) fun i H x H' _ _ y => y
    · subst y1
      obtain ⟨z, hz, r⟩ := rl.getV y2
      exact ⟨z, G1, hz, .refl s1, Rp.mono l1 r⟩
end Sim

set_option Elab.async false
set_option autoImplicit false
set_option linter.all false
set_option maxRecDepth 100000
set_option maxHeartbeats 1000000
namespace Sim
open PySem L2
open Rp (rep)
section
variable {X : Cx} {Γ : Gm} {B : Bs} {ρ : Sto} {N : List Str} {sc : Scope} {k : Nat} {fx : List Nat} {W : WX} {M : List Addr} {pos p p' : Pos} {e : Expr} {S α γ : Type} [Rp α] [Rp γ]
/-- a, b = a list of two -/
theorem xg_two (d : Dok X Γ B N sc k fx W M) {ρ : S → Sto} {x y : Str} (i j : Nat) {n : Nat} {p1 p2 : Pos} (hi : N[i]? = some x) (hx : Loc sc x) (hj : N[j]? = some y) (hy : Loc sc y) (hρ : ∀ s, Nat.ble (i + 1) (ρ s).length = true := by intro _; rfl) (hf : fx.contains i = false := by rfl)
    (hρ2 : ∀ s, Nat.ble (j + 1) (ρ s).length = true := by intro _; rfl) (hf2 : fx.contains j = false := by rfl) : XG X Γ B (.Tuple [.Name x p1, .Name y p2] n pos) ρ (fun s (t : R2 α γ) => ((ρ s).set i (vl t.a)).set j (vl t.b)) :=
  imG (pg_lst d.calm (pgs_cons (pg_name (i := i) (by rw [d.hN]; exact d.nd) (by rw [d.hN]; exact hi) (by rw [d.hsc]; exact hx) (.inl (d.hfn x))) (pgs_cons (pg_name (i := j) (by rw [d.hN]; exact d.nd) (by rw [d.hN]; exact hj) (by rw [d.hsc]; exact hy) (.inl (d.hfn y))) pgs_nil))) fun v σ H Q ⟨s, t, G, A, ⟨p, u, w, h1, h2, h3, h4⟩, q⟩ => by
  refine ⟨p, [u, w], h1, SqL.of (A.sub.lst h2), rfl, u, [w], rfl, w, [], rfl, rfl, ?_⟩
  have no : ∀ n, fx.contains n = false → n ∉ B.fx := fun n hn hm => by
    rw [d.hfx] at hm
    rw [List.contains_iff_mem.mpr hm] at hn
    cases hn
  have A1 := A.setV (Nat.le_of_ble_eq_true (hρ s)) h3 (no i hf)
  exact q G H _ (.refl _) (A1.setV (by rw [List.length_set]; exact Nat.le_of_ble_eq_true (hρ2 s)) h4 (no j hf2))
theorem xp_unl2 (d : Dok X Γ B N sc k fx W M) {x y : Str} {p1 p2 pt : Pos} {nt : Nat} (i l : Nat) {m : Option (R2 α γ)} (he : XE X Γ B ρ e m) (hi : N[i]? = some x) (hx : Loc sc x) (hj : N[l]? = some y) (hy : Loc sc y) (hρ : Nat.ble (i + 1) ρ.length = true := by rfl) (hf : fx.contains i = false := by rfl)
    (hρ2 : Nat.ble (l + 1) ρ.length = true := by rfl) (hf2 : fx.contains l = false := by rfl) (hs : swapsWithSole [.Tuple [.Name x p1, .Name y p2] nt pt] e pos.line X.env = pure false := by rfl) (hw : swappedStores [.Tuple [.Name x p1, .Name y p2] nt pt] e X.env = pure none := by rfl) :
    XP1 X Γ B ρ (.Assign [.Tuple [.Name x p1, .Name y p2] nt pt] e pos) m (fun t => (ρ.set i (vl t.a)).set l (vl t.b)) :=
  imS (ps_asg he (xg_two (α := α) (γ := γ) (S := Unit) (ρ := fun _ => ρ) d i l hi hx hj hy (fun _ => hρ) hf (fun _ => hρ2) hf2) hs hw) fun D σ H ⟨G, s, A, e, q⟩ => ⟨G, s, A, e, fun v G1 H1 g1 r1 => ⟨(), s, G1, A.grow g1, r1, fun G' H' σ' l A' => q G' H' σ' A'⟩⟩
end
end Sim

set_option Elab.async false
set_option autoImplicit false
set_option linter.all false
set_option maxRecDepth 100000
set_option maxHeartbeats 1000000
namespace Sim
open PySem L2
open Rp (rep)
open At1 (toV)
open Ow (own)
open RpA (repA stoA)
/-! ### a def that changes the object handed to it first -/
def specZ (Γ : Gm) {τ β Z δ : Type} [RpA τ] [Rp β] [I : Ow δ] (mk : Z → δ) (f : τ → Z → Option (β × Z)) : Sp := fun vs H Q _ => ∃ G t z b z' ws p fp, Sub G H ∧ vs = .ref p :: ws ∧ repA Γ G ws t ∧ (∀ x ∈ fp, G x = none) ∧ own Γ G H (.ref p) fp (mk z) ∧ f t z = some (b, z') ∧
  ∀ v G' H' fp', GrowF fp G H G' H' → rep Γ G' v b → (∀ y ∈ fp', G' y = none ∧ (y ∈ fp ∨ H y = none)) → own Γ G' H' (.ref p) fp' (mk z') → Q v H'
structure CalZ (Γ : Gm) (x : Str) (k : Nat) {τ β Z δ : Type} [RpA τ] [Rp β] [I : Ow δ] (mk : Z → δ) (f : τ → Z → Option (β × Z)) : Prop where
  ex : ∃ a fd ps, FnOk Γ.P Γ.w Γ.K Γ.mg Γ.base CX0 k a fd ps (specZ Γ mk f) ∧ Γ.mg x = some (.ref a) ∧ PySem.W.keepIn Γ.K (.ref a) = true ∧ Binds Γ.K fd ps []
/-- such an object is told by its address -/
class Adr {δ : Type} (I : Ow δ) : Prop where
  adr : ∀ {Γ : Gm} {G H : Hp} {v : V} {fp : List Addr} {a : δ}, I.own Γ G H v fp a → ∃ p, v = .ref p
section
variable {Γ : Gm} {x : Str} {st : Stmt} {N ps : List Str} {k : Nat} {τ β Z δ : Type} [RpA τ] [Rp β] [I : Ow δ] {mk : Z → δ}
theorem at_startZ {G H : Hp} {x : Addr} {fp : List Addr} {w : δ} {ws : List V} {t : τ} (s : Sub G H) (r : repA Γ G ws t) (hn : RpA.num τ + 1 ≤ N.length) (hg : ∀ y ∈ fp, G y = none) (ho : own Γ G H (.ref x) fp w) :
    At Γ ⟨G, H, fp, L2.start N (.ref x :: ws), [0]⟩ (ow w :: (stoA t ++ deads (N.length - RpA.num τ - 1))) G H (L2.start N (.ref x :: ws)) := by
  have q := RpA.okA (H := H) r
  have hl : (stoA t).length = RpA.num τ := RpA.lenA t
  refine ⟨s, .refl _, fun _ _ _ h => h, fun _ h => h, fun _ _ _ h => .inl h, ⟨fun i => if i = 0 then fp else [], ⟨by simp [L2.start, hl, q.1]; omega, fun i sl e => ?_, fun i j y h h' => ?_, fun i hi => ?_⟩, fun i a h => ?_⟩, fun _ _ => rfl⟩
  · cases i with
    | zero =>
      have e : ow w = sl := Option.some.inj e
      subst e
      exact ⟨some (.ref x), by simp [L2.start], .ref x, rfl, ho⟩
    | succ i =>
      rw [List.getElem?_cons_succ] at e
      have z : ¬ (i + 1 = 0) := by omega
      by_cases hi : i < RpA.num τ
      · rw [List.getElem?_append_left (by rw [hl]; exact hi)] at e
        obtain ⟨v, q1, q2⟩ := q.2 i sl e
        refine ⟨some v, ?_, by rw [if_neg z]; exact q2⟩
        unfold L2.start
        rw [List.getElem?_append_left (by simp [q.1]; omega), List.getElem?_map, List.getElem?_cons_succ, q1]
        rfl
      · rw [List.getElem?_append_right (by rw [hl]; omega), hl] at e
        obtain ⟨e1, e2⟩ := get_rep e
        subst e1
        refine ⟨none, ?_, by rw [if_neg z]; exact rfl⟩
        unfold L2.start
        rw [List.getElem?_append_right (by simp [q.1]; omega), List.getElem?_replicate, if_pos]
        simp [q.1]
        omega
  · by_cases e1 : i = 0 <;> by_cases e2 : j = 0
    · rw [e1, e2]
    · rw [if_neg e2] at h'; simp at h'
    · rw [if_neg e1] at h; simp at h
    · rw [if_neg e1] at h; simp at h
  · rw [if_neg]
    intro e
    rw [e] at hi
    simp at hi
  · dsimp only at h
    by_cases e1 : i = 0
    · rw [if_pos e1] at h
      exact ⟨hg a h, .inr h⟩
    · rw [if_neg e1] at h; simp at h
theorem atZ_end {G H : Hp} {x : Addr} {fp : List Addr} {ws : List V} {G' H' : Hp} {σ' : L2.St} {w' : δ} (hn : 1 ≤ N.length) (A' : At Γ ⟨G, H, fp, L2.start N (.ref x :: ws), [0]⟩ (ow w' :: deads (N.length - 1)) G' H' σ') :
    ∃ fp', GrowF fp G H G' H' ∧ (∀ y ∈ fp', G' y = none ∧ (y ∈ fp ∨ H y = none)) ∧ own Γ G' H' (.ref x) fp' w' := by
  obtain ⟨φ, h1, h3⟩ := A'.slots
  obtain ⟨o, e1, v, e2, ow'⟩ := h1.ok 0 (ow w') rfl
  have fx := A'.fix 0 (by simp)
  have e3 : (L2.start N (.ref x :: ws))[0]? = some (some (.ref x)) := by simp [L2.start]
  have fx : σ'[0]? = (L2.start N (.ref x :: ws))[0]? := fx
  rw [e1, e2, e3] at fx
  have ev : v = .ref x := by
    have := Option.some.inj fx
    exact Option.some.inj this
  subst ev
  refine ⟨φ 0, ⟨A'.le, A'.keep, A'.live, A'.sub, A'.thin⟩, fun y hy => ⟨(h3 0 y hy).1, ?_⟩, ow'⟩
  exact (h3 0 y hy).2.symm
/-- a def's own outcomes -/
abbrev ktZ (β : Type) {Z δ : Type} [Ow δ] (mk : Z → δ) (n : Nat) : Kt Empty β Z := ⟨fun l => l.elim, fun l => l.elim, fun c => ow (mk c) :: deads (n - 1), false, fun _ _ _ _ => False⟩
theorem calZ_of {S : Type} {sto : S → Sto} (D : Def Γ x st ps) (Sc : FnScope N ps (defScope st)) {m : τ → Z → Option (Fl S Empty β Z)} (hps : RpA.num τ + 1 = ps.length)
    (hb : ∀ (X : Cx) (B : Bs) (t : τ) (z : Z) (M : List Addr), Dok X Γ B N (defScope st) k [0] (fun _ _ _ _ => False) M → XB X Γ B (ktZ β mk N.length) (ow (mk z) :: (stoA t ++ deads (N.length - RpA.num τ - 1))) (defBody st) (m t z) sto)
    (fm : τ → Z → Option (β × Z)) (hm : ∀ t z, fm t z = (m t z).bind retI) : CalZ Γ x (k + 1) mk fm := by
  obtain ⟨a, fd, F, hg, bi⟩ := D.ex
  refine ⟨a, fd, ps, F.ok Sc (fun vs H Q E h => ?_) (fun cdv A outer s H vs Q E hr h => ?_), hg, F.kp, bi⟩
  · obtain ⟨G, t, z, b, z', ws, p, fp, h1, h2, h3, _⟩ := h
    rw [h2, List.length_cons, (RpA.okA (H := H) h3).1]
    exact hps
  · obtain ⟨G, t, z, b, z', ws, p, fp, h1, h2, h3, h4, h5, h6, q⟩ := h
    have hN : RpA.num τ + 1 ≤ N.length := by
      rw [hps]
      have z := congrArg List.length Sc.pre
      rw [List.length_take] at z
      omega
    subst h2
    have A0 := at_startZ (N := N) h1 h3 hN h4 h5
    refine ⟨_, hb _ ⟨G, H, fp, L2.start N (.ref p :: ws), [0]⟩ t z fp ⟨⟨rfl, rfl, rfl, rfl, rfl, rfl, Sc.nd, rfl, rfl, hr⟩, PassesOwn.never, fun _ => rfl, takes0, rfl, rfl, rfl, rfl⟩, ?_⟩
    rw [hm] at h6
    cases e : m t z with
    | none => rw [e] at h6; cases h6
    | some r =>
      rw [e] at h6
      refine ⟨G, r, A0, by first | exact e | rfl, ?_⟩
      cases r with
      | nx s1 => cases h6
      | bk l => exact l.elim
      | ct l => exact l.elim
      | ret b' c =>
        have h6 : some (b', c) = some (b, z') := h6
        cases h6
        intro v G' H' σ' A' r _
        obtain ⟨fp', q1, q2, q3⟩ := atZ_end (by omega) A'
        exact q v G' H' fp' q1 r q2 q3
      | err e' c => cases h6
end
/-! ### arguments that change the store as they are reckoned -/
def cAF (Γ : Gm) (B : Bs) (ρ : Sto) {τ S : Type} [RpA τ] (m : Option (τ × S)) (sto : S → Sto) : TA := fun σ H Q => ∃ G t s, At Γ B ρ G H σ ∧ m = some (t, s) ∧ ∀ vs G' H', Le G G' → At Γ B (sto s) G' H' σ → repA Γ G' vs t → Q vs H'
abbrev XAF (X : Cx) (Γ : Gm) (B : Bs) (ρ : Sto) (es : List Expr) {τ S : Type} [RpA τ] (m : Option (τ × S)) (sto : S → Sto) : Prop := PA X es (cAF Γ B ρ m sto)
theorem allExA {X : Cx} {es : List Expr} {I : Type} {t : I → TA} (h : ∀ i, PA X es (t i)) : PA X es (fun σ H Q => ∃ i, t i σ H Q) := ⟨fun pos pins s σ H Q I ⟨i, q⟩ => (h i).run pos pins s σ H Q I q⟩
section
variable {X : Cx} {Γ : Gm} {B : Bs} {L β C : Type} [Rp β] {F : Kt L β C} {ρ ρ' : Sto} {N : List Str} {sc : Scope} {k j : Nat} {fx : List Nat} {W : WX} {M : List Addr} {pos p p' p2 : Pos} {e a b o tg it elt kx : Expr} {st : Stmt} {sts rest body : List Stmt} {es : List Expr} {x : Str} {S S1 S2 : Type} {sto : S → Sto} {sto1 : S1 → Sto} {sto2 : S2 → Sto}
variable {α γ τ : Type} [Rp α] [Rp γ] [RpA τ]
/-- nothing changes -/
theorem xf_of {s : S} {m : Option α} (h : XE X Γ B (sto s) e m) : XF X Γ B (sto s) e (m.bind fun x => some (x, s)) sto := imE h fun σ H Q ⟨G, z, s', A, e, q⟩ => by
  cases m with
  | none => cases e
  | some y =>
    cases e
    exact ⟨G, z, A, rfl, fun v G1 H1 g1 r1 => q v G1 H1 g1.leG (A.grow g1) r1⟩
theorem xaf_nil {s : S} : XAF X Γ B (sto s) [] (some ((), s)) sto := imA pa_nil fun σ H Q ⟨G, z, s', A, e, q⟩ => by
  cases e
  exact q [] G H (.refl _) A rfl
theorem xaf_cons {m : Option (α × S)} {mt : S → Option (τ × S1)} (he : XF X Γ B ρ e m sto) (ht : ∀ s, XAF X Γ B (sto s) es (mt s) sto1) (hs : starEach (e :: es) X.env = (false, eval e X.env) :: starEach es X.env := by rfl) :
    XAF X Γ B ρ (e :: es) (m.bind fun q => (mt q.2).bind fun r => some ((q.1, r.1), r.2)) sto1 := imA (pa_cons he (allExA ht) hs) fun σ H Q ⟨G, t, s, A, e, q⟩ => by
  cases m with
  | none => cases e
  | some y =>
    have e : ((mt y.2).bind fun r => some ((y.1, r.1), r.2)) = some (t, s) := e
    cases hr : mt y.2 with
    | none => rw [hr] at e; cases e
    | some r =>
      rw [hr] at e
      cases e
      exact ⟨G, y.1, y.2, A, rfl, fun v G1 H1 l1 A1 r1 => ⟨y.2, G1, r.1, r.2, A1, hr, fun vs G2 H2 l2 A2 r2 => q (v :: vs) G2 H2 (l1.trans l2) A2 ⟨v, vs, rfl, Rp.mono l2 r1, r2⟩⟩⟩
/-- a pure def, its arguments so -/
theorem xf_callP {fr : Bool} (c : Cok X Γ N sc k) {f : τ → Option β} {mt : Option (τ × S)} (h : Cal Γ x j fr f) (hk : j ≤ k) (hg : Glb sc x) (ha : XAF X Γ B ρ (e :: es) mt sto) (hdb : (x == ("__debug__" : Str)) = false := by decide) (he : starEach (e :: es) X.env = (false, eval e X.env) :: starEach es X.env := by rfl) (hpl : (backTo pos (starEach es X.env)).any (·.1) = false := by rfl) :
    XF X Γ B ρ (.Call (.Name x p) (e :: es) [] pos) (mt.bind fun q => (f q.1).bind fun z => some (z, q.2)) sto := by
  obtain ⟨a, fd, ps, F, hm, kp, bi⟩ := h.ex
  refine imE (pe_call (dvs := []) (CX := CX0) (E := E0) (by rw [c.hP, c.hw, c.hK, c.hmg, c.hbase]; exact F) (c.room.mono hk) (c.gl hg) (by rw [c.hmg]; exact hm) (by rw [c.hK]; exact kp) (by rw [c.hK]; exact bi) .nil pass0 ha hdb he hpl) fun σ H Q ⟨G, z, s, A, e, q⟩ => ?_
  cases mt with
  | none => cases e
  | some t =>
    have e : ((f t.1).bind fun z => some (z, t.2)) = some (z, s) := e
    cases hf : f t.1 with
    | none => rw [hf] at e; cases e
    | some y =>
      rw [hf] at e
      cases e
      refine ⟨G, t.1, t.2, A, rfl, fun vs G1 H1 l1 A1 r1 => ?_⟩
      show specP Γ fr f (vs ++ []) H1 Q E0
      rw [List.append_nil]
      exact ⟨G1, t.1, z, A1.sub, r1, hf, fun v G2 H2 g2 r2 _ => q v G2 H2 (l1.trans g2.leG) (A1.grow g2) r2⟩
/-- f(s, ..): the object in slot i is handed over first -/
theorem xf_callZ {Z δ : Type} [I : Ow δ] [AI : Adr I] {mk : Z → δ} {stz : Z → Sto} (c : Cok X Γ N sc k) (i : Nat) {f : τ → Z → Option (β × Z)} {z0 : Z} {mt : Option (τ × Z)} {y : Str} {py : Pos} (h : CalZ Γ x j mk f) (hk : j ≤ k) (hg : Glb sc x) (hi : ∀ z, (stz z)[i]? = some (ow (mk z))) (hset : ∀ z z', (stz z).set i (ow (mk z')) = stz z')
    (hN : N[i]? = some y) (hv : Vis sc y) (ha : XAF X Γ B (stz z0) es mt stz) (hd : (y == ("__debug__" : Str)) = false := by decide) (hcd : (y == ("__classdict__" : Str)) = false := by decide) (hdb : (x == ("__debug__" : Str)) = false := by decide) (he : starEach (.Name y py :: es) X.env = (false, eval (.Name y py) X.env) :: starEach es X.env := by rfl) (hpl : (backTo pos (starEach es X.env)).any (·.1) = false := by rfl) :
    XF X Γ B (stz z0) (.Call (.Name x p) (.Name y py :: es) [] pos) (mt.bind fun q => f q.1 q.2) stz := by
  obtain ⟨a, fd, ps, F, hm, kp, bi⟩ := h.ex
  refine imE (pe_call (dvs := []) (CX := CX0) (E := E0) (by rw [c.hP, c.hw, c.hK, c.hmg, c.hbase]; exact F) (c.room.mono hk) (c.gl hg) (by rw [c.hmg]; exact hm) (by rw [c.hK]; exact kp) (by rw [c.hK]; exact bi) .nil pass0 (pa_cons (pv_ c hN hv hd hcd) ha he) hdb he hpl) fun σ H Q ⟨G, b, z', A, e, q⟩ => ?_
  cases mt with
  | none => cases e
  | some t =>
    have e : f t.1 t.2 = some (b, z') := e
    obtain ⟨v0, fp0, k1, k2, _⟩ := A.getO (hi z0)
    refine ⟨v0, k1, G, t.1, t.2, A, rfl, fun vs G1 H1 l1 A1 r1 => ?_⟩
    show specZ Γ mk f ((v0 :: vs) ++ []) H1 Q E0
    rw [List.append_nil]
    obtain ⟨v2, fp, h1, h2, h3, h4⟩ := A1.openF (hi t.2)
    rw [k1] at h1
    cases h1
    obtain ⟨q1, hq1⟩ := Adr.adr (I := I) h2
    subst hq1
    refine ⟨G1, t.1, t.2, b, z', vs, q1, fp, A1.sub, rfl, r1, h3, h2, e, fun v G2 H2 fp' g2 r2 hf2 o2 => ?_⟩
    have A2 := h4 δ I (mk z') G2 H2 fp' g2 hf2 o2
    rw [hset] at A2
    exact q v G2 H2 (l1.trans g2.leG) A2 r2
/-- an operation, both sides so -/
theorem xf_op2 {γ' : Type} [Rp γ'] {op : Operator} {r : L2.R2} {f : α → γ → Option γ'} {ma : Option (α × S)} {mb : S → Option (γ × S1)} (ho : OpR X (binaryOp op) r) (hf : Op2 Γ r f) (ha : XF X Γ B ρ a ma sto) (hb : ∀ s, XF X Γ B (sto s) b (mb s) sto1) :
    XF X Γ B ρ (.BinOp a op b pos) (ma.bind fun q => (mb q.2).bind fun t => (f q.1 t.1).bind fun z => some (z, t.2)) sto1 := imE (pe_op ho ha (allEx hb)) fun σ H Q ⟨G, z, s, A, e, q⟩ => by
  cases ma with
  | none => cases e
  | some x =>
    have e : ((mb x.2).bind fun t => (f x.1 t.1).bind fun z => some (z, t.2)) = some (z, s) := e
    cases hy : mb x.2 with
    | none => rw [hy] at e; cases e
    | some y =>
      rw [hy] at e
      have e : ((f x.1 y.1).bind fun z => some (z, y.2)) = some (z, s) := e
      cases hz : f x.1 y.1 with
      | none => rw [hz] at e; cases e
      | some w =>
        rw [hz] at e
        cases e
        refine ⟨G, x.1, x.2, A, rfl, fun v1 G1 H1 l1 A1 r1 => ⟨x.2, G1, y.1, y.2, A1, hy, fun v2 G2 H2 l2 A2 r2 => ?_⟩⟩
        exact hf G2 H2 v1 v2 x.1 y.1 _ A2.sub (Rp.mono l2 r1) r2 hz Q fun v G3 H3 g3 r3 => q v G3 H3 ((l1.trans l2).trans g3.leG) (A2.grow g3) r3
/-- places in a list, a tuple, a text -/
theorem xf_ix {ma : Option (List α × S)} {mb : S → Option (Int × S1)} (ha : XF X Γ B ρ a ma sto) (hb : ∀ s, XF X Γ B (sto s) b (mb s) sto1) (hs : PlainIx b := by intro _ _; rfl) : XF X Γ B ρ (.Subscript a b pos) (ma.bind fun q => (mb q.2).bind fun t => (atI q.1 t.1).bind fun z => some (z, t.2)) sto1 := imE (pe_ix ix_list ha (allEx hb) hs) fun σ H Q ⟨G, z, s, A, e, q⟩ => by
  cases ma with
  | none => cases e
  | some x =>
    have e : ((mb x.2).bind fun t => (atI x.1 t.1).bind fun z => some (z, t.2)) = some (z, s) := e
    cases hy : mb x.2 with
    | none => rw [hy] at e; cases e
    | some y =>
      rw [hy] at e
      have e : ((atI x.1 y.1).bind fun z => some (z, y.2)) = some (z, s) := e
      cases hz : atI x.1 y.1 with
      | none => rw [hz] at e; cases e
      | some w =>
        rw [hz] at e
        cases e
        refine ⟨G, x.1, x.2, A, rfl, fun v1 G1 H1 l1 A1 ⟨p, vs, h1, h2, r1⟩ => ⟨x.2, G1, y.1, y.2, A1, hy, fun v2 G2 H2 l2 A2 r2 => ?_⟩⟩
        obtain ⟨v, hv, r⟩ := atI_rep (r1.mono l2) hz
        exact ⟨p, vs, y.1, v, h1, rep1 r2, SqL.of (A2.sub.lst (l2 _ _ h2)), hv, q v G2 H2 (l1.trans l2) A2 r⟩
theorem xf_ixS {ma : Option (Tt × S)} {mb : S → Option (Int × S1)} (ha : XF X Γ B ρ a ma sto) (hb : ∀ s, XF X Γ B (sto s) b (mb s) sto1) (hs : PlainIx b := by intro _ _; rfl) : XF X Γ B ρ (.Subscript a b pos) (ma.bind fun q => (mb q.2).bind fun t => (atS q.1 t.1).bind fun z => some (z, t.2)) sto1 := imE (pe_ix ix_str ha (allEx hb) hs) fun σ H Q ⟨G, z, s, A, e, q⟩ => by
  cases ma with
  | none => cases e
  | some x =>
    have e : ((mb x.2).bind fun t => (atS x.1 t.1).bind fun z => some (z, t.2)) = some (z, s) := e
    cases hy : mb x.2 with
    | none => rw [hy] at e; cases e
    | some y =>
      rw [hy] at e
      have e : ((atS x.1 y.1).bind fun z => some (z, y.2)) = some (z, s) := e
      cases hz : atS x.1 y.1 with
      | none => rw [hz] at e; cases e
      | some w =>
        rw [hz] at e
        cases e
        refine ⟨G, x.1, x.2, A, rfl, fun v1 G1 H1 l1 A1 r1 => ⟨x.2, G1, y.1, y.2, A1, hy, fun v2 G2 H2 l2 A2 r2 => ?_⟩⟩
        have e : (if x.1.s.length ≤ BIG then atI (signs x.1) y.1 else none) = some z := hz
        by_cases hl : x.1.s.length ≤ BIG
        · rw [if_pos hl] at e
          refine ⟨x.1.s, y.1, z.c, rep1 r1, rep1 r2, big_le hl, ?_, q _ G2 H2 (l1.trans l2) A2 rfl⟩
          unfold atI at e ⊢
          have hsz : x.1.s.cps.toList.length = (signs x.1).length := by rw [signs_length, Array.length_toList]
          rw [hsz]
          cases hi : ixN (signs x.1).length y.1 with
          | none => rw [hi] at e; cases e
          | some j =>
            rw [hi] at e
            have e : (signs x.1)[j]? = some z := e
            have hj : j < x.1.s.cps.size := by
              rw [← signs_length]; exact (List.getElem?_eq_some_iff.mp e).1
            have h2 := signs_get x.1 (i := j) (c := x.1.s.cps[j]) (by simp [hj])
            rw [h2] at e
            cases e
            show x.1.s.cps.toList[j]? = _
            simp [hj]
        · rw [if_neg hl] at e; cases e
end
end Sim

set_option Elab.async false
set_option autoImplicit false
set_option linter.all false
set_option maxRecDepth 100000
set_option maxHeartbeats 1000000
namespace Sim
open PySem L2
open Rp (rep)
open At1 (toV)
open Ow (own)
open RpA (repA stoA)
/-- every slot's own things, and that D is none of them -/
def AtD (Γ : Gm) (B : Bs) (ρ : Sto) (G H : Hp) (σ : L2.St) (D : Addr) : Prop := At Γ B ρ G H σ ∧ ∃ φ, SlotsOk Γ G H σ ρ φ ∧ (∀ i, ∀ a ∈ φ i, G a = none ∧ (B.H a = none ∨ a ∈ B.M)) ∧ ∀ i, D ∉ φ i
theorem AtD.of {Γ : Gm} {B : Bs} {ρ : Sto} {G H : Hp} {σ : L2.St} {D : Addr} (A : At Γ B ρ G H σ) (h : H D = none) : AtD Γ B ρ G H σ D := by
  obtain ⟨φ, h1, h3⟩ := A.slots
  exact ⟨A, φ, h1, h3, fun i hm => h1.there i D hm h⟩
/-- D's own content changes -/
theorem AtD.put {Γ : Gm} {B : Bs} {ρ : Sto} {G H : Hp} {σ : L2.St} {D : Addr} {o : HO} (A : AtD Γ B ρ G H σ D) (hG : G D = none) (hB : B.H D = none) : AtD Γ B ρ G (upd H D o) σ D := by
  obtain ⟨A, φ, h1, h3, h4⟩ := A
  have kp : ∀ i, ∀ x ∈ φ i, ∀ u, H x = some u → upd H D o x = some u := fun i x hx u e => by
    rw [upd_ne fun z => h4 i (by rw [← z]; exact hx)]; exact e
  refine ⟨⟨fun a u e => ?_, A.le, fun a u ha e => ?_, fun a ha => ?_, A.thin, ⟨φ, h1.grow (.refl _) kp, h3⟩, A.fix⟩, φ, h1.grow (.refl _) kp, h3, h4⟩
  · rw [upd_ne fun z => by rw [z, hG] at e; cases e]; exact A.sub a u e
  · rw [upd_ne fun z => by rw [z, hB] at e; cases e]; exact A.keep a u ha e
  · by_cases z : a = D
    · rw [z, upd_same]; simp
    · rw [upd_ne z]; exact A.live a ha
/-- what is reckoned over one's own things leaves D be -/
theorem AtD.base {Γ : Gm} {B : Bs} {ρ : Sto} {G H : Hp} {σ : L2.St} {D : Addr} {u : HO} (A : AtD Γ B ρ G H σ D) (hD : H D = some u) (hG : G D = none) (nt : ∀ vs, u ≠ .tup vs) : ∃ B', At Γ B' ρ G H σ ∧ ∀ ρ' G' H', Le G G' → At Γ B' ρ' G' H' σ → AtD Γ B ρ' G' H' σ D ∧ H' D = some u ∧ G' D = none := by
  obtain ⟨A, φ, h1, h3, h4⟩ := A
  let M' : List Addr := (List.range ρ.length).flatMap φ
  have hM : ∀ {a : Addr}, a ∈ M' → ∃ i, a ∈ φ i := fun {a} h => by
    obtain ⟨i, _, hi⟩ := List.mem_flatMap.mp h
    exact ⟨i, hi⟩
  have hM2 : ∀ {i : Nat} {a : Addr}, a ∈ φ i → a ∈ M' := fun {i a} h => by
    refine List.mem_flatMap.mpr ⟨i, List.mem_range.mpr ?_, h⟩
    refine Classical.byContradiction fun z => ?_
    rw [h1.out i (by omega)] at h
    cases h
  refine ⟨⟨G, H, M', σ, B.fx⟩, ⟨A.sub, .refl _, fun _ _ _ h => h, fun _ h => h, fun _ _ _ h => .inl h, ⟨φ, h1, fun i a ha => ⟨(h3 i a ha).1, .inr (hM2 ha)⟩⟩, fun _ _ => rfl⟩, fun ρ' G' H' lG A' => ?_⟩
  have outM : ∀ {a : Addr}, a ∉ B.M → B.H a ≠ none → a ∉ M' := fun {a} hm hb h => by
    obtain ⟨i, hi⟩ := hM h
    rcases (h3 i a hi).2 with z | z
    · exact hb z
    · exact hm z
  have DM : D ∉ M' := fun h => by
    obtain ⟨i, hi⟩ := hM h
    exact h4 i hi
  have thin : ∀ a, a ∉ M' → H a ≠ none → G a = none → Th (H a) (G' a) := fun a => A'.thin a
  obtain ⟨φ', k1, k3⟩ := A'.slots
  have k3' : ∀ i, ∀ a ∈ φ' i, G' a = none ∧ (B.H a = none ∨ a ∈ B.M) := fun i a ha => by
    refine ⟨(k3 i a ha).1, ?_⟩
    rcases (k3 i a ha).2 with z | z
    · left
      cases q : B.H a with
      | none => rfl
      | some o => exact absurd z (A.live a (some_ne q))
    · obtain ⟨j, hj⟩ := hM z
      exact (h3 j a hj).2
  refine ⟨⟨⟨A'.sub, A.le.trans lG, fun a o ha e => ?_, fun a ha => A'.live a (A.live a ha), fun a ha hb hg => ?_, ⟨φ', k1, k3'⟩, fun i hi => ?_⟩, φ', k1, k3', fun i hm => ?_⟩, A'.keep D u DM hD, (thin D DM (some_ne hD) hG).none fun ws e => by rw [hD] at e; exact nt ws (Option.some.inj e)⟩
  · exact A'.keep a o (outM ha (some_ne e)) (A.keep a o ha e)
  · refine (A.thin a ha hb hg).trans fun z => ?_
    have hh : H a = B.H a := by
      cases q : B.H a with
      | none => exact absurd q hb
      | some o => exact A.keep a o ha q
    rw [← hh]
    exact thin a (outM ha hb) (by rw [hh]; exact hb) z
  · have := A.fix i hi
    exact this
  · rcases (k3 i D hm).2 with z | z
    · have z : H D = none := z
      rw [hD] at z; cases z
    · exact DM z
/-! ### comprehensions whose items change the store -/
def lcFM {α γ S : Type} (f : α → S → Option (γ × S)) : List α → S → Option (List γ × S)
  | [], s => some ([], s)
  | x :: r, s => (f x s).bind fun q => (lcFM f r q.2).bind fun t => some (q.1 :: t.1, t.2)
@[irreducible] def lcF {α γ S : Type} (f : α → S → Option (γ × S)) (xs : List α) (s : S) : Option (List γ × S) := if xs.length ≤ BIG then lcFM f xs s else none
theorem lcFM_len {α γ S : Type} {f : α → S → Option (γ × S)} : ∀ {xs : List α} {s : S} {r : List γ × S}, lcFM f xs s = some r → r.1.length = xs.length
  | [], s, r, h => by cases h; rfl
  | x :: t, s, r, h => by
    have h : (f x s).bind (fun q => (lcFM f t q.2).bind fun u => some (q.1 :: u.1, u.2)) = some r := h
    cases h1 : f x s with
    | none => rw [h1] at h; cases h
    | some q =>
      rw [h1] at h
      have h : ((lcFM f t q.2).bind fun u => some (q.1 :: u.1, u.2)) = some r := h
      cases h2 : lcFM f t q.2 with
      | none => rw [h2] at h; cases h
      | some u =>
        rw [h2] at h
        cases h
        have := lcFM_len h2
        simp [this]
section
variable {X : Cx} {Γ : Gm} {B : Bs} {ρ ρ' : Sto} {N : List Str} {sc : Scope} {k : Nat} {fx : List Nat} {W : WX} {M : List Addr} {pos p p' : Pos} {e a b o tg it elt : Expr} {es : List Expr} {S : Type} {sto : S → Sto}
variable {α β γ : Type} [Rp α] [Rp β] [Rp γ]
theorem lcF_sim {i : Nat} {mxs : Option (List α)} {f : α → S → Option (γ × S)} {s0 : S} (hf : i ∉ B.fx) (hρ : ∀ s, i < (sto s).length) (hd : ∀ s, (sto s).set i .dead = sto s) {σ : L2.St} {H : Hp} {Q : VK} (h : cF Γ B (sto s0) (mxs.bind fun xs => lcF f xs s0) sto σ H Q) :
    tLc (cI Γ B (sto s0) mxs) (gName i) (fun σ H Q => Q true H) (fun σ H Q => ∃ z : Bs × α × S, cF Γ z.1 ((sto z.2.2).set i (vl z.2.1)) (f z.2.1 z.2.2) (fun s => (sto s).set i (vl z.2.1)) σ H Q) [i] σ H Q := by
  obtain ⟨G, zs, sE, A, e, q⟩ := h
  cases mxs with
  | none => cases e
  | some xs =>
    obtain ⟨hl, e⟩ : xs.length ≤ BIG ∧ lcFM f xs s0 = some (zs, sE) := by
      have e : lcF f xs s0 = some (zs, sE) := e
      unfold lcF at e
      by_cases hc : xs.length ≤ BIG
      · rw [if_pos hc] at e; exact ⟨hc, e⟩
      · rw [if_neg hc] at e; cases e
    have hzl := lcFM_len e
    simp only at hzl
    refine ⟨G, xs, A, rfl, fun J G' H' g ⟨Y, hw, hy⟩ D hD => ?_⟩
    have hGD : G' D = none := g.sub.none hD
    have A' := A.grow g
    have hBD : B.H D = none := by
      cases z : B.H D with
      | none => rfl
      | some u => exact absurd hD (A'.live D (some_ne z))
    refine lc_it (g := gName i) (tt := fun σ H Q => Q true H) (te := fun σ H Q => ∃ z : Bs × α × S, cF Γ z.1 ((sto z.2.2).set i (vl z.2.1)) (f z.2.1 z.2.2) (fun s => (sto s).set i (vl z.2.1)) σ H Q) (vs := [i]) (σ := σ) (Qd := fun H2 => Q (.ref D) H2) hw
      (fun j H2 => ∃ G1 vs ys ws s, Le G' G1 ∧ AtD Γ B (sto s) G1 H2 σ D ∧ G1 D = none ∧ H2 D = some (.lst vs) ∧ RpL Γ G1 vs ys ∧ lcFM f (xs.drop j) s = some (ws, sE) ∧ ys ++ ws = zs)
      ⟨G', [], [], zs, s0, .refl _, (AtD.of A' hD).put hGD hBD, hGD, upd_same, .nil, e, rfl⟩ (fun j H2 _ ⟨G1, vs, ys, ws, s, l1, A1, _⟩ => ⟨G1, l1, A1.1.sub⟩) ?_ ?_
    · rintro j v H2 H3 hj ⟨G1, vs, ys, ws, s, l1, A1, hG1, hD1, r1, e1, e2⟩ y
      obtain ⟨x0, G2, hx0, g2, rv⟩ := hy j H2 v H3 hj y G1 l1 A1.1.sub
      have ed : xs.drop j = x0 :: xs.drop (j + 1) := by
        obtain ⟨h1, h2⟩ := List.getElem?_eq_some_iff.mp hx0
        rw [List.drop_eq_getElem_cons h1, h2]
      rw [ed] at e1
      have hG2 : G2 D = none := (g2.thin D (some_ne hD1) hG1).none fun ws e => by rw [hD1] at e; cases e
      have hD2 : H3 D = some (.lst vs) := g2.leH _ _ hD1
      -- the store with the target set
      have A2 : AtD Γ B (sto s) G2 H3 σ D := by
        obtain ⟨A1, φ, h1, h3, h4⟩ := A1
        refine ⟨A1.grow g2, φ, h1.grow g2.leG fun i x _ o e => g2.leH x o e, fun i a ha => ⟨(g2.thin a (h1.there i a ha) (h3 i a ha).1).none (h1.nt i a ha), (h3 i a ha).2⟩, h4⟩
      have A3 : AtD Γ B ((sto s).set i (vl x0)) G2 H3 ((σ.set i none).set i (some v)) D := by
        obtain ⟨A2, φ, h1, h3, h4⟩ := A2
        have w := A2.wiped i hf
        have B3 := w.setV (i := i) (by simpa using hρ s) rv hf
        simp only [List.set_set] at B3
        obtain ⟨hls, hlr⟩ : i < σ.length ∧ i < (sto s).length := ⟨by rw [A2.len]; exact hρ s, hρ s⟩
        refine ⟨by simpa using B3, setφ φ i [], ?_, fun j a ha => ?_, fun j hm => ?_⟩
        · have := h1.set (i := i) (o := some v) (s := vl x0) (fp := []) hlr ⟨rfl, v, rfl, rv⟩ fun j x _ hx => by simp at hx
          simpa using this
        · rcases mem_setφ ha with ⟨_, q⟩ | ⟨_, q⟩
          · simp at q
          · exact h3 j a q
        · rcases mem_setφ hm with ⟨_, q⟩ | ⟨_, q⟩
          · simp at q
          · exact h4 j q
      show wipe ((wipe σ [i]).set i (some v)) [i] = wipe σ [i] ∧ _
      refine ⟨wipe_set1, ?_⟩
      show (if true = true then _ else _)
      rw [if_pos rfl]
      have e1 : (f x0 s).bind (fun q => (lcFM f (xs.drop (j + 1)) q.2).bind fun t => some (q.1 :: t.1, t.2)) = some (ws, sE) := e1
      cases hfx : f x0 s with
      | none => rw [hfx] at e1; cases e1
      | some y1 =>
        rw [hfx] at e1
        have e1 : ((lcFM f (xs.drop (j + 1)) y1.2).bind fun t => some (y1.1 :: t.1, t.2)) = some (ws, sE) := e1
        cases hr : lcFM f (xs.drop (j + 1)) y1.2 with
        | none => rw [hr] at e1; cases e1
        | some us =>
          rw [hr] at e1
          have e1 : some (y1.1 :: us.1, us.2) = some (ws, sE) := e1
          have e1 := Option.some.inj e1
          have ew : ws = y1.1 :: us.1 := (congrArg Prod.fst e1).symm
          have es' : us.2 = sE := congrArg Prod.snd e1
          obtain ⟨B', A4, back⟩ := A3.base hD2 hG2 (fun vs => by intro z; cases z)
          refine ⟨(B', x0, s), G2, y1.1, y1.2, A4, hfx, fun w G5 H5 l5 A5 r5 => ?_⟩
          obtain ⟨A6, hD6, hG6⟩ := back _ G5 H5 l5 A5
          have hz := lcFM_len hr
          refine ⟨vs, hD6, ?_, G5, vs ++ [w], ys ++ [y1.1], us.1, y1.2, (l1.trans g2.leG).trans l5, ?_, hG6, upd_same, (r1.mono (g2.leG.trans l5)).append (.cons r5 .nil), by rw [hr, ← es'], by rw [← e2, ew]; simp⟩
          · have : vs.length = ys.length := r1.length
            have h3 : ys.length ≤ zs.length := by rw [← e2]; simp
            exact big_lt (by omega)
          · -- back to the store without the target
            have A7 := A6.put (o := .lst (vs ++ [w])) hG6 hBD
            obtain ⟨A7, φ, h1, h3, h4⟩ := A7
            have hs7 : ((σ.set i none).set i (some v)).length = σ.length := by simp
            have key : ∀ (φ : Nat → List Addr), SlotsOk Γ G5 (upd H5 D (.lst (vs ++ [w]))) ((σ.set i none).set i (some v)) ((sto y1.2).set i (vl x0)) φ → SlotsOk Γ G5 (upd H5 D (.lst (vs ++ [w]))) σ (sto y1.2) (setφ φ i []) := fun φ h1 => by
              have hi : i < ((sto y1.2).set i (vl x0)).length := by simpa using hρ y1.2
              have hσi : i < σ.length := by rw [A.len]; exact hρ s0
              have := h1.set (i := i) (o := σ[i]) (s := .dead) (fp := []) hi rfl fun j x _ hx => by simp at hx
              simp only [List.set_set] at this
              rw [hd y1.2] at this
              have e : σ.set i σ[i] = σ := by simp
              rw [e] at this
              exact this
            refine ⟨⟨A7.sub, A7.le, A7.keep, A7.live, A7.thin, ?_, fun j hj => ?_⟩, setφ φ i [], key φ h1, fun j a ha => ?_, fun j hm => ?_⟩
            · obtain ⟨φ', q1, q3⟩ := A7.slots
              refine ⟨setφ φ' i [], key φ' q1, fun j a ha => ?_⟩
              rcases mem_setφ ha with ⟨_, q⟩ | ⟨_, q⟩
              · simp at q
              · exact q3 j a q
            · exact A.fix j hj
            · rcases mem_setφ ha with ⟨_, q⟩ | ⟨_, q⟩
              · simp at q
              · exact h3 j a q
            · rcases mem_setφ hm with ⟨_, q⟩ | ⟨_, q⟩
              · simp at q
              · exact h4 j q
    · rintro H2 ⟨G1, vs, ys, ws, s, l1, A1, hG1, hD1, r1, e1, e2⟩
      rw [List.drop_length] at e1
      have e1 : some (([] : List γ), s) = some (ws, sE) := e1
      have e1 := Option.some.inj e1
      have ew : ws = [] := (congrArg Prod.fst e1).symm
      have es' : s = sE := congrArg Prod.snd e1
      subst ew es'
      rw [List.append_nil] at e2
      subst e2
      -- the list is frozen
      obtain ⟨A1, φ, h1, h3, h4⟩ := A1
      have le : Le G1 (upd G1 D (.lst vs)) := fun a o ho => by rw [upd_ne fun z => by rw [z, hG1] at ho; cases ho]; exact ho
      refine q (.ref D) (upd G1 D (.lst vs)) H2 ((g.leG.trans l1).trans le) ⟨fun a o ho => ?_, A1.le.trans le, A1.keep, A1.live, fun a ha hb hg => ?_, ⟨φ, h1.grow le fun i x _ o e => e, fun i a ha => ⟨?_, (h3 i a ha).2⟩⟩, A1.fix⟩ ⟨D, vs, rfl, upd_same, r1.mono le⟩
      · by_cases z : a = D
        · rw [z, upd_same] at ho
          rw [z, hD1]; exact ho
        · rw [upd_ne z] at ho; exact A1.sub a o ho
      · by_cases z : a = D
        · rw [z] at hb; exact absurd hBD hb
        · rw [upd_ne z]; exact A1.thin a ha hb hg
      · rw [upd_ne fun z => h4 i (by rw [← z]; exact ha)]; exact (h3 i a ha).1
theorem xf_lc (d : Cok X Γ N sc k) {x : Str} {px : Pos} {i : Nat} {scope sc' : Scope} {mxs : Option (List α)} {f : α → S → Option (γ × S)} {s0 : S} (hi : XI X Γ B (sto s0) (.Name x px) it mxs) (hsc : relS scope sc = sc') (hB : blkC N sc scope [(x, i)] = true) (hx : N[i]? = some x) (hxl : scope.names.lookup x = some .local) (hxl' : sc'.names.lookup x = some .local) (hfx : B.fx = fx)
    (he : ∀ X' B', Cok X' Γ N sc' k → ∀ (a : α) (s : S), XF X' Γ B' ((sto s).set i (vl a)) elt (f a s) (fun s => (sto s).set i (vl a))) (hd : ∀ s, (sto s).set i .dead = sto s := by intro _; rfl) (hs : ∀ x, foldedSetIterable it X.env x = pure x := by intro _; rfl) (hρ : ∀ s, Nat.ble (i + 1) (sto s).length = true := by intro _; rfl) (hfc : fx.contains i = false := by rfl) :
    XF X Γ B (sto s0) (.ListComp elt [⟨.Name x px, it, [], 0⟩] scope pos) (mxs.bind fun xs => lcF f xs s0) sto := by
  have cb : ∀ (s : Shared) (H : Hp) (C : Addr) (cl : List (Str × Addr)) (fp : List Addr), Cok (X.blk s H scope (compEnvC scope cl C X.env) fp) Γ N sc' k := fun s H C cl fp => d.blk hsc
  exact imE (pe_lc (own := [(x, i)]) (g := gName i) (tt := fun σ H Q => Q true H) (te := fun σ H Q => ∃ z : Bs × α × S, cF Γ z.1 ((sto z.2.2).set i (vl z.2.1)) (f z.2.1 z.2.2) (fun s => (sto s).set i (vl z.2.1)) σ H Q) d.calm (by rw [d.hN]; exact d.nd) hi (by rw [d.hN, d.hsc]; exact blkOk_by hB)
    (fun s H C cl fp => pg_name (i := i) (by rw [(cb s H C cl fp).hN]; exact d.nd) (by rw [(cb s H C cl fp).hN]; exact hx) (by rw [(cb s H C cl fp).hsc]; exact .inl hxl') (.inr (by rw [(cb s H C cl fp).hsc]; exact hxl')))
    (fun s H C cl fp => ⟨fun pins s' σ H' Q I q => pts_nil.run pins s' σ H' Q I q⟩) (fun s H C cl fp => allEx fun z => he _ z.1 (cb s H C cl fp) z.2.1 z.2.2) hs) fun σ H Q h => lcF_sim (lc_pre (ρ := sto s0) (hρ s0) hfc hfx).1 (fun s => Nat.le_of_ble_eq_true (hρ s)) hd h
end
end Sim

set_option Elab.async false
set_option autoImplicit false
set_option linter.all false
set_option maxRecDepth 100000
set_option maxHeartbeats 1000000
namespace Sim
open PySem L2
open Rp (rep)
open At1 (toV)
open Ow (own)
open RpA (repA stoA)
/-! ### a list of numbers and a number: [[..], n] -/
structure OZ where
  l : List Int
  n : Int
  deriving DecidableEq
instance instOwOZ : Ow OZ where
  own := fun Γ G H v fp s => ∃ a b, v = .ref a ∧ fp = [a, b] ∧ a ≠ b ∧ H a = some (.lst [.ref b, .int s.n]) ∧ H b = some (.lst (s.l.map V.int))
  stay := fun ⟨a, b, h1, h2, h3, h4, h5⟩ e k => ⟨a, b, h1, h2, h3, k a (by rw [h2]; simp) _ h4, k b (by rw [h2]; simp) _ h5⟩
  there := fun ⟨a, b, h1, h2, h3, h4, h5⟩ x hx => by
    rw [h2] at hx
    simp only [List.mem_cons, List.not_mem_nil, or_false] at hx
    rcases hx with z | z <;> rw [z]
    · exact some_ne h4
    · exact some_ne h5
  nt := fun ⟨a, b, h1, h2, h3, h4, h5⟩ x hx ws e => by
    rw [h2] at hx
    simp only [List.mem_cons, List.not_mem_nil, or_false] at hx
    rcases hx with z | z
    · rw [z, h4] at e; cases e
    · rw [z, h5] at e; cases e
  F := Unit
  iF := inferInstance
  toF := fun _ => ()
  canF := false
  fz := fun h => by cases h
instance : Adr instOwOZ := ⟨fun ⟨a, b, h1, _⟩ => ⟨a, h1⟩⟩
section
variable {X : Cx} {Γ : Gm} {B : Bs} {L β C : Type} [Rp β] {F : Kt L β C} {ρ ρ' : Sto} {N : List Str} {sc : Scope} {k j : Nat} {fx : List Nat} {W : WX} {M : List Addr} {pos p p' p1 p2 : Pos} {e a b o tg it elt kx : Expr} {st : Stmt} {sts rest body : List Stmt} {es : List Expr} {x : Str} {S S1 S2 : Type} {sto : S → Sto} {sto1 : S1 → Sto} {sto2 : S2 → Sto}
variable {α γ τ : Type} [Rp α] [Rp γ] [RpA τ]
theorem xe_oz1 (c : Cok X Γ N sc k) (i : Nat) {z : OZ} {j : Nat} (hi : ρ[i]? = some (ow z)) (hN : N[i]? = some x) (hv : Vis sc x) (hd : (x == ("__debug__" : Str)) = false := by decide) (hcd : (x == ("__classdict__" : Str)) = false := by decide) :
    XE X Γ B ρ (.Subscript (.Name x p) (.Constant (.int 1) j p1) pos) (some z.n) := imE (pe_ix ix_list (pv_ c hN hv hd hcd) pe_int fun _ _ => rfl) fun σ H Q ⟨G, y, A, e, q⟩ => by
  cases e
  obtain ⟨v, fp, h1, ⟨a, b, rfl, h3, h4, h5, h6⟩, _⟩ := A.getO hi
  exact ⟨.ref a, h1, a, _, 1, .int z.n, rfl, rfl, SqL.of h5, rfl, q _ G H (.refl A.sub) rfl⟩
theorem xr_oz0 (c : Cok X Γ N sc k) (i : Nat) {z : OZ} {j : Nat} (hi : ρ[i]? = some (ow z)) (hN : N[i]? = some x) (hv : Vis sc x) (hd : (x == ("__debug__" : Str)) = false := by decide) (hcd : (x == ("__classdict__" : Str)) = false := by decide) :
    XR X Γ B ρ (.Subscript (.Name x p) (.Constant (.int 0) j p1) pos) (some z.l) := imE (pe_ix ix_list (pv_ c hN hv hd hcd) pe_int fun _ _ => rfl) fun σ H Q ⟨G, y, A, e, q⟩ => by
  cases e
  obtain ⟨v, fp, h1, ⟨a, b, rfl, h3, h4, h5, h6⟩, _⟩ := A.getO hi
  exact ⟨.ref a, h1, a, _, 0, .ref b, rfl, rfl, SqL.of h5, rfl, q b _ G H (.refl A.sub) h6 (RpL.ofV (α := Int) _)⟩
/-- s[0].pop(0) -/
def ozPop (z : OZ) : Option (Int × OZ) := match z.l with
  | [] => none
  | y :: r => if z.l.length ≤ BIG then some (y, ⟨r, z.n⟩) else none
theorem xf_ozPop (c : Cok X Γ N sc k) (i : Nat) {z : OZ} {j j2 : Nat} {p3 apos cpos : Pos} (hi : ρ[i]? = some (ow z)) (hN : N[i]? = some x) (hv : Vis sc x) (hd : (x == ("__debug__" : Str)) = false := by decide) (hcd : (x == ("__classdict__" : Str)) = false := by decide)
    (hbase : attributeBase (.Subscript (.Name x p) (.Constant (.int 0) j p1) p2) "pop" X.env (eval (.Subscript (.Name x p) (.Constant (.int 0) j p1) p2) X.env) = eval (.Subscript (.Name x p) (.Constant (.int 0) j p1) p2) X.env := by rfl)
    (hfew : ((backTo cpos (starEach [.Constant (.int 0) j2 p3] X.env)).all (fun x => !x.1) && (backToKw cpos (keywordEach [] X.env)).all (fun x => x.1.isSome)
      && decide ([Expr.Constant (.int 0) j2 p3].length + ([] : List Keyword).length + (if ([] : List Keyword).isEmpty then 0 else 1) < 30)) = true := by rfl)
    (hline : (apos.endLine == cpos.line) = true := by rfl) (hs : starEach [.Constant (.int 0) j2 p3] X.env = (false, eval (.Constant (.int 0) j2 p3) X.env) :: starEach [] X.env := by rfl) :
    XF X Γ B ρ (.Call (.Attribute (.Subscript (.Name x p) (.Constant (.int 0) j p1) p2) "pop" apos) [.Constant (.int 0) j2 p3] [] cpos) (ozPop z) (fun z' => ρ.set i (ow z')) :=
  imE (pe_bm PySem.F.plainAttrs_list PySem.F.slot_list_pop PySem.F.type_list_pop mt_popAt (pe_ix ix_list (pv_ c hN hv hd hcd) pe_int fun _ _ => rfl) (pa_cons pe_int pa_nil hs) hbase hfew hline hs (by rfl)) fun σ H Q ⟨G, y, s, A, e, q⟩ => by
  obtain ⟨v, fp, h1, ⟨a, b, rfl, h3, h4, h5, h6⟩, h7, h8⟩ := A.openF hi
  unfold ozPop at e
  cases hl : z.l with
  | nil => rw [hl] at e; cases e
  | cons y0 r =>
    rw [hl] at e
    have e : (if (y0 :: r).length ≤ BIG then some (y0, (⟨r, z.n⟩ : OZ)) else none) = some (y, s) := e
    by_cases hb : (y0 :: r).length ≤ BIG
    · rw [if_pos hb] at e
      cases e
      rw [hl] at h6
      refine ⟨.ref a, h1, a, _, 0, .ref b, rfl, rfl, SqL.of h5, rfl, .inl ⟨rfl, _, SqL.of h6⟩, b, _, 0, 0, .int y, rfl, rfl, h6, by decide, by decide, ?_, rfl, ?_⟩
      · exact PySem.StrLaws.seqIndex_nonneg (by decide) (by first | (simp; done) | (simp; omega))
      · have hGb : G b = none := h7 b (by rw [h3]; simp)
        have gf : GrowF fp G H G (upd H b (.lst (r.map V.int))) := by
          refine ⟨.refl _, fun x o hx e => ?_, fun x hx => ?_, fun x o e => ?_, fun x _ _ e => .inl e⟩
          · rw [upd_ne fun z => hx (by rw [z, h3]; simp)]; exact e
          · by_cases z : x = b
            · rw [z, upd_same]; simp
            · rw [upd_ne z]; exact hx
          · rw [upd_ne fun z => by rw [z, hGb] at e; cases e]; exact A.sub x o e
        exact q _ G _ (.refl _) (h8 OZ instOwOZ ⟨r, z.n⟩ G _ fp gf (fun x hx => ⟨h7 x hx, .inl hx⟩) ⟨a, b, rfl, h3, h4, by rw [upd_ne h4]; exact h5, upd_same⟩) rfl
    · rw [if_neg hb] at e; cases e
/-- s[1] = e -/
theorem xp_ozSet (d : Dok X Γ B N sc k fx W M) (i : Nat) {z : OZ} {j : Nat} {m : Option Int} (he : XE X Γ B ρ e m) (hi : ρ[i]? = some (ow z)) (hN : N[i]? = some x) (hv : Vis sc x) (hd : (x == ("__debug__" : Str)) = false := by decide) (hcd : (x == ("__classdict__" : Str)) = false := by decide)
    (ha : ∀ v, assign (.Subscript (.Name x p) (.Constant (.int 1) j p1) p2) X.env v = (do
      let ov ← holding [v] (eval (.Name x p) X.env)
      let iv ← holding [v, ov] (eval (.Constant (.int 1) j p1) X.env)
      standAt p2
      holding [v, ov, iv] (setItem ov iv v)
      release [v, ov, iv] []) := by intro _; rfl)
    (hs : swapsWithSole [.Subscript (.Name x p) (.Constant (.int 1) j p1) p2] e pos.line X.env = pure false := by rfl) (hw : swappedStores [.Subscript (.Name x p) (.Constant (.int 1) j p1) p2] e X.env = pure none := by rfl) :
    XP1 X Γ B ρ (.Assign [.Subscript (.Name x p) (.Constant (.int 1) j p1) p2] e pos) m (fun n => ρ.set i (ow (OZ.mk z.l n))) :=
  imS (ps_asg he (pg_sub (pv_ d.toCok hN hv hd hcd) pe_int set_list ha) hs hw) fun D σ H ⟨G, s, A, e, q⟩ => by
  refine ⟨G, s, A, e, fun v G1 H1 g1 r1 => ?_⟩
  have A1 := A.grow g1
  obtain ⟨u, fp, h1, ⟨a, b, rfl, h3, h4, h5, h6⟩, h7, h8⟩ := A1.openF hi
  have hGa : G1 a = none := h7 a (by rw [h3]; simp)
  refine ⟨.ref a, h1, a, [.ref b, .int z.n], 1, 1, rfl, rfl, h5, rfl, ?_⟩
  have gf : GrowF fp G1 H1 G1 (upd H1 a (.lst [.ref b, v])) := by
    refine ⟨.refl _, fun x o hx e => ?_, fun x hx => ?_, fun x o e => ?_, fun x _ _ e => .inl e⟩
    · rw [upd_ne fun z => hx (by rw [z, h3]; simp)]; exact e
    · by_cases z : x = a
      · rw [z, upd_same]; simp
      · rw [upd_ne z]; exact hx
    · rw [upd_ne fun z => by rw [z, hGa] at e; cases e]; exact A1.sub x o e
  exact q G1 _ σ (h8 OZ instOwOZ ⟨z.l, s⟩ G1 _ fp gf (fun x hx => ⟨h7 x hx, .inl hx⟩) ⟨a, b, rfl, h3, h4, by rw [upd_same, rep1 r1]; rfl, by rw [upd_ne (Ne.symm h4)]; exact h6⟩)
/-! ### more that changes the store as it is reckoned -/
theorem xf_int (c : Cok X Γ N sc k) {m : Option (Int × S)} (ha : XF X Γ B ρ a m sto) (hg : Glb sc "int") (hm : Γ.mg "int" = none) (s1 : starEach [a] X.env = (false, eval a X.env) :: starEach [] X.env := by rfl) : XF X Γ B ρ (.Call (.Name "int" p) [a] [] pos) m sto :=
  imE (pe_callTy call_int1 (c.gl hg) (by rw [c.hmg]; exact hm) (by decide +kernel) (pa_cons ha pa_nil s1) (he := s1)) fun σ H Q ⟨G, z, s, A, e, q⟩ =>
  ⟨G, z, s, A, e, fun v G1 H1 l1 A1 r1 => .inl ⟨z, by rw [rep1 r1]; rfl, q _ G1 H1 l1 A1 rfl⟩⟩
def absI (i : Int) : Int := if i < 0 then -i else i
theorem xf_abs (c : Cok X Γ N sc k) {m : Option (Int × S)} (ha : XF X Γ B ρ a m sto) (hg : Glb sc "abs") (hm : Γ.mg "abs" = none) (s1 : starEach [a] X.env = (false, eval a X.env) :: starEach [] X.env := by rfl) (hpl : (backTo pos (starEach [] X.env)).any (·.1) = false := by rfl) : XF X Γ B ρ (.Call (.Name "abs" p) [a] [] pos) (m.bind fun q => some (absI q.1, q.2)) sto :=
  imE (pe_callB call_abs (c.gl hg) (by rw [c.hmg]; exact hm) (by decide +kernel) (pa_cons ha pa_nil s1) (he := s1) (hpl := hpl)) fun σ H Q ⟨G, z, s, A, e, q⟩ => by
  cases m with
  | none => cases e
  | some y =>
    cases e
    exact ⟨G, y.1, y.2, A, rfl, fun v G1 H1 l1 A1 r1 => ⟨y.1, by rw [rep1 r1]; rfl, q _ G1 H1 l1 A1 rfl⟩⟩
/-- a ** b of small numbers -/
@[irreducible] def ppow (i j : Int) : Option Int := if 0 ≤ j ∧ j ≤ 1000 ∧ i.natAbs < 1000000 then some (i ^ j.toNat) else none
theorem o_pow : Op2 Γ (rI CPow fun i j => .int (i ^ j.toNat)) ppow := op2_pure fun p q z H Q e k => by
  unfold ppow at e
  obtain ⟨h, e⟩ := ite_some e
  exact ⟨p, q, rfl, rfl, ⟨h.1, by omega, by omega⟩, by subst e; exact k⟩
/-- tests -/
theorem xtf_ofT {s : S} {m : Option Bool} (h : XT X Γ B (sto s) e m) : XTF X Γ B (sto s) e (m.bind fun b => some (b, s)) sto := imT h fun σ H Q ⟨G, b, s', A, e, q⟩ => by
  cases m with
  | none => cases e
  | some y =>
    cases e
    exact ⟨G, b, A, rfl, fun G1 H1 g1 => q G1 H1 g1.leG (A.grow g1)⟩
abbrev XWF (X : Cx) (Γ : Gm) (B : Bs) (ρ : Sto) (e : Expr) {S : Type} (m : Option (Bool × S)) (sto : S → Sto) : Prop := PW X e (cTF Γ B ρ m sto)
theorem xwf_and1 {m : Option (Bool × S)} (h : XTF X Γ B ρ a m sto) : XWF X Γ B ρ (.BoolOp .And [a] pos) m sto := pw_and1 h
theorem xwf_or1 {m : Option (Bool × S)} (h : XTF X Γ B ρ a m sto) : XWF X Γ B ρ (.BoolOp .Or [a] pos) m sto := pw_or1 h
theorem allExW {I : Type} {t : I → TT} (h : ∀ i, PW X e (t i)) : PW X e (fun σ H Q => ∃ i, t i σ H Q) := ⟨fun w pins s σ H Q I ⟨i, q⟩ => (h i).run w pins s σ H Q I q⟩
theorem xwf_and {ma : Option (Bool × S)} {mb : S → Option (Bool × S)} (ha : XTF X Γ B ρ a ma sto) (hb : ∀ s, XWF X Γ B (sto s) (.BoolOp .And (b :: es) pos) (mb s) sto) : XWF X Γ B ρ (.BoolOp .And (a :: b :: es) pos) (ma.bind fun q => if q.1 = true then mb q.2 else some (false, q.2)) sto := imW (pw_and ha (allExW hb)) fun σ H Q ⟨G, z, s, A, e, q⟩ => by
  cases ma with
  | none => cases e
  | some y =>
    obtain ⟨t, s1⟩ := y
    refine ⟨G, t, s1, A, rfl, fun G1 H1 l1 A1 => ?_⟩
    cases t with
    | true => exact ⟨s1, G1, z, s, A1, e, fun G2 H2 l2 A2 => q G2 H2 (l1.trans l2) A2⟩
    | false =>
      have e : some (false, s1) = some (z, s) := e
      cases e
      exact q G1 H1 l1 A1
theorem xwf_or {ma : Option (Bool × S)} {mb : S → Option (Bool × S)} (ha : XTF X Γ B ρ a ma sto) (hb : ∀ s, XWF X Γ B (sto s) (.BoolOp .Or (b :: es) pos) (mb s) sto) : XWF X Γ B ρ (.BoolOp .Or (a :: b :: es) pos) (ma.bind fun q => if q.1 = true then some (true, q.2) else mb q.2) sto := imW (pw_or ha (allExW hb)) fun σ H Q ⟨G, z, s, A, e, q⟩ => by
  cases ma with
  | none => cases e
  | some y =>
    obtain ⟨t, s1⟩ := y
    refine ⟨G, t, s1, A, rfl, fun G1 H1 l1 A1 => ?_⟩
    cases t with
    | false => exact ⟨s1, G1, z, s, A1, e, fun G2 H2 l2 A2 => q G2 H2 (l1.trans l2) A2⟩
    | true =>
      have e : some (true, s1) = some (z, s) := e
      cases e
      exact q G1 H1 l1 A1
theorem xtf_w {m : Option (Bool × S)} (h : XWF X Γ B ρ e m sto) : XTF X Γ B ρ e m sto := PW.pt h
/-- a list display, its items so -/
def cLF (Γ : Gm) (B : Bs) (ρ : Sto) {α S : Type} [Rp α] (m : Option (List α × S)) (sto : S → Sto) : TA := fun σ H Q => ∃ G xs s, At Γ B ρ G H σ ∧ m = some (xs, s) ∧ ∀ vs G' H', Le G G' → At Γ B (sto s) G' H' σ → RpL Γ G' vs xs → Q vs H'
abbrev XLF (X : Cx) (Γ : Gm) (B : Bs) (ρ : Sto) (es : List Expr) {α S : Type} [Rp α] (m : Option (List α × S)) (sto : S → Sto) : Prop := PA X es (cLF Γ B ρ m sto)
theorem xlf_nil {s : S} : XLF X Γ B (sto s) [] (α := α) (some ([], s)) sto := imA pa_nil fun σ H Q ⟨G, xs, s', A, e, q⟩ => by
  cases e
  exact q [] G H (.refl _) A .nil
theorem xlf_cons {m : Option (α × S)} {mt : S → Option (List α × S1)} (he : XF X Γ B ρ e m sto) (ht : ∀ s, XLF X Γ B (sto s) es (mt s) sto1) (hs : starEach (e :: es) X.env = (false, eval e X.env) :: starEach es X.env := by rfl) : XLF X Γ B ρ (e :: es) (m.bind fun q => (mt q.2).bind fun r => some (q.1 :: r.1, r.2)) sto1 := imA (pa_cons he (allExA ht) hs) fun σ H Q ⟨G, t, s, A, e, q⟩ => by
  cases m with
  | none => cases e
  | some y =>
    have e : ((mt y.2).bind fun r => some (y.1 :: r.1, r.2)) = some (t, s) := e
    cases hr : mt y.2 with
    | none => rw [hr] at e; cases e
    | some r =>
      rw [hr] at e
      cases e
      exact ⟨G, y.1, y.2, A, rfl, fun v G1 H1 l1 A1 r1 => ⟨y.2, G1, r.1, r.2, A1, hr, fun vs G2 H2 l2 A2 r2 => q (v :: vs) G2 H2 (l1.trans l2) A2 (.cons (Rp.mono l2 r1) r2)⟩⟩
theorem xf_list {m : Option (List α × S)} (h : XLF X Γ B ρ es m sto) (hl : Nat.ble es.length 1000 = true := by rfl) (hm : ∀ r, m = some r → r.1.length = es.length) : XF X Γ B ρ (.List es pos) m sto := imE (pe_lst h) fun σ H Q ⟨G, xs, s, A, e, q⟩ => ⟨G, xs, s, A, e, fun vs G' H' l A' r => ⟨by
  rw [r.length, show xs.length = es.length from hm _ e]
  exact Nat.le_trans (Nat.le_of_ble_eq_true hl) (by decide), fun p hp => by
    have g := Grow.new A'.sub hp (.lst vs)
    exact q _ _ _ (l.trans g.leG) (A'.grow g) ⟨p, vs, rfl, upd_same, r.mono g.leG⟩⟩⟩
/-- what a def hands back -/
theorem xb_retF {m : Option (β × S1)} {c : S1 → C} (he : XF X Γ B ρ e m sto1) (ops : List (Nat × Bool)) (hw : ∀ s, Sim.wks (sto1 s) ops = F.str (c s)) (hfr : F.fr = false) : XB1 X Γ B F ρ (.Return (some e) pos) (S := S) (m.bind fun b => some (.ret b.1 (c b.2))) sto := imS (lkS' (ps_ret he)) fun D σ H ⟨G, s, A, e, q⟩ => by
  cases m with
  | none => cases e
  | some b =>
    cases e
    exact ⟨G, b.1, b.2, A, rfl, fun v G' H' l A' r => (A'.wks ops).mono fun H2 ⟨G2, l2, A2⟩ => q v G2 H2 σ (by rw [← hw]; exact A2) (Rp.mono l2 r) fun z => by rw [hfr] at z; cases z⟩
end
end Sim

set_option Elab.async false
set_option autoImplicit false
set_option linter.all false
set_option maxRecDepth 100000
set_option maxHeartbeats 1000000
namespace Sim
open PySem L2
open Rp (rep)
open At1 (toV)
open Ow (own)
open RpA (repA stoA)
/-! ### new objects of one's own -/
def cNO (Γ : Gm) (B : Bs) (ρ : Sto) {δ : Type} [I : Ow δ] (m : Option δ) : TE := fun σ H Q => ∃ G z, At Γ B ρ G H σ ∧ m = some z ∧ ∀ v fp G' H', Grow G H G' H' → own Γ G' H' v fp z → (∀ x ∈ fp, H x = none ∧ G' x = none) → Q v H'
abbrev XNO (X : Cx) (Γ : Gm) (B : Bs) (ρ : Sto) (e : Expr) {δ : Type} [I : Ow δ] (m : Option δ) : Prop := PE X e (cNO Γ B ρ m)
/-- a new object with more than one part is stored -/
theorem At.setNO {Γ : Gm} {B : Bs} {ρ : Sto} {G H G' H' : Hp} {σ : L2.St} {α : Type} [I : Ow α] {fp : List Addr} {v : V} {a : α} {i : Nat} (A : At Γ B ρ G H σ) (g : Grow G H G' H') (hi : i < ρ.length) (hp : ∀ x ∈ fp, H x = none ∧ G' x = none) (r : own Γ G' H' v fp a) (nf : i ∉ B.fx) : At Γ B (ρ.set i (ow a)) G' H' (σ.set i (some v)) := by
  obtain ⟨φ, h1, h3⟩ := A.slots
  have A' := A.grow g
  have h1' := h1.grow g.leG (H' := H') fun j x _ u e => g.leH x u e
  refine ⟨A'.sub, A'.le, A'.keep, A'.live, A'.thin, ⟨setφ φ i fp, h1'.set hi ⟨v, rfl, r⟩ fun j x hj hx hm => h1.there j x hm (hp x hx).1, fun j a ha => ?_⟩, fun j hj => by
    rw [List.getElem?_set_ne fun z => nf (by rw [z]; exact hj)]
    exact A.fix j hj⟩
  rcases mem_setφ ha with ⟨_, q⟩ | ⟨_, q⟩
  · refine ⟨(hp a q).2, .inl ?_⟩
    cases z : B.H a with
    | none => rfl
    | some u => exact absurd (hp a q).1 (A.live a (some_ne z))
  · exact ⟨(g.thin a (h1.there j a q) (h3 j a q).1).none (h1.nt j a q), (h3 j a q).2⟩
def specO (Γ : Gm) {τ δ : Type} [RpA τ] [I : Ow δ] (f : τ → Option δ) : Sp := fun vs H Q _ => ∃ G t z, Sub G H ∧ repA Γ G vs t ∧ f t = some z ∧ ∀ v fp G' H', Grow G H G' H' → own Γ G' H' v fp z → (∀ x ∈ fp, H x = none ∧ G' x = none) → Q v H'
structure CalO (Γ : Gm) (x : Str) (k : Nat) {τ δ : Type} [RpA τ] [I : Ow δ] (f : τ → Option δ) : Prop where
  ex : ∃ a fd ps, FnOk Γ.P Γ.w Γ.K Γ.mg Γ.base CX0 k a fd ps (specO Γ f) ∧ Γ.mg x = some (.ref a) ∧ PySem.W.keepIn Γ.K (.ref a) = true ∧ Binds Γ.K fd ps []
section
variable {Γ : Gm} {x : Str} {st : Stmt} {N ps : List Str} {k : Nat} {τ δ : Type} [RpA τ] [I : Ow δ]
/-- a def that is one return -/
theorem calO_one {e : Expr} {pos : Pos} (D : Def Γ x st ps) (Sc : FnScope N ps (defScope st)) (hst : defBody st = [.Return (some e) pos]) {f : τ → Option δ} (hps : RpA.num τ = ps.length)
    (hb : ∀ (X : Cx) (B : Bs) (t : τ), Dok X Γ B N (defScope st) k [] (fun _ _ _ _ => False) [] → XNO X Γ B (stoA t ++ deads (N.length - RpA.num τ)) e (f t)) : CalO Γ x (k + 1) f := by
  obtain ⟨a, fd, F, hg, bi⟩ := D.ex
  refine ⟨a, fd, ps, F.ok Sc (fun vs H Q E h => ?_) (fun cdv A outer s H vs Q E hr h => ?_), hg, F.kp, bi⟩
  · obtain ⟨G, t, b, h1, h2, _⟩ := h
    rw [(RpA.okA (H := H) h2).1, hps]
  · obtain ⟨G, t, b, h1, h2, h3, q⟩ := h
    have hN : RpA.num τ ≤ N.length := by
      rw [hps]
      have z := congrArg List.length Sc.pre
      rw [List.length_take] at z
      omega
    have A0 := at_start (fx := []) h1 h2 hN
    rw [hst]
    exact ⟨_, pss_one (ps_ret (hb _ ⟨G, H, [], L2.start N vs, []⟩ t ⟨⟨rfl, rfl, rfl, rfl, rfl, rfl, Sc.nd, rfl, rfl, hr⟩, PassesOwn.never, fun _ => rfl, takes0, rfl, rfl, rfl, rfl⟩)), G, b, A0, h3, q⟩
end
section
variable {X : Cx} {Γ : Gm} {B : Bs} {L β C : Type} [Rp β] {F : Kt L β C} {ρ ρ' : Sto} {N : List Str} {sc : Scope} {k j : Nat} {fx : List Nat} {W : WX} {M : List Addr} {pos p p' p1 p2 : Pos} {e a b o tg it elt kx : Expr} {st : Stmt} {sts rest body : List Stmt} {es : List Expr} {x : Str} {S S1 S2 : Type} {sto : S → Sto} {sto1 : S1 → Sto} {sto2 : S2 → Sto}
variable {α γ τ : Type} [Rp α] [Rp γ] [RpA τ]
theorem xno_call {δ : Type} [I : Ow δ] (c : Cok X Γ N sc k) {f : τ → Option δ} {mt : Option τ} (h : CalO Γ x j f) (hk : j ≤ k) (hg : Glb sc x) (ha : XA X Γ B ρ (e :: es) mt) (hdb : (x == ("__debug__" : Str)) = false := by decide) (he : starEach (e :: es) X.env = (false, eval e X.env) :: starEach es X.env := by rfl) (hpl : (backTo pos (starEach es X.env)).any (·.1) = false := by rfl) :
    XNO X Γ B ρ (.Call (.Name x p) (e :: es) [] pos) (mt.bind f) := by
  obtain ⟨a, fd, ps, F, hm, kp, bi⟩ := h.ex
  refine imE (pe_call (dvs := []) (CX := CX0) (E := E0) (by rw [c.hP, c.hw, c.hK, c.hmg, c.hbase]; exact F) (c.room.mono hk) (c.gl hg) (by rw [c.hmg]; exact hm) (by rw [c.hK]; exact kp) (by rw [c.hK]; exact bi) .nil pass0 ha hdb he hpl) fun σ H Q ⟨G, z, A, e, q⟩ => ?_
  cases mt with
  | none => cases e
  | some t =>
    refine ⟨G, t, A, rfl, fun vs G1 H1 g1 r1 => ?_⟩
    show specO Γ f (vs ++ []) H1 Q E0
    rw [List.append_nil]
    refine ⟨G1, t, z, g1.sub, r1, e, fun v fp G2 H2 g2 o2 hf => q v fp G2 H2 (g1.trans g2) o2 fun x hx => ⟨?_, (hf x hx).2⟩⟩
    have := (hf x hx).1
    cases z : H x with
    | none => rfl
    | some u => rw [g1.leH x u z] at this; cases this
/-- [[..], n] -/
theorem xno_oz {ma : Option (List Int)} {mb : Option Int} (ha : XN X Γ B ρ a ma) (hb : XE X Γ B ρ b mb) (s1 : starEach [a, b] X.env = (false, eval a X.env) :: starEach [b] X.env := by rfl) (s2 : starEach [b] X.env = (false, eval b X.env) :: starEach [] X.env := by rfl) :
    XNO X Γ B ρ (.List [a, b] pos) (ma.bind fun l => mb.bind fun n => some (OZ.mk l n)) := imE (pe_lst (pa_cons ha (pa_cons hb pa_nil s2) s1)) fun σ H Q ⟨G, z, A, e, q⟩ => by
  cases ma with
  | none => cases e
  | some l =>
    cases mb with
    | none => cases e
    | some n =>
      cases e
      refine ⟨G, l, A, rfl, fun p1 vs G1 H1 g1 hp1 r1 => ?_⟩
      have g2 : Grow G H G1 (upd H1 p1 (.lst vs)) := g1.trans (Grow.newO g1.sub hp1 _)
      refine ⟨G1, n, A.grow g2, rfl, fun v2 G2 H2 g3 r2 => ⟨(by show 2 ≤ sizeLine; decide), fun p hp => ?_⟩⟩
      have gg := g2.trans g3
      have e1 : H2 p1 = some (.lst vs) := g3.leH _ _ upd_same
      have ne : p ≠ p1 := fun z => by rw [z, e1] at hp; cases hp
      have hH1 : H p1 = none := by
        cases z : H p1 with
        | none => rfl
        | some u => rw [g1.leH _ _ z] at hp1; cases hp1
      have hHp : H p = none := by
        cases z : H p with
        | none => rfl
        | some u => rw [gg.leH _ _ z] at hp; cases hp
      have hG1 : G1 p1 = none := g1.sub.none hp1
      have hG2 : G2 p1 = none := (g3.thin p1 (by rw [upd_same]; simp) hG1).none fun ws e => by rw [upd_same] at e; cases e
      have rv : vs = l.map V.int := r1.toV
      refine q (.ref p) [p, p1] G2 _ (gg.trans (Grow.newO gg.sub hp _)) ⟨p, p1, rfl, rfl, ne, by rw [upd_same, rep1 r2]; rfl, by rw [upd_ne (Ne.symm ne), e1, rv]⟩ fun x hx => ?_
      simp only [List.mem_cons, List.not_mem_nil, or_false] at hx
      rcases hx with z | z <;> subst z
      · exact ⟨hHp, gg.sub.none hp⟩
      · exact ⟨hH1, hG2⟩
theorem xp_setNO (d : Dok X Γ B N sc k fx W M) {δ : Type} [I : Ow δ] {m : Option δ} (i : Nat) (he : XNO X Γ B ρ e m) (hi : N[i]? = some x) (hx : Loc sc x) (hρ : Nat.ble (i + 1) ρ.length = true := by rfl) (hf : fx.contains i = false := by rfl) (hs : swapsWith e (some (.Name x p')) pos.line X.env = pure false := by rfl) :
    XP1 X Γ B ρ (.Assign [.Name x p'] e pos) m (fun z => ρ.set i (ow z)) := imS (ps_set (i := i) (by rw [d.hN]; exact d.nd) (by rw [d.hN]; exact hi) (by rw [d.hsc]; exact hx) he hs (.inl (d.hfn x))) fun D σ H ⟨G, s, A, e, q⟩ =>
  ⟨G, s, A, e, fun v fp G' H' g o hp => q G' H' _ (A.setNO g (Nat.le_of_ble_eq_true hρ) hp o fun hm => by rw [d.hfx] at hm; rw [List.contains_iff_mem.mpr hm] at hf; cases hf)⟩
/-- xs.pop(F), the list in slot j -/
theorem xf_popF (c : Cok X Γ N sc k) (i : Nat) {xs : List α} {mi : Option (Int × S)} {apos cpos : Pos} (hi0 : ρ[i]? = some (ow (OL.mk xs))) (hi : ∀ s, (sto s)[i]? = some (ow (OL.mk xs))) (hN : N[i]? = some x) (hv : Vis sc x) (he : XF X Γ B ρ e mi sto) (hd : (x == ("__debug__" : Str)) = false := by decide) (hcd : (x == ("__classdict__" : Str)) = false := by decide)
    (hfew : ((backTo cpos (starEach [e] X.env)).all (fun x => !x.1) && (backToKw cpos (keywordEach [] X.env)).all (fun x => x.1.isSome)
      && decide ([e].length + ([] : List Keyword).length + (if ([] : List Keyword).isEmpty then 0 else 1) < 30)) = true := by rfl)
    (hline : (apos.endLine == cpos.line) = true := by rfl) (hs : starEach [e] X.env = (false, eval e X.env) :: starEach [] X.env := by rfl) :
    XF X Γ B ρ (.Call (.Attribute (.Name x p) "pop" apos) [e] [] cpos) (mi.bind fun q => (ppopAt xs q.1).bind fun r => some (r.1, (q.2, r.2))) (fun q => (sto q.1).set i (ow (OL.mk q.2))) :=
  imE (pe_bm PySem.F.plainAttrs_list PySem.F.slot_list_pop PySem.F.type_list_pop mt_popAt (pv_ c hN hv hd hcd) (pa_cons he pa_nil hs) (by rfl) hfew hline hs (by rfl)) fun σ H Q ⟨G, y, s, A, e, q⟩ => by
  cases mi with
  | none => cases e
  | some j =>
    have e : ((ppopAt xs j.1).bind fun r => some (r.1, (j.2, r.2))) = some (y, s) := e
    cases hp : ppopAt xs j.1 with
    | none => rw [hp] at e; cases e
    | some r =>
      rw [hp] at e
      cases e
      unfold ppopAt at hp
      by_cases hc : 0 ≤ j.1 ∧ xs.length ≤ BIG
      · rw [if_pos hc] at hp
        cases hy : xs[j.1.toNat]? with
        | none => rw [hy] at hp; cases hp
        | some y' =>
          rw [hy] at hp
          have hp : some (y', xs.eraseIdx j.1.toNat) = some r := hp
          have hp := Option.some.inj hp
          subst hp
          have hl : j.1.toNat < xs.length := (List.getElem?_eq_some_iff.mp hy).1
          obtain ⟨v, fp, h1, ⟨p, vs, rfl, h3, h4, h5⟩, h6⟩ := A.getO hi0
          refine ⟨.ref p, h1, .inl ⟨rfl, vs, SqL.of h4⟩, G, j.1, j.2, A, rfl, fun v G1 H1 l1 A1 r1 => ?_⟩
          obtain ⟨w, fp1, k1, ⟨p1, vs1, e1, k3, k4, k5⟩, k6⟩ := A1.getO (hi j.2)
          rw [h1] at k1
          cases k1
          cases e1
          obtain ⟨u, hu, ru⟩ := k5.get hy
          have hb : xs.length ≤ 1000000 := hc.2
          have hlen : vs1.length = xs.length := k5.length
          have hj0 : 0 ≤ j.1 := hc.1
          have hj1 : j.1 < (vs1.length : Int) := by omega
          have hj2 : -(2 ^ 63) ≤ j.1 := by omega
          have hj3 : j.1 < 2 ^ 63 := by omega
          refine ⟨p, vs1, j.1, j.1.toNat, u, rfl, by rw [rep1 r1]; rfl, k4, hj2, hj3, PySem.StrLaws.seqIndex_nonneg hj0 hj1, hu, ?_⟩
          exact q u G1 _ l1 (A1.setL (hi j.2) h1 (k5.erase j.1.toNat)) ru
      · rw [if_neg hc] at hp; cases hp
/-- a tuple of three, its items so -/
theorem xf_tup3 {α β γ : Type} [Rp α] [Rp β] [Rp γ] {S3 : Type} {sto3 : S3 → Sto} {c : Expr} {n : Nat} {ma : Option (α × S)} {mb : S → Option (β × S1)} {mc : S1 → Option (γ × S3)} (ha : XF X Γ B ρ a ma sto) (hb : ∀ s, XF X Γ B (sto s) b (mb s) sto1) (hc : ∀ s, XF X Γ B (sto1 s) c (mc s) sto3)
    (s1 : starEach [a, b, c] X.env = (false, eval a X.env) :: starEach [b, c] X.env := by rfl) (s2 : starEach [b, c] X.env = (false, eval b X.env) :: starEach [c] X.env := by rfl) (s3 : starEach [c] X.env = (false, eval c X.env) :: starEach [] X.env := by rfl) :
    XF X Γ B ρ (.Tuple [a, b, c] n pos) (ma.bind fun x => (mb x.2).bind fun y => (mc y.2).bind fun z => some (T3.mk x.1 y.1 z.1, z.2)) sto3 :=
  imE (pe_tup (pa_cons ha (pa_cons (allEx hb) (pa_cons (allEx hc) pa_nil s3) s2) s1)) fun σ H Q ⟨G, w, s, A, e, q⟩ => by
  cases ma with
  | none => cases e
  | some x =>
    have e : ((mb x.2).bind fun y => (mc y.2).bind fun z => some (T3.mk x.1 y.1 z.1, z.2)) = some (w, s) := e
    cases hy : mb x.2 with
    | none => rw [hy] at e; cases e
    | some y =>
      rw [hy] at e
      have e : ((mc y.2).bind fun z => some (T3.mk x.1 y.1 z.1, z.2)) = some (w, s) := e
      cases hz : mc y.2 with
      | none => rw [hz] at e; cases e
      | some z =>
        rw [hz] at e
        cases e
        refine ⟨G, x.1, x.2, A, rfl, fun v1 G1 H1 l1 A1 r1 => ⟨x.2, G1, y.1, y.2, A1, hy, fun v2 G2 H2 l2 A2 r2 => ⟨y.2, G2, z.1, z.2, A2, hz, fun v3 G3 H3 l3 A3 r3 => ⟨(by show 3 ≤ sizeLine; decide), fun p hp => ?_⟩⟩⟩⟩
        have g := Grow.new A3.sub hp (.tup [v1, v2, v3])
        exact q _ _ _ (((l1.trans l2).trans l3).trans g.leG) (A3.grow g) ⟨p, v1, v2, v3, rfl, upd_same, Rp.mono ((l2.trans l3).trans g.leG) r1, Rp.mono (l3.trans g.leG) r2, Rp.mono g.leG r3⟩
/-- a list new from a def is frozen on the way -/
theorem xf_ofN {s : S} {m : Option (List α)} (h : XN X Γ B (sto s) e m) : XF X Γ B (sto s) e (m.bind fun x => some (x, s)) sto := imE h fun σ H Q ⟨G, z, s', A, e, q⟩ => by
  cases m with
  | none => cases e
  | some y =>
    cases e
    refine ⟨G, z, A, rfl, fun p vs G1 H1 g1 hp r1 => ?_⟩
    have g := Grow.new g1.sub hp (.lst vs)
    exact q _ _ _ (g1.leG.trans g.leG) (A.grow (g1.trans g)) ⟨p, vs, rfl, upd_same, r1.mono g.leG⟩
theorem xf_max2 (c : Cok X Γ N sc k) {ma : Option (Int × S)} {mb : S → Option (Int × S1)} (ha : XF X Γ B ρ a ma sto) (hb : ∀ s, XF X Γ B (sto s) b (mb s) sto1) (hg : Glb sc "max") (hm : Γ.mg "max" = none) (s1 : starEach [a, b] X.env = (false, eval a X.env) :: starEach [b] X.env := by rfl) (s2 : starEach [b] X.env = (false, eval b X.env) :: starEach [] X.env := by rfl) (hpl : (backTo pos (starEach [b] X.env)).any (·.1) = false := by rfl) :
    XF X Γ B ρ (.Call (.Name "max" p) [a, b] [] pos) (ma.bind fun x => (mb x.2).bind fun y => some (maxI x.1 y.1, y.2)) sto1 :=
  imE (pe_callB (call_max2 c.calm) (c.gl hg) (by rw [c.hmg]; exact hm) PyProof.Rows.boot_max (pa_cons ha (pa_cons (allEx hb) pa_nil s2) s1) (he := s1) (hpl := hpl)) fun σ H Q ⟨G, z, s, A, e, q⟩ => by
  cases ma with
  | none => cases e
  | some x =>
    have e : ((mb x.2).bind fun y => some (maxI x.1 y.1, y.2)) = some (z, s) := e
    cases hy : mb x.2 with
    | none => rw [hy] at e; cases e
    | some y =>
      rw [hy] at e
      cases e
      refine ⟨G, x.1, x.2, A, rfl, fun v1 G1 H1 l1 A1 r1 => ⟨x.2, G1, y.1, y.2, A1, hy, fun v2 G2 H2 l2 A2 r2 => ?_⟩⟩
      exact ⟨x.1, y.1, by rw [rep1 r1, rep1 r2]; rfl, q _ G2 H2 (l1.trans l2) A2 rfl⟩
end
end Sim

set_option Elab.async false
set_option autoImplicit false
set_option linter.all false
set_option maxRecDepth 100000
set_option maxHeartbeats 1000000
namespace Sim
open PySem L2
open Rp (rep)
open At1 (toV)
open Ow (own)
open RpA (repA stoA)
/-! ### texts joined, split, written out -/
abbrev cps (z : Tt) : List Nat := z.s.cps.toList
/-- the text of signs -/
def mkT (l : List Nat) (h : ∀ c ∈ l, c < 0x110000) : Tt := ⟨⟨l.toArray⟩, strOk_list (l := l) rfl h⟩
theorem cps_mkT {l : List Nat} {h : ∀ c ∈ l, c < 0x110000} : cps (mkT l h) = l := rfl
theorem cps_ok (z : Tt) : ∀ c ∈ cps z, c < 0x110000 := fun c h => z.mem h
theorem mem_joinL {S : List Nat} : ∀ {ps : List (List Nat)} {c : Nat}, c ∈ TL.joinL S ps → c ∈ S ∨ ∃ p ∈ ps, c ∈ p
  | [], c, h => by cases h
  | [p], c, h => .inr ⟨p, by simp, h⟩
  | p :: q :: r, c, h => by
    have h : c ∈ p ++ (S ++ TL.joinL S (q :: r)) := h
    rcases List.mem_append.mp h with h | h
    · exact .inr ⟨p, by simp, h⟩
    · rcases List.mem_append.mp h with h | h
      · exact .inl h
      · rcases mem_joinL h with h | ⟨x, hx, h⟩
        · exact .inl h
        · exact .inr ⟨x, by simp [List.mem_cons.mp hx], h⟩
theorem mem_spl {S : List Nat} : ∀ {xs : List Nat} {k : Nat} {acc : List Nat} {p : List Nat}, p ∈ TL.spl S k acc xs → ∀ c ∈ p, c ∈ acc ∨ c ∈ xs
  | [], k, acc, p, h, c, hc => by
    have h : p ∈ [acc] := by cases k <;> exact h
    rw [List.mem_singleton.mp h] at hc
    exact .inl hc
  | x :: r, 0, acc, p, h, c, hc => by
    have h : p ∈ (if TL.pre S (x :: r) = true then acc :: TL.spl S (S.length - 1) [] r else TL.spl S 0 (acc ++ [x]) r) := h
    by_cases q : TL.pre S (x :: r) = true
    · rw [if_pos q] at h
      rcases List.mem_cons.mp h with h | h
      · rw [h] at hc; exact .inl hc
      · rcases mem_spl h c hc with z | z
        · cases z
        · exact .inr (List.mem_cons_of_mem _ z)
    · rw [if_neg q] at h
      rcases mem_spl h c hc with z | z
      · rcases List.mem_append.mp z with z | z
        · exact .inl z
        · exact .inr (by rw [List.mem_singleton.mp z]; simp)
      · exact .inr (List.mem_cons_of_mem _ z)
  | x :: r, k + 1, acc, p, h, c, hc => by
    have h : p ∈ TL.spl S k acc r := h
    rcases mem_spl h c hc with z | z
    · exact .inl z
    · exact .inr (List.mem_cons_of_mem _ z)
theorem joinL_ok (sep : Tt) (xs : List Tt) : ∀ c ∈ TL.joinL (cps sep) (xs.map cps), c < 0x110000 := fun c h => by
  rcases mem_joinL h with h | ⟨p, hp, h⟩
  · exact cps_ok sep c h
  · obtain ⟨x, _, e⟩ := List.mem_map.mp hp
    exact cps_ok x c (by rw [e]; exact h)
/-- sep.join(xs) -/
@[irreducible] def sjoin (sep : Tt) (xs : List Tt) : Option Tt := if (xs.map fun x => x.s.length).sum + xs.length * sep.s.length ≤ BIG then some (mkT (TL.joinL (cps sep) (xs.map cps)) (joinL_ok sep xs)) else none
theorem spl_ok (sep x : Tt) : ∀ p ∈ TL.spl (cps sep) 0 [] (cps x), ∀ c ∈ p, c < 0x110000 := fun p hp c hc => by
  rcases mem_spl hp c hc with z | z
  · cases z
  · exact cps_ok x c z
/-- x.split(sep), sep one plain sign -/
@[irreducible] def ssplit (x sep : Tt) : Option (List Tt) := if sep.s.length = 1 ∧ sep.s.cps.all (· < 256) = true ∧ x.s.length ≤ BIG then some ((TL.spl (cps sep) 0 [] (cps x)).pmap mkT (spl_ok sep x)) else none
theorem pmap_cps : ∀ {l : List (List Nat)} (h : ∀ p ∈ l, ∀ c ∈ p, c < 0x110000), ((l.pmap mkT h).map fun x : Tt => x.s).map TL.tl = l
  | [], _ => rfl
  | p :: r, h => by
    rw [List.pmap_cons, List.map_cons, List.map_cons, pmap_cps]
    rfl
theorem strs_rp {Γ : Gm} {G : Hp} : ∀ (xs : List Tt), RpL Γ G ((xs.map fun x : Tt => x.s).map V.str) xs
  | [] => .nil
  | x :: r => .cons rfl (strs_rp r)
theorem rp_strs {Γ : Gm} {G : Hp} {vs : List V} {xs : List Tt} (h : RpL Γ G vs xs) : vs = (xs.map fun x : Tt => x.s).map V.str := by
  rw [h.toV, List.map_map]; rfl
section
variable {X : Cx} {Γ : Gm} {B : Bs} {L β C : Type} [Rp β] {F : Kt L β C} {ρ ρ' : Sto} {N : List Str} {sc : Scope} {k j : Nat} {fx : List Nat} {W : WX} {M : List Addr} {pos apos p p' p1 p2 : Pos} {e a b o tg it elt kx : Expr} {st : Stmt} {sts rest body : List Stmt} {es : List Expr} {x : Str} {S S1 S2 : Type} {sto : S → Sto} {sto1 : S1 → Sto} {sto2 : S2 → Sto}
variable {α γ τ : Type} [Rp α] [Rp γ] [RpA τ]
theorem join_fits {sep : Tt} {xs : List Tt} {z : Tt} (h : sjoin sep xs = some z) : ((xs.map fun x : Tt => x.s).map (·.length)).sum + (xs.map fun x : Tt => x.s).length * sep.s.length ≤ 16777216 ∧ Txt.join sep.s (xs.map fun x : Tt => x.s) = z.s := by
  have big : BIG = 1000000 := rfl
  unfold sjoin at h
  obtain ⟨h1, h2⟩ := ite_some h
  refine ⟨?_, ?_⟩
  · rw [List.map_map, List.length_map]
    have : (xs.map ((fun x : Str => x.length) ∘ fun x : Tt => x.s)).sum = (xs.map fun x : Tt => x.s.length).sum := rfl
    rw [this]
    omega
  · rw [← h2]
    refine TL.ext_tl ?_
    rw [TL.join_eq, TL.tl_join, List.map_map]
    rfl
theorem xe_join {m : Option Tt} {mx : Option (List Tt)} (ho : XE X Γ B ρ o m) (he : XR X Γ B ρ e mx) (hs : starEach [e] X.env = [(false, eval e X.env)] := by rfl) (hbase : attributeBase o "join" X.env (eval o X.env) = eval o X.env := by rfl) (hline : (apos.endLine == pos.line) = true := by rfl) :
    XE X Γ B ρ (.Call (.Attribute o "join" apos) [e] [] pos) (m.bind fun s => mx.bind fun xs => sjoin s xs) := imE (pe_join ho he hs hbase hline) fun σ H Q ⟨G, z, A, e, q⟩ => by
  cases m with
  | none => cases e
  | some s =>
    cases mx with
    | none => cases e
    | some xs =>
      have e : sjoin s xs = some z := e
      obtain ⟨h1, h2⟩ := join_fits e
      refine ⟨G, s, A, rfl, fun v G1 H1 g1 r1 => ⟨⟨s.s, rep1 r1⟩, G1, xs, A.grow g1, rfl, fun p vs G2 H2 g2 hp r2 => ⟨s.s, p, _, rep1 r1, rfl, .inl (SqL.of (by rw [hp, rp_strs r2])), h1, ?_⟩⟩⟩
      rw [h2]
      exact q _ G2 H2 (g1.trans g2) rfl
theorem xf_join {m : Option (Tt × S)} {mx : S → Option (List Tt × S1)} (ho : XF X Γ B ρ o m sto) (he : ∀ s, XF X Γ B (sto s) e (mx s) sto1) (hs : starEach [e] X.env = [(false, eval e X.env)] := by rfl) (hbase : attributeBase o "join" X.env (eval o X.env) = eval o X.env := by rfl) (hline : (apos.endLine == pos.line) = true := by rfl) :
    XF X Γ B ρ (.Call (.Attribute o "join" apos) [e] [] pos) (m.bind fun q => (mx q.2).bind fun r => (sjoin q.1 r.1).bind fun z => some (z, r.2)) sto1 := imE (pe_join ho (allEx he) hs hbase hline) fun σ H Q ⟨G, z, s, A, e, q⟩ => by
  cases m with
  | none => cases e
  | some y =>
    have e : ((mx y.2).bind fun r => (sjoin y.1 r.1).bind fun z => some (z, r.2)) = some (z, s) := e
    cases hx : mx y.2 with
    | none => rw [hx] at e; cases e
    | some r =>
      rw [hx] at e
      have e : ((sjoin y.1 r.1).bind fun z => some (z, r.2)) = some (z, s) := e
      cases hj : sjoin y.1 r.1 with
      | none => rw [hj] at e; cases e
      | some w =>
        rw [hj] at e
        cases e
        obtain ⟨h1, h2⟩ := join_fits hj
        refine ⟨G, y.1, y.2, A, rfl, fun v G1 H1 l1 A1 r1 => ⟨⟨y.1.s, rep1 r1⟩, y.2, G1, r.1, r.2, A1, hx, fun v2 G2 H2 l2 A2 ⟨p, vs, e2, hp, r2⟩ => ?_⟩⟩
        subst e2
        refine ⟨y.1.s, p, _, rep1 r1, rfl, .inl (SqL.of (by rw [A2.sub.lst hp, rp_strs r2])), h1, ?_⟩
        rw [h2]
        exact q _ G2 H2 (l1.trans l2) A2 rfl
/-- x.split(sep) -/
theorem xn_split {m ms : Option Tt} (ho : XE X Γ B ρ o m) (he : XE X Γ B ρ e ms) (hs : starEach [e] X.env = [(false, eval e X.env)] := by rfl) (hbase : attributeBase o "split" X.env (eval o X.env) = eval o X.env := by rfl) (hline : (apos.endLine == pos.line) = true := by rfl) :
    XN X Γ B ρ (.Call (.Attribute o "split" apos) [e] [] pos) (m.bind fun x => ms.bind fun s => ssplit x s) := imE (pe_split ho he hs hbase hline) fun σ H Q ⟨G, z, A, e, q⟩ => by
  have big : BIG = 1000000 := rfl
  cases m with
  | none => cases e
  | some x =>
    cases ms with
    | none => cases e
    | some s =>
      have e : ssplit x s = some z := e
      unfold ssplit at e
      obtain ⟨⟨h1, h2, h3⟩, e⟩ := ite_some e
      have hne : TL.tl s.s ≠ [] := fun z => by
        have : s.s.length = (TL.tl s.s).length := TL.len_tl s.s
        rw [z, h1] at this
        cases this
      have hys : Txt.split x.s s.s = z.map fun x : Tt => x.s := by
        refine TL.map_tl_inj ?_
        rw [TL.split_spl _ _ hne (TL.kind_ok h2), ← e]
        exact (pmap_cps _).symm
      refine ⟨G, x, A, rfl, fun v G1 H1 g1 r1 => ⟨⟨x.s, rep1 r1⟩, G1, s, A.grow g1, rfl, fun v2 G2 H2 g2 r2 => ⟨x.s, s.s, rep1 r1, by rw [rep1 r2]; rfl, by rw [h1]; rfl, ?_, fun p hp => ?_⟩⟩⟩
      · have : x.s.length + 2 ≤ 16777216 := by omega
        exact Nat.le_trans this (by decide)
      · rw [hys]
        exact q p _ G2 H2 (g1.trans g2) hp (strs_rp z)
/-- f-strings: the parts one behind the other -/
def fcat : Tt → List (Option Tt) → Option Tt
  | acc, [] => some acc
  | acc, m :: r => m.bind fun x => (sadd acc x).bind fun y => fcat y r
inductive XJ (X : Cx) (Γ : Gm) (B : Bs) (ρ : Sto) : List Expr → List (Option Tt) → Prop where
  | nil : XJ X Γ B ρ [] []
  | cons {e : Expr} {m : Option Tt} {es : List Expr} {ms : List (Option Tt)} (h : XE X Γ B ρ e m) (r : XJ X Γ B ρ es ms) : XJ X Γ B ρ (e :: es) (m :: ms)
theorem xe_fmt {m : Option Tt} (he : XE X Γ B ρ e m) (hl : ∀ z, m = some z → z.s.length ≤ BIG) : XE X Γ B ρ (.FormattedValue e (-1) none pos) m := imE (pe_fmt he) fun σ H Q ⟨G, z, A, e, q⟩ => ⟨G, z, A, e, fun v G1 H1 g1 r1 => .inl ⟨z.s, rep1 r1, big_le (hl z e), by rw [rep1 r1] at *; exact q _ G1 H1 g1 rfl⟩⟩
theorem xj_pj {ms : List (Option Tt)} (h : XJ X Γ B ρ es ms) : ∃ ts, PJ X es ts ∧ ∀ (acc : Tt) (σ : L2.St) (H : Hp) (R : Str → Hp → Prop), (∃ G z, At Γ B ρ G H σ ∧ fcat acc ms = some z ∧ ∀ G' H', Grow G H G' H' → R z.s H') → tJs ts acc.s σ H R := by
  induction h with
  | nil => exact ⟨[], .nil, fun acc σ H R ⟨G, z, A, e, q⟩ => by
      cases e
      exact q G H (.refl A.sub)⟩
  | cons h r ih =>
    rename_i e m es ms
    obtain ⟨ts, h1, h2⟩ := ih
    refine ⟨_ :: ts, .cons h h1, fun acc σ H R ⟨G, z, A, e, q⟩ => ?_⟩
    cases m with
    | none => cases e
    | some x =>
      have e : ((sadd acc x).bind fun y => fcat y ms) = some z := e
      cases hy : sadd acc x with
      | none => rw [hy] at e; cases e
      | some y =>
        rw [hy] at e
        refine ⟨G, x, A, rfl, fun v G1 H1 g1 r1 => ⟨x.s, rep1 r1, ?_, ?_⟩⟩
        · unfold sadd at hy
          obtain ⟨hb, hy⟩ := ite_some hy
          refine big_le ?_
          have : (acc.s ++ x.s).length = acc.s.length + x.s.length := by
            rw [TL.len_tl, TL.tl_append, List.length_append, ← TL.len_tl, ← TL.len_tl]
          rw [this]; exact hb
        · have es : acc.s ++ x.s = y.s := by
            unfold sadd at hy
            obtain ⟨hb, hy⟩ := ite_some hy
            rw [← hy]
          rw [es]
          exact h2 y σ H1 R ⟨G1, z, A.grow g1, e, fun G' H' g => q G' H' (g1.trans g)⟩
theorem xe_fstr {v1 v2 : Expr} {ms : List (Option Tt)} (h : XJ X Γ B ρ (v1 :: v2 :: es) ms) : XE X Γ B ρ (.JoinedStr (v1 :: v2 :: es) pos) (fcat (Tt.mk "" (by decide +kernel)) ms) := by
  obtain ⟨ts, h1, h2⟩ := xj_pj h
  refine imE (pe_joined h1) fun σ H Q ⟨G, z, A, e, q⟩ => ?_
  exact h2 (Tt.mk "" (by decide +kernel)) σ H _ ⟨G, z, A, e, fun G' H' g => q _ G' H' g rfl⟩
/-- all of a list of truth values -/
theorem xe_all (c : Cok X Γ N sc k) {m : Option (List Bool)} (ha : XR X Γ B ρ a m) (hg : Glb sc "all") (hm : Γ.mg "all" = none) (s1 : starEach [a] X.env = (false, eval a X.env) :: starEach [] X.env := by rfl) (hpl : (backTo pos (starEach [] X.env)).any (·.1) = false := by rfl) : XE X Γ B ρ (.Call (.Name "all" p) [a] [] pos) (m.bind fun xs => some (xs.all id)) :=
  imE (pe_callB (cr_all c.calm) (c.gl hg) (by rw [c.hmg]; exact hm) (by decide +kernel) (pa_cons ha pa_nil s1) (he := s1) (hpl := hpl)) fun σ H Q ⟨G, z, A, e, q⟩ => by
  cases m with
  | none => cases e
  | some xs =>
    cases e
    refine ⟨G, xs, A, rfl, fun p vs G1 H1 g1 hp r1 => ⟨p, xs, rfl, SqL.of (by rw [hp, r1.toV]; rfl), ?_⟩⟩
    exact q _ G1 H1 g1 rfl
end
end Sim

set_option Elab.async false
set_option autoImplicit false
set_option linter.all false
set_option maxRecDepth 100000
set_option maxHeartbeats 1000000
namespace Sim
open PySem L2
open Rp (rep)
open At1 (toV)
open Ow (own)
open RpA (repA stoA)
section
variable {X : Cx} {Γ : Gm} {B : Bs} {L β C : Type} [Rp β] {F : Kt L β C} {ρ ρ' : Sto} {N : List Str} {sc : Scope} {k j : Nat} {fx : List Nat} {W : WX} {M : List Addr} {pos apos p p' p1 p2 : Pos} {e a b o tg it elt kx : Expr} {st : Stmt} {sts rest body : List Stmt} {es : List Expr} {x : Str} {S S1 S2 : Type} {sto : S → Sto} {sto1 : S1 → Sto} {sto2 : S2 → Sto}
variable {α γ τ : Type} [Rp α] [Rp γ] [RpA τ]
theorem xf_chS {m : Option (Ch × S)} (h : XF X Γ B ρ e m sto) : XF X Γ B ρ e (m.bind fun q => some (chS q.1, q.2)) sto := imE h fun σ H Q ⟨G, z, s, A, e, q⟩ => by
  cases m with
  | none => cases e
  | some y =>
    cases e
    exact ⟨G, y.1, y.2, A, rfl, fun v G1 H1 l1 A1 r1 => q v G1 H1 l1 A1 r1⟩
theorem xtf_val {m : Option (Bool × S)} (h : XF X Γ B ρ e m sto) (he : ∀ whole, isTrue e X.env whole = (do let v ← whole; standAt e.pos; holding [v] (truthy v)) := by intro _; rfl) : XTF X Γ B ρ e m sto := imT (pt_val h he) fun σ H Q ⟨G, z, s, A, e, q⟩ =>
  ⟨G, z, s, A, e, fun v G' H' l A' r => ⟨z, rep1 r, q G' H' l A'⟩⟩
theorem xtf_not {m : Option (Bool × S)} (h : XTF X Γ B ρ a m sto) : XTF X Γ B ρ (.UnaryOp .Not a pos) (m.bind fun q => some (!q.1, q.2)) sto := imT (pt_not h) fun σ H Q ⟨G, z, s, A, e, q⟩ => by
  cases m with
  | none => cases e
  | some y =>
    cases e
    exact ⟨G, y.1, y.2, A, rfl, fun G1 H1 l1 A1 => q G1 H1 l1 A1⟩
/-- both sides change the store -/
theorem xtf_cmp {op : CmpOp} {r : L2.R2} {f : α → γ → Option Bool} {ma : Option (α × S)} {mb : S → Option (γ × S1)} (ho : OpR X (compareOp op) r) (hf : Op2 Γ r f) (ha : XF X Γ B ρ a ma sto) (hb : ∀ s, XF X Γ B (sto s) b (mb s) sto1) (hm : behindInMarks op b = false := by rfl) :
    XTF X Γ B ρ (.Compare a [op] [b] pos) (ma.bind fun q => (mb q.2).bind fun y => (f q.1 y.1).bind fun z => some (z, y.2)) sto1 :=
  imT (pt_cmpR ho ha (allEx hb) hm) fun σ H Q ⟨G, z, s, A, e, q⟩ => by
  cases ma with
  | none => cases e
  | some x =>
    have e : ((mb x.2).bind fun y => (f x.1 y.1).bind fun z => some (z, y.2)) = some (z, s) := e
    cases hy : mb x.2 with
    | none => rw [hy] at e; cases e
    | some y =>
      rw [hy] at e
      have e : ((f x.1 y.1).bind fun z => some (z, y.2)) = some (z, s) := e
      cases hz : f x.1 y.1 with
      | none => rw [hz] at e; cases e
      | some w =>
        rw [hz] at e
        cases e
        refine ⟨G, x.1, x.2, A, rfl, fun v1 G1 H1 l1 A1 r1 => ⟨x.2, G1, y.1, y.2, A1, hy, fun v2 G2 H2 l2 A2 r2 => ?_⟩⟩
        refine hf G2 H2 v1 v2 x.1 y.1 _ A2.sub (Rp.mono l2 r1) r2 hz _ fun v G3 H3 g3 r3 => ?_
        exact ⟨z, rep1 r3, q G3 H3 ((l1.trans l2).trans g3.leG) (A2.grow g3)⟩
theorem xno_eq {δ : Type} [I : Ow δ] {m m' : Option δ} (h : XNO X Γ B ρ e m) (q : m = m') : XNO X Γ B ρ e m' := q ▸ h
/-- list displays -/
def lseq {α S : Type} : List (S → Option (α × S)) → S → Option (List α × S)
  | [], s => some ([], s)
  | f :: r, s => (f s).bind fun q => (lseq r q.2).bind fun t => some (q.1 :: t.1, t.2)
theorem lseq_len {α S : Type} : ∀ {fs : List (S → Option (α × S))} {s : S} {r : List α × S}, lseq fs s = some r → r.1.length = fs.length
  | [], s, r, h => by cases h; rfl
  | f :: t, s, r, h => by
    have h : (f s).bind (fun q => (lseq t q.2).bind fun u => some (q.1 :: u.1, u.2)) = some r := h
    cases h1 : f s with
    | none => rw [h1] at h; cases h
    | some q =>
      rw [h1] at h
      have h : ((lseq t q.2).bind fun u => some (q.1 :: u.1, u.2)) = some r := h
      cases h2 : lseq t q.2 with
      | none => rw [h2] at h; cases h
      | some u =>
        rw [h2] at h
        cases h
        have := lseq_len h2
        simp [this]
theorem xlq_nil : ∀ s, XLF X Γ B (sto s) [] (lseq ([] : List (S → Option (α × S))) s) sto := fun s => xlf_nil
theorem xlq_cons {f : S → Option (α × S)} {fs : List (S → Option (α × S))} (he : ∀ s, XF X Γ B (sto s) e (f s) sto) (ht : ∀ s, XLF X Γ B (sto s) es (lseq fs s) sto) (hs : starEach (e :: es) X.env = (false, eval e X.env) :: starEach es X.env := by rfl) : ∀ s, XLF X Γ B (sto s) (e :: es) (lseq (f :: fs) s) sto := fun s => xlf_cons (he s) ht hs
theorem xf_listF {fs : List (S → Option (α × S))} {s : S} (h : ∀ s, XLF X Γ B (sto s) es (lseq fs s) sto) (hl : Nat.ble es.length 1000 = true := by rfl) (he : es.length = fs.length := by rfl) : XF X Γ B (sto s) (.List es pos) (lseq fs s) sto := xf_list (h s) hl fun r e => by rw [lseq_len e, he]
end
end Sim

set_option Elab.async false
set_option autoImplicit false
set_option linter.all false
set_option maxRecDepth 100000
set_option maxHeartbeats 1000000
namespace Sim
open PySem L2
open Rp (rep)
open At1 (toV)
section
variable {X : Cx} {Γ : Gm} {B : Bs} {ρ ρ' : Sto} {N : List Str} {sc : Scope} {k j : Nat} {fx : List Nat} {W : WX} {M : List Addr} {pos apos p p' p1 p2 p3 pt : Pos} {e a b : Expr} {es : List Expr} {S : Type} {sto : S → Sto}
variable {α γ δ : Type} [Rp α] [Rp γ] [Rp δ]
/-- a, b, c = a tuple of three -/
theorem xp_unp3 (d : Dok X Γ B N sc k fx W M) {x y z : Str} {nt : Nat} (i l r : Nat) {m : Option (T3 α γ δ)} (he : XE X Γ B ρ e m) (hi : N[i]? = some x) (hl : N[l]? = some y) (hr : N[r]? = some z) (hx : Loc sc x) (hy : Loc sc y) (hz : Loc sc z) (hρ : Nat.ble (i + 1) ρ.length = true := by rfl) (hf : fx.contains i = false := by rfl)
    (hρ2 : Nat.ble (l + 1) ρ.length = true := by rfl) (hf2 : fx.contains l = false := by rfl) (hρ3 : Nat.ble (r + 1) ρ.length = true := by rfl) (hf3 : fx.contains r = false := by rfl) (hs : swapsWithSole [.Tuple [.Name x p1, .Name y p2, .Name z p3] nt pt] e pos.line X.env = pure false := by rfl) (hw : swappedStores [.Tuple [.Name x p1, .Name y p2, .Name z p3] nt pt] e X.env = pure none := by rfl) :
    XP1 X Γ B ρ (.Assign [.Tuple [.Name x p1, .Name y p2, .Name z p3] nt pt] e pos) m (fun t => ((ρ.set i (vl t.a)).set l (vl t.b)).set r (vl t.c)) :=
  imS (ps_asg he (xg_trip (α := α) (γ := γ) (δ := δ) (S := Unit) (ρ := fun _ => ρ) d i l r hi hl hr hx hy hz (fun _ => hρ) hf (fun _ => hρ2) hf2 (fun _ => hρ3) hf3) hs hw) fun D σ H ⟨G, s, A, e, q⟩ => ⟨G, s, A, e, fun v G1 H1 g1 r1 => ⟨(), s, G1, A.grow g1, r1, fun G' H' σ' l A' => q G' H' σ' A'⟩⟩
theorem xe_t3a {m : Option (T3 α γ δ)} {j : Nat} (ha : XE X Γ B ρ a m) : XE X Γ B ρ (.Subscript a (.Constant (.int 0) j p1) pos) (m.bind fun t => some t.a) := imE (pe_ix ix_tup ha pe_int fun _ _ => rfl) fun σ H Q ⟨G, z, A, e, q⟩ => by
  cases m with
  | none => cases e
  | some t =>
    cases e
    refine ⟨G, t, A, rfl, fun v G1 H1 g1 ⟨p, x, y, w, h1, h2, h3, h4, h5⟩ => ?_⟩
    exact ⟨p, [x, y, w], 0, x, h1, rfl, SqT.of (g1.sub.tup h2), rfl, q x G1 H1 g1 h3⟩
theorem xe_t3b {m : Option (T3 α γ δ)} {j : Nat} (ha : XE X Γ B ρ a m) : XE X Γ B ρ (.Subscript a (.Constant (.int 1) j p1) pos) (m.bind fun t => some t.b) := imE (pe_ix ix_tup ha pe_int fun _ _ => rfl) fun σ H Q ⟨G, z, A, e, q⟩ => by
  cases m with
  | none => cases e
  | some t =>
    cases e
    refine ⟨G, t, A, rfl, fun v G1 H1 g1 ⟨p, x, y, w, h1, h2, h3, h4, h5⟩ => ?_⟩
    exact ⟨p, [x, y, w], 1, y, h1, rfl, SqT.of (g1.sub.tup h2), rfl, q y G1 H1 g1 h4⟩
theorem xe_t3c {m : Option (T3 α γ δ)} {j : Nat} (ha : XE X Γ B ρ a m) : XE X Γ B ρ (.Subscript a (.Constant (.int 2) j p1) pos) (m.bind fun t => some t.c) := imE (pe_ix ix_tup ha pe_int fun _ _ => rfl) fun σ H Q ⟨G, z, A, e, q⟩ => by
  cases m with
  | none => cases e
  | some t =>
    cases e
    refine ⟨G, t, A, rfl, fun v G1 H1 g1 ⟨p, x, y, w, h1, h2, h3, h4, h5⟩ => ?_⟩
    exact ⟨p, [x, y, w], 2, w, h1, rfl, SqT.of (g1.sub.tup h2), rfl, q w G1 H1 g1 h5⟩
end
end Sim

set_option Elab.async false
set_option autoImplicit false
set_option linter.all false
set_option maxRecDepth 100000
set_option maxHeartbeats 1000000
namespace Sim
open PySem L2
open Rp (rep)
open At1 (toV)
section
variable {X : Cx} {Γ : Gm} {B : Bs} {L β C : Type} [Rp β] {F : Kt L β C} {ρ ρ' : Sto} {N : List Str} {sc : Scope} {k j : Nat} {fx : List Nat} {W : WX} {M : List Addr} {pos p p' p1 p2 p3 pt : Pos} {e a b : Expr} {st : Stmt} {es : List Expr} {S : Type} {sto : S → Sto}
variable {α γ δ : Type} [Rp α] [Rp γ] [Rp δ]
/-- a text that an f-string holds -/
def fmt0 (z : Tt) : Option Tt := if z.s.length ≤ BIG then some z else none
theorem xe_fmt0 {z : Tt} (he : XE X Γ B ρ e (some z)) : XE X Γ B ρ (.FormattedValue e (-1) none pos) (fmt0 z) := by
  unfold fmt0
  by_cases h : z.s.length ≤ BIG
  · rw [if_pos h]
    exact xe_fmt he fun y e => by cases e; exact h
  · rw [if_neg h]
    exact ⟨fun pins s σ H Q I ⟨G, r, A, e, q⟩ => by cases e⟩
/-- xs.extend(ys) -/
theorem xp_extend (d : Dok X Γ B N sc k fx W M) {m : Option (List α)} {x : Str} (i : Nat) {xs : List α} {apos cpos : Pos} (hi : ρ[i]? = some (ow (OL.mk xs))) (hN : N[i]? = some x) (hv : Vis sc x) (he : XR X Γ B ρ e m) (hd : (x == ("__debug__" : Str)) = false := by decide) (hcd : (x == ("__classdict__" : Str)) = false := by decide)
    (hfew : ((backTo cpos (starEach [e] X.env)).all (fun x => !x.1) && (backToKw cpos (keywordEach [] X.env)).all (fun x => x.1.isSome)
      && decide ([e].length + ([] : List Keyword).length + (if ([] : List Keyword).isEmpty then 0 else 1) < 30)) = true := by rfl)
    (hline : (apos.endLine == cpos.line) = true := by rfl) (hs : starEach [e] X.env = (false, eval e X.env) :: starEach [] X.env := by rfl) (hw : swapsWith (.Call (.Attribute (.Name x p) "extend" apos) [e] [] cpos) none pos.line X.env = pure false := by rfl) :
    XP1 X Γ B ρ (.Expr (.Call (.Attribute (.Name x p) "extend" apos) [e] [] cpos) pos) (m.bind fun ys => pcat xs ys) (fun ys => ρ.set i (ow (OL.mk ys))) :=
  imS (ps_expr (pe_bm PySem.F.plainAttrs_list PySem.F.slot_list_extend PySem.F.type_list_extend mt_extend (pv_ d.toCok hN hv hd hcd) (pa_cons he pa_nil hs) (by rfl) hfew hline hs (by rfl)) hw) fun D σ H ⟨G, s, A, e, q⟩ => by
  cases m with
  | none => cases e
  | some ys =>
    obtain ⟨hl, e⟩ := ite_some (by have qq : pcat xs ys = some s := e; unfold pcat at qq; exact qq)
    subst e
    obtain ⟨v, fp, h1, ⟨p, vs, rfl, h3, h4, h5⟩, h6⟩ := A.getO hi
    refine ⟨.ref p, h1, .inl ⟨rfl, vs, SqL.of h4⟩, G, ys, A, rfl, fun p2 ws G1 H1 g1 hp r1 => ⟨p, p2, vs, ws, rfl, rfl, g1.leH _ _ h4, hp, ?_, ?_⟩⟩
    · rw [show vs.length = xs.length from h5.length, r1.length]
      exact big_le hl
    · exact q G1 _ σ ((A.grow g1).setL hi h1 ((h5.mono g1.leG).append r1))
/-- an expression by itself -/
theorem xp_doE (d : Dok X Γ B N sc k fx W M) {m : Option α} (he : XE X Γ B ρ e m) (hw : swapsWith e none pos.line X.env = pure false := by rfl) : XP1 X Γ B ρ (.Expr e pos) (m.bind fun _ => some ()) (fun _ => ρ) := imS (ps_expr he hw) fun D σ H ⟨G, s, A, e, q⟩ => by
  cases m with
  | none => cases e
  | some y => exact ⟨G, y, A, rfl, fun v G1 H1 g1 r1 => q G1 H1 σ (A.grow g1)⟩
/-- what is never reached -/
theorem xb_none : XB1 X Γ B F ρ st (S := S) (none : Option (Fl S L β C)) sto := ⟨fun pins s σ H D I ⟨G, r, A, e, q⟩ => by cases e⟩
end
end Sim

set_option Elab.async false
set_option autoImplicit false
set_option linter.all false
set_option maxRecDepth 100000
set_option maxHeartbeats 1000000
namespace Sim
open PySem L2
open Rp (rep)
open At1 (toV)
/-! ### tables with text keys at the top -/
structure Tbl (Γ : Gm) (x : Str) (kvs : List (Str × Int)) : Prop where
  ex : ∃ a es n, Γ.mg x = some (.ref a) ∧ KDict Γ.K Γ.w a es n ∧ (∀ q ∈ kvs, ∃ u, PySem.W.nsIn Γ.K a q.1 = some (some u) ∧ RelV (.int q.2) u) ∧ ∀ z, z ∉ kvs.map (·.1) → PySem.W.nsIn Γ.K a z = some none
def tget (kvs : List (Str × Int)) (z : Tt) : Option Int := (kvs.find? fun q => q.1 == z.s).map (·.2)
theorem tget_some {kvs : List (Str × Int)} {z : Tt} {n : Int} (h : tget kvs z = some n) : (z.s, n) ∈ kvs := by
  unfold tget at h
  cases q : kvs.find? (fun q => q.1 == z.s) with
  | none => rw [q] at h; cases h
  | some p =>
    rw [q] at h
    have h : some p.2 = some n := h
    cases h
    have h1 := List.mem_of_find?_eq_some q
    have h2 := List.find?_some q
    have : p.1 = z.s := eq_of_beq h2
    rw [← this]; exact h1
theorem tget_none {kvs : List (Str × Int)} {z : Tt} (h : tget kvs z = none) : z.s ∉ kvs.map (·.1) := by
  unfold tget at h
  cases q : kvs.find? (fun q => q.1 == z.s) with
  | some p => rw [q] at h; cases h
  | none =>
    rw [List.find?_eq_none] at q
    intro hm
    obtain ⟨p, hp, e⟩ := List.mem_map.mp hm
    exact q p hp (by rw [e]; exact beq_self_eq_true _)
theorem tbl_ok {Γ : Gm} {x : Str} {kvs : List (Str × Int)} (hm : Γ.mg x = some (.ref (He.ga Γ.K x))) (hd : He.dicW Γ.K (He.ga Γ.K x) = some (He.keysIn Γ.w.params (kvs.map (·.1)))) (hv : He.valsB Γ.K (He.ga Γ.K x) (kvs.map fun q => (q.1, He.Dv.int q.2)) = true) : Tbl Γ x kvs := by
  obtain ⟨es, n, D⟩ := He.dicW_ok hd
  refine ⟨_, es, n, hm, D, fun q hq => ?_, fun z hz => He.dic_none hd hz⟩
  exact He.valsB_ok hv (q := (q.1, He.Dv.int q.2)) (List.mem_map.mpr ⟨q, hq, rfl⟩)
section
variable {X : Cx} {Γ : Gm} {B : Bs} {ρ ρ' : Sto} {N : List Str} {sc : Scope} {k j : Nat} {pos p p' p1 p2 : Pos} {e a b : Expr} {x : Str}
theorem xc_inG (c : Cok X Γ N sc k) {kvs : List (Str × Int)} {m : Option Tt} (t : Tbl Γ x kvs) (ha : XE X Γ B ρ a m) (hg : Glb sc x) (hd : (x == ("__debug__" : Str)) = false := by decide) : XC X Γ B ρ .In a (.Name x p) (m.bind fun z => some (tget kvs z).isSome) := by
  obtain ⟨d, es, n, hm, D, h1, h2⟩ := t.ex
  have D' : KDict X.K X.w d es n := by rw [c.hK, c.hw]; exact D
  refine imC (pc_R (op_in_kd D') ha (pe_glob (c.gl hg) (by rw [c.hmg]; exact hm) (show RelV (.ref d) (.ref d) from rfl) hd)) fun σ H Q ⟨G, z, A, e, q⟩ => ?_
  cases m with
  | none => cases e
  | some y =>
    cases e
    refine ⟨G, y, A, rfl, fun v G1 H1 g1 r1 => ?_⟩
    cases hh : tget kvs y with
    | none =>
      refine ⟨y.s, none, rep1 r1, rfl, by rw [c.hK]; exact h2 _ (tget_none hh), ?_⟩
      rw [hh] at q
      exact q _ G1 H1 g1 rfl
    | some n =>
      obtain ⟨u, hu, _⟩ := h1 _ (tget_some hh)
      refine ⟨y.s, some u, rep1 r1, rfl, by rw [c.hK]; exact hu, ?_⟩
      rw [hh] at q
      exact q _ G1 H1 g1 rfl
theorem xe_ixG (c : Cok X Γ N sc k) {kvs : List (Str × Int)} {m : Option Tt} (t : Tbl Γ x kvs) (ha : XE X Γ B ρ a m) (hg : Glb sc x) (hd : (x == ("__debug__" : Str)) = false := by decide) (hs : PlainIx a := by intro _ _; rfl) : XE X Γ B ρ (.Subscript (.Name x p) a pos) (m.bind fun z => tget kvs z) := by
  obtain ⟨d, es, n, hm, D, h1, h2⟩ := t.ex
  refine imE (pe_ix ix_kdict (pe_glob (c.gl hg) (by rw [c.hmg]; exact hm) (show RelV (.ref d) (.ref d) from rfl) hd) ha hs) fun σ H Q ⟨G, z, A, e, q⟩ => ?_
  cases m with
  | none => cases e
  | some y =>
    refine ⟨G, y, A, rfl, fun v G1 H1 g1 r1 => ?_⟩
    obtain ⟨u, hu, ru⟩ := h1 _ (tget_some e)
    exact ⟨d, y.s, .int z, rfl, rep1 r1, ⟨es, n, u, by rw [c.hK]; exact D.at_, by rw [c.hw]; exact D.lit, by rw [c.hK]; exact hu, ru⟩, q _ G1 H1 g1 rfl⟩
/-- texts in order -/
theorem o_ltS : Op2 Γ (fun x y H Q => ∃ i j, x = .str i ∧ y = .str j ∧ Q (.bl (decide (i.cps.toList < j.cps.toList))) H) fun (i j : Tt) => some (decide (cps i < cps j)) := op2_pure fun p q z H Q e k => ⟨p.s, q.s, rfl, rfl, by cases e; exact k⟩
end
end Sim

set_option Elab.async false
set_option autoImplicit false
set_option linter.all false
set_option maxRecDepth 100000
set_option maxHeartbeats 1000000
/-! enumerate(list, start) -/
namespace L2
open PySem PySem.Spec PyProof.Rows
/-- the list at a as it stands at each turn, each item in a new pair, counted from k0 -/
def ItF (K : PySem.W.Frag) (k0 : Int) (a : Addr) : It :=
  ⟨fun i H => ∃ (xs : List V) (x : V), SqL K H a xs ∧ xs[i]? = some x, fun i H v H' => ∃ T x, v = .ref T ∧ H T = none ∧ H' = upd H T (.tup [.int (k0 + (i : Int)), x]) ∧ ∀ xs, SqL K H a xs → xs[i]? = some x, fun i H => ∃ xs : List V, SqL K H a xs ∧ xs.length = i⟩
theorem turn_enumF {P : Program} {w : World} {K : PySem.W.Frag} {elts : List Expr} {kk : Nat} {tpos : Pos} (k0 : Int) (a e it : Addr) :
    Turn P w K (.Tuple elts kk tpos) (ItF K k0 a) [e, it] e (fun i h => (∃ old, IsEnum h e it (k0 + (i : Int)) old) ∧ h.IsListIter it a i ∧ e ≠ it ∧ a ≠ it ∧ a ≠ e) where
  mem := by simp
  obj := fun i h st b hb => by
    obtain ⟨⟨old, he⟩, ⟨o, ho, hc, hd⟩, _⟩ := st
    have e' : b = e ∨ b = it := by simpa using hb
    rcases e' with z | z
    · rw [z]; exact ⟨_, he, fun v q => nomatch q⟩
    · rw [z]; exact ⟨o, ho, fun v q => by rw [hd] at q; cases q⟩
  keep := fun i h h' st k => let ⟨⟨old, he⟩, hi, hne⟩ := st; ⟨⟨old, k e (by simp) _ he⟩, hi.at fun o q => k it (by simp) o q, hne⟩
  item := by
    intro X hP hw hK hc i pins s σ H E I hf st hg
    subst hP hw hK
    obtain ⟨⟨old, he⟩, hit, hne, ha1, ha2⟩ := st
    obtain ⟨xs, x, hq, hx⟩ := hg
    obtain ⟨its, rv, p, hz⟩ := I.list hq
    obtain ⟨u, hu, ru⟩ := rv.get hx
    have hel : e < s.heap.objs.size := Heap.lt_size he
    have hil : it < s.heap.objs.size := by obtain ⟨_, q, _⟩ := hit; exact Heap.lt_size q
    have hlt : i < its.toArray.size := by
      have := (List.getElem?_eq_some_iff.mp hu).1
      simpa using this
    refine wpAny_pyNext_enum_itemC (Draws.list (prog := X.prog) (w := X.w) (A := X.A.in1) (I.ok.hd hc) it a ha1 its.toArray) he ⟨hit, p.isList⟩ hlt hne (by simp [hne, Ne.symm ha2]) fun u' h' tk hP ho st' hT hsz hk => ?_
    obtain ⟨hit', _⟩ := st'
    have eu : u' = u := by
      have h1 : its.toArray[i]? = some u' := hP
      have h2 : its.toArray[i]? = some u := by simpa using hu
      rw [h2] at h1
      exact (Option.some.inj h1).symm
    subst eu
    refine ⟨_, rfl, wpAny_letOwnedTupleGo_enum (s := { s with heap := h', toks := tk + 1 }) ho fun h'' he' sb => ?_⟩
    have hT2 : h''.get? s.heap.objs.size = some { cls := .type "tuple", data := .seq #[.int (k0 + (i : Int)) tk, u'] } := (sb.2 _ (Nat.ne_of_gt hel)).trans hT
    have new : ObjOk X.prog X.w (upd H s.heap.objs.size (.tup [.int (k0 + (i : Int)), x])) h'' s.heap.objs.size (.tup [.int (k0 + (i : Int)), x]) :=
      ⟨by show 2 ≤ sizeLine; decide, [.int (k0 + (i : Int)) tk, u'], .cons ⟨_, rfl⟩ (.cons ru .nil), ⟨_, hT2, rfl, _, rfl⟩⟩
    have I1 : Inv X pins σ (upd H s.heap.objs.size (.tup [.int (k0 + (i : Int)), x])) { s with heap := h'', toks := tk + 1 } :=
      I.turnedNew (ch := [e, it]) (fun b ob hb q => (sb.2 b (fun z => hb (by simp [z]))).trans (hk b ob (fun z => hb (by simp [z])) (fun z => hb (by simp [z])) q)) hf (Nat.le_refl _) new
    refine ⟨.ref s.heap.objs.size, _, I1, rfl, ⟨_, x, rfl, I.hok.fresh (Nat.le_refl _), rfl, fun ys hy => by rw [I.list_inj hy hq]; exact hx⟩, ⟨⟨u', ?_⟩, hit'.at fun o q => (sb.2 it (Ne.symm hne)).trans q, hne, ha1, ha2⟩, fun b hb => ?_⟩
    · have e1 : k0 + ((i + 1 : Nat) : Int) = k0 + (i : Int) + 1 := by omega
      rw [e1]; exact he'
    · have hb' : b < s.heap.objs.size := by
        have e' : b = e ∨ b = it := by simpa using hb
        rcases e' with z | z
        · rw [z]; exact hel
        · rw [z]; exact hil
      rw [upd_ne (Nat.ne_of_lt hb')]
      exact (hf b hb).1
  done := by
    intro X hP hw hK hc i pins s σ H E I hf st hg
    subst hP hw hK
    obtain ⟨⟨old, he⟩, hit, hne, ha1, ha2⟩ := st
    obtain ⟨xs, hq, hx⟩ := hg
    obtain ⟨its, rv, p, hz⟩ := I.list hq
    obtain ⟨f0, f1, f2, f3, f4, f5⟩ := hf it (by simp)
    have hl := rv.length
    have hn : its.toArray.size = i := by simp; omega
    exact wpAny_pyNext_enum_endD (Draws.list (prog := X.prog) (w := X.w) (A := X.A.in1) (I.ok.hd hc) it a ha1 its.toArray) he ⟨by rw [hn]; exact hit, p.isList⟩ fun h' eb => ⟨rfl, I.turned (t' := s.toks) (fun b o hb q => eb b o hb q) f0 f1 f3 f4 f5⟩
  self := fun A i s Q E st h => let ⟨⟨_, he⟩, _⟩ := st; wpAny_pyIter_enum he h
def iEnumF (K : PySem.W.Frag) (ta : TA) : TI := fun σ H R => ta σ H fun vs H1 => ∃ (a : Addr) (xs : List V) (k0 : Int), vs = [.ref a, .int k0] ∧ -(2 ^ 63) ≤ k0 ∧ k0 < 2 ^ 63 ∧ SqL K H1 a xs ∧ R (ItF K k0 a) H1
theorem pi_enumF {X : Cx} {e c : Expr} {ta : TA} {p pos tpos : Pos} {elts : List Expr} {kk : Nat} (hg : Gl X "enumerate") (hm : X.mg "enumerate" = none) (ha : PA X [e, c] ta) (hs : starEach [e, c] X.env = (false, eval e X.env) :: starEach [c] X.env := by rfl) (hs2 : (backTo pos (starEach [c] X.env)).any (·.1) = false := by rfl) :
    PI X (.Tuple elts kk tpos) (.Call (.Name "enumerate" p) [e, c] [] pos) (iEnumF X.K ta) := by
  refine ⟨fun pins s σ H R I h => ?_⟩
  refine Call_ (ld_blt I hg hm boot_enumerate (PyProof.Rows.callWith_type1 (thn (ha.run pos pins s σ H _ I h) fun us s1 ⟨vs, H1, I1, r1, q1⟩ => ?_) hs hs2))
  obtain ⟨a, xs, k0, ex, hk0, hk1, hq, q⟩ := q1
  subst ex
  cases r1 with
  | cons r rr =>
    cases rr with
    | cons r2 rr =>
      cases rr
      cases r
      obtain ⟨t2, r2⟩ := r2
      cases r2
      obtain ⟨its, rv, p', hz⟩ := I1.list hq
      have hal : a < s1.heap.objs.size := by obtain ⟨_, y, _⟩ := p'.isList; exact Heap.lt_size y
      refine enum_begins (begins_list a its.toArray) p'.isList hk0 hk1 fun h' he hit hsz hk => wpAny_pyIter_enum he ?_
      have I2 : Inv X pins σ H1 { s1 with heap := h' } := I1.kept (t' := s1.toks) hk
      refine ⟨s1.heap.objs.size + 1, [s1.heap.objs.size + 1, s1.heap.objs.size], _, _, H1, rfl, I2, turn_enumF k0 a (s1.heap.objs.size + 1) s1.heap.objs.size, ⟨⟨.none, by simpa using he⟩, ⟨_, hit, rfl, rfl⟩, Nat.succ_ne_self _, Nat.ne_of_lt hal, Nat.ne_of_lt (Nat.lt_succ_of_lt hal)⟩, fun b hb => ?_, q⟩
      have e' : b = s1.heap.objs.size + 1 ∨ b = s1.heap.objs.size := by simpa using hb
      have hle : s1.heap.objs.size ≤ b := by
        rcases e' with z | z
        · rw [z]; exact Nat.le_add_right _ _
        · rw [z]; exact Nat.le_refl _
      exact I1.fpOk hle (I1.hok.fresh hle)
theorem walk_enumF {K : PySem.W.Frag} {k0 : Int} {a : Addr} {xs : List V} : Walk (ItF K k0 a) xs.length (fun H => SqL K H a xs) (YPair (fun i => some (.int (k0 + (i : Int)))) (fun i => xs[i]?)) := by
  refine ⟨fun i _ hi q => ⟨xs, xs[i], q, by simp [hi]⟩, fun _ q => ⟨xs, q, rfl⟩, fun i H v H' _ q y => ?_⟩
  obtain ⟨T, x, h1, h2, h3, h4⟩ := y
  exact ⟨T, .int (k0 + (i : Int)), x, h1, h2, h3, rfl, h4 xs q⟩
end L2
namespace Sim
open PySem L2
open Rp (rep)
open At1 (toV)
section
variable {X : Cx} {Γ : Gm} {B : Bs} {ρ : Sto} {e c : Expr} {N : List Str} {sc : Scope} {k : Nat} {p pos : Pos} {α : Type} [Rp α]
/-- enumerate with a start -/
def enumFL {α : Type} (k0 : Int) (xs : List α) : List (Int × α) := xs.zipIdx.map fun q => (k0 + (q.2 : Int), q.1)
theorem xi_enumF (d : Cok X Γ N sc k) {m : Option (List α)} {k0 : Int} {tpos : Pos} {elts : List Expr} {kk : Nat} (ha : XE X Γ B ρ e m) (hc : XE X Γ B ρ c (some k0)) (hk : (decide (-(2 ^ 63) ≤ k0) && decide (k0 < 2 ^ 63)) = true) (hg : Glb sc "enumerate") (hm : Γ.mg "enumerate" = none)
    (s1 : starEach [e, c] X.env = (false, eval e X.env) :: starEach [c] X.env := by rfl) (s2 : starEach [c] X.env = (false, eval c X.env) :: starEach [] X.env := by rfl) (s3 : (backTo pos (starEach [c] X.env)).any (·.1) = false := by rfl) :
    XI X Γ B ρ (.Tuple elts kk tpos) (.Call (.Name "enumerate" p) [e, c] [] pos) (m.bind fun xs => some (enumFL k0 xs)) :=
  imI (pi_enumF (d.gl hg) (by rw [d.hmg]; exact hm) (pa_cons ha (pa_cons hc pa_nil s2) s1) s1 s3) fun σ H R ⟨G, zs, A, e, q⟩ => by
  cases m with
  | none => cases e
  | some xs =>
    cases e
    have hk' : -(2 ^ 63) ≤ k0 ∧ k0 < 2 ^ 63 := by
      simp only [Bool.and_eq_true, decide_eq_true_eq] at hk
      exact hk
    refine ⟨G, xs, A, rfl, fun v G1 H1 g1 ⟨p, vs, h1, h2, h3⟩ => ⟨G1, k0, A.grow g1, rfl, fun v2 G2 H2 g2 r2 => ?_⟩⟩
    have e2 : v2 = .int k0 := by first | exact r2 | exact r2.symm | exact (Option.some.inj r2) | exact (Option.some.inj r2).symm
    subst e2
    refine ⟨p, vs, k0, by rw [h1], hk'.1, hk'.2, SqL.of ((g1.trans g2).sub.lst (g2.leG _ _ h2)), q _ G2 H2 (g1.trans g2) ⟨YPair (fun i => some (.int (k0 + (i : Int)))) (fun i => vs[i]?), ?_, ?_⟩⟩
    · have : (enumFL k0 xs).length = vs.length := by rw [h3.length]; simp [enumFL]
      rw [this]
      exact (walk_enumF (K := X.K) (a := p) (xs := vs)).mono (fun H ⟨G2, l2, s2⟩ => SqL.of (s2.lst (l2 _ _ (g2.leG _ _ h2)))) (fun i H x H' hi _ y => y)
    · rintro i H v H1 hi ⟨T, x, y, e1, e2, e3, e4, e5⟩ G2' l2 s2
      obtain ⟨z, hz, r⟩ := h3.getV e5
      subst e1
      have g3 := Grow.new s2 e2 (.tup [x, y])
      refine ⟨(k0 + (i : Int), z), _, by simp [enumFL, hz], e3 ▸ g3, T, x, y, rfl, upd_same, ?_, Rp.mono (g2.leG.trans (l2.trans g3.leG)) r⟩
      have e4 := Option.some.inj e4
      exact e4.symm
end
end Sim

set_option Elab.async false
set_option autoImplicit false
set_option linter.all false
set_option maxRecDepth 100000
set_option maxHeartbeats 1000000
/-! pairs of texts in order -/
namespace L2
open PySem PySem.Spec PyProof.Rows
theorem lexAt2 {e r : Nat → Bool} : Ob.lexAt e r false 0 2 = if e 0 = true then (if e 1 = true then false else r 1) else r 0 := rfl
def rLtTT (K : PySem.W.Frag) : R2 := fun x y H Q => ∃ (a b : Addr) (p q : Str × Str), x = .ref a ∧ y = .ref b ∧ SqT K H a [V.str p.1, V.str p.2] ∧ SqT K H b [V.str q.1, V.str q.2] ∧ Q (.bl (TP.lexT p q)) H
theorem op_ltTT {X : Cx} (hu : X.A.units < cLine) : OpR X (compareOp .Lt) (rLtTT X.K) := by
  intro pins s σ H x y v u Q I rx ry h
  obtain ⟨a, b, p, q, rfl, rfl, ha, hb, k⟩ := h
  cases rx
  cases ry
  obtain ⟨its, r1, p1, _⟩ := I.tuple ha
  obtain ⟨its2, r2, p2, _⟩ := I.tuple hb
  obtain ⟨u1, u2, rfl, ri, rj⟩ := vals2 r1
  obtain ⟨w1, w2, rfl, rk, rl⟩ := vals2 r2
  obtain ⟨t1, rfl⟩ := ri
  obtain ⟨t2, rfl⟩ := rj
  obtain ⟨t3, rfl⟩ := rk
  obtain ⟨t4, rfl⟩ := rl
  have R := Ob.RcOp.tuples_lt (A := X.A) (s := s) (e := fun j => if j = 0 then p.1 == q.1 else p.2 == q.2) (r := fun j => if j = 0 then TP.ltT p.1 q.1 else TP.ltT p.2 q.2) p1 p2 hu (fun j h1 h2 => by
    match j, h1, h2 with
    | 0, _, _ => exact SeqAt.EqAt.str_str _ _ _ _
    | 1, _, _ => exact SeqAt.EqAt.str_str _ _ _ _
    | j + 2, h1, _ => exact absurd h1 (by simp)) (fun j h1 h2 _ => by
    match j, h1, h2 with
    | 0, _, _ => exact fun _ _ _ _ h => PyProof.Rows.lt_str h
    | 1, _, _ => exact fun _ _ _ _ h => PyProof.Rows.lt_str h
    | j + 2, h1, _ => exact absurd h1 (by simp))
  have e0 : Ob.lexAt (fun j => if j = 0 then p.1 == q.1 else p.2 == q.2) (fun j => if j = 0 then TP.ltT p.1 q.1 else TP.ltT p.2 q.2) false 0 2 = TP.lexT p q := by
    rw [lexAt2]
    unfold TP.lexT
    by_cases e1 : p.1 = q.1
    · rw [if_pos e1, if_pos (show ((if (0 : Nat) = 0 then p.1 == q.1 else p.2 == q.2) = true) from by simp [e1])]
      by_cases e2 : p.2 = q.2
      · rw [if_pos (show ((if (1 : Nat) = 0 then p.1 == q.1 else p.2 == q.2) = true) from by simp [e2]), e2]
        cases h : TP.ltT q.2 q.2 with
        | false => rfl
        | true => exact absurd (TP.ltT_asym h) (by rw [h]; decide)
      · rw [if_neg (show ¬((if (1 : Nat) = 0 then p.1 == q.1 else p.2 == q.2) = true) from by simp [e2])]
        rfl
    · rw [if_neg e1, if_neg (show ¬((if (0 : Nat) = 0 then p.1 == q.1 else p.2 == q.2) = true) from by simp [e1])]
      rfl
  have R' : Ob.RcOp .Lt X.A s (.ref a) (.ref b) (TP.lexT p q) := by rw [← e0]; exact R
  have z : wpAny (model X.prog X.w) X.A (compareOp .Lt (.ref a) (.ref b)) (EP X pins σ Q) X.xe s := R' X.prog X.w X.xe (EP X pins σ Q) ⟨.bl _, H, I, rfl, k⟩
  exact z
end L2
namespace Sim
open PySem L2
open Rp (rep)
open At1 (toV)
theorem o_ltTT {Γ : Gm} {K : PySem.W.Frag} : Op2 Γ (rLtTT K) fun (i j : Tt × Tt) => some (TP.lexT (tS i) (tS j)) := fun G H x y p q z s h1 h2 e Q k => by
  obtain ⟨a, x1, y1, rfl, g1, r1, r2⟩ := h1
  obtain ⟨b, x2, y2, rfl, g2, r3, r4⟩ := h2
  rw [rep1 r1, rep1 r2] at g1
  rw [rep1 r3, rep1 r4] at g2
  cases e
  exact ⟨a, b, tS p, tS q, rfl, rfl, SqT.of (s.tup g1), SqT.of (s.tup g2), k _ G H (.refl s) rfl⟩
/-- whether a list is empty -/
theorem xe_notR {X : Cx} {Γ : Gm} {B : Bs} {ρ : Sto} {a : Expr} {pos : Pos} {α : Type} [Rp α] {m : Option (List α)} (h : XR X Γ B ρ a m) : XE X Γ B ρ (.UnaryOp .Not a pos) (m.bind fun xs => some xs.isEmpty) := imE (pe_notT h) fun σ H Q ⟨G, z, A, e, q⟩ => by
  cases m with
  | none => cases e
  | some xs =>
    cases e
    refine ⟨G, xs, A, rfl, fun p vs G1 H1 g1 hp r1 => ⟨!xs.isEmpty, .inl ⟨vs, SqL.of hp, ?_⟩, q _ G1 H1 g1 (by rw [Bool.not_not]; rfl)⟩⟩
    cases r1 <;> rfl
end Sim

set_option Elab.async false
set_option autoImplicit false
set_option linter.all false
set_option maxRecDepth 100000
set_option maxHeartbeats 0
namespace HeadT
open PySem PySem.Spec PyProof.Rows L2
def top (i : Nat) : Stmt := PySem.Challenge.pw_pairswap_k60_whole_webs_come_back.main.body.getD i (.Pass ⟨0, 0, 0, 0⟩)
def mth (i j : Nat) : Stmt := match top i with
  | .ClassDef (body := b) .. => b.getD j (.Pass ⟨0, 0, 0, 0⟩)
  | _ => .Pass ⟨0, 0, 0, 0⟩
def D_is_name : He.DefD := ⟨("is_name", none), "is_name", "is_name", defArgs (top 10), defBody (top 10), defScope (top 10), [], []⟩
def D_Web___init__ : He.DefD := ⟨("Web", some "__init__"), "__init__", "Web.__init__", defArgs (mth 11 0), defBody (mth 11 0), defScope (mth 11 0), [], []⟩
def D_Web__add_suit : He.DefD := ⟨("Web", some "_add_suit"), "_add_suit", "Web._add_suit", defArgs (mth 11 1), defBody (mth 11 1), defScope (mth 11 1), [], []⟩
def D_Web_names : He.DefD := ⟨("Web", some "names"), "names", "Web.names", defArgs (mth 11 2), defBody (mth 11 2), defScope (mth 11 2), [], []⟩
def D_Web_suits : He.DefD := ⟨("Web", some "suits"), "suits", "Web.suits", defArgs (mth 11 3), defBody (mth 11 3), defScope (mth 11 3), [], []⟩
def D_Web_does_suit : He.DefD := ⟨("Web", some "does_suit"), "does_suit", "Web.does_suit", defArgs (mth 11 4), defBody (mth 11 4), defScope (mth 11 4), [], []⟩
def D_Web_may_meet : He.DefD := ⟨("Web", some "may_meet"), "may_meet", "Web.may_meet", defArgs (mth 11 5), defBody (mth 11 5), defScope (mth 11 5), [], []⟩
def D_Web_edges : He.DefD := ⟨("Web", some "edges"), "edges", "Web.edges", defArgs (mth 11 6), defBody (mth 11 6), defScope (mth 11 6), [], []⟩
def D_require : He.DefD := ⟨("require", none), "require", "require", defArgs (top 14), defBody (top 14), defScope (top 14), [], []⟩
def D_format_web : He.DefD := ⟨("format_web", none), "format_web", "format_web", defArgs (top 15), defBody (top 15), defScope (top 15), [], []⟩
def D_words_of : He.DefD := ⟨("words_of", none), "words_of", "words_of", defArgs (top 16), defBody (top 16), defScope (top 16), [], []⟩
def D_parse_web : He.DefD := ⟨("parse_web", none), "parse_web", "parse_web", defArgs (top 17), defBody (top 17), defScope (top 17), [], []⟩
def D__law_mixed : He.DefD := ⟨("_law_mixed", none), "_law_mixed", "_law_mixed", defArgs (top 19), defBody (top 19), defScope (top 19), [], []⟩
def D__law_take : He.DefD := ⟨("_law_take", none), "_law_take", "_law_take", defArgs (top 20), defBody (top 20), defScope (top 20), [], []⟩
def D__law_state : He.DefD := ⟨("_law_state", none), "_law_state", "_law_state", defArgs (top 21), defBody (top 21), defScope (top 21), [], []⟩
def D__law_name : He.DefD := ⟨("_law_name", none), "_law_name", "_law_name", defArgs (top 22), defBody (top 22), defScope (top 22), [], []⟩
def D__law_names : He.DefD := ⟨("_law_names", none), "_law_names", "_law_names", defArgs (top 23), defBody (top 23), defScope (top 23), [], []⟩
def D__law_drawn : He.DefD := ⟨("_law_drawn", none), "_law_drawn", "_law_drawn", defArgs (top 24), defBody (top 24), defScope (top 24), [], []⟩
def D__law_lines : He.DefD := ⟨("_law_lines", none), "_law_lines", "_law_lines", defArgs (top 25), defBody (top 25), defScope (top 25), [], []⟩
def D__law_text : He.DefD := ⟨("_law_text", none), "_law_text", "_law_text", defArgs (top 26), defBody (top 26), defScope (top 26), [], []⟩
def D__law_turned : He.DefD := ⟨("_law_turned", none), "_law_turned", "_law_turned", defArgs (top 27), defBody (top 27), defScope (top 27), [], []⟩
def D__law_meet : He.DefD := ⟨("_law_meet", none), "_law_meet", "_law_meet", defArgs (top 28), defBody (top 28), defScope (top 28), [], []⟩
def D__law_web_right : He.DefD := ⟨("_law_web_right", none), "_law_web_right", "_law_web_right", defArgs (top 29), defBody (top 29), defScope (top 29), [], []⟩
def D_law : He.DefD := ⟨("law", none), "law", "law", defArgs (top 30), defBody (top 30), defScope (top 30), [], []⟩
def fn0 : List He.DefD := [D_is_name, D_Web___init__, D_Web__add_suit, D_Web_names, D_Web_suits, D_Web_does_suit, D_Web_may_meet, D_Web_edges, D_require, D_format_web, D_words_of, D_parse_web, D__law_mixed, D__law_take, D__law_state, D__law_name, D__law_names, D__law_drawn, D__law_lines, D__law_text, D__law_turned, D__law_meet, D__law_web_right, D_law]
def fn : List He.DefD := fn0
def fa0 : List He.Fa := [.glo "SwapError", .exc "SwapError", .glo "InvalidWeb", .exc "InvalidWeb", .glo "DuplicateName", .exc "DuplicateName", .glo "UnknownName", .exc "UnknownName", .glo "InvalidSuit", .exc "InvalidSuit", .glo "InvalidLine", .int "MOST_NAMES" 16, .str "LETTERS" "abcdefghijklmnopqrstuvwxyz", .glo "is_name", .glo "Web", .cls "Web", .noat "Web" "pairs", .noat "Web" "givers", .noat "Web" "_suits", .mkr "Web", .meth "Web" "__init__", .meth "Web" "_add_suit", .meth "Web" "names", .meth "Web" "suits", .meth "Web" "does_suit", .meth "Web" "may_meet", .meth "Web" "edges", .glo "COUNTS", .glo "require", .glo "format_web"]
def fa1 : List He.Fa := [.glo "words_of", .glo "parse_web", .glo "_law_mixed", .glo "_law_take", .glo "_law_state", .glo "_law_name", .glo "_law_names", .glo "_law_drawn", .glo "_law_lines", .glo "_law_text", .glo "_law_turned", .glo "_law_meet", .glo "_law_web_right", .glo "law", .free "bool", .free "len", .free "range", .free "list", .free "int", .free "sorted", .free "enumerate", .free "isinstance", .free "min", .free "max", .free "abs", .free "reversed", .free "str", .free "tuple", .free "repr", .free "ValueError"]
def fa2 : List He.Fa := [.free "all"]
def fa : List He.Fa := fa0 ++ fa1 ++ fa2
def lo0 : List Str := ["__name__", "SwapError", "InvalidWeb", "DuplicateName", "UnknownName", "InvalidSuit", "InvalidLine", "MOST_NAMES", "LETTERS", "is_name", "Web", "COUNTS", "require", "format_web", "words_of", "parse_web", "_law_mixed", "_law_take", "_law_state", "_law_name", "_law_names", "_law_drawn", "_law_lines", "_law_text", "_law_turned", "_law_meet", "_law_web_right"]
def lo : List Str := lo0
abbrev exn : List (Nat × Str) := [(0, "SwapError"), (1, "InvalidWeb"), (2, "DuplicateName"), (3, "UnknownName"), (4, "InvalidSuit")]
def exB (K : PySem.W.Frag) : Bool := He.exsB exn K && He.valsB K (He.ga K "COUNTS") ([("pair", 2), ("giver", 2), ("suits", 3)].map fun q => (q.1, He.Dv.int q.2))
def ts : List He.Tab := [(fun K => He.ga K "COUNTS", ["pair", "giver", "suits"])]
abbrev R : PySem.W.OpenRow := PySem.W.OpenLaw.row PySem.Challenge.rw_pairswap_k60_whole_webs_come_back
abbrev hk : PySem.W.Hook := He.hookR 4 fa fn exB ts
def ob (s : PySem.W.SharedT) : He.AlR := He.obsRG 4 fa fn exB ts (HandSHeadRun.getT s)
theorem ob_eq (s : PySem.W.SharedT) : ob s = hk.obs s.abs := He.obsRG_eq (HandSHeadRun.getT_eq s)
theorem run0 (w : World) : HandSHeadRun.RunEq R (PySem.W.view R.prog [30]) hk ob 4000 lo (w.withFollow "special-get-raises" false) := by
  intro os
  kernel_rfl
theorem run1 (w : World) : HandSHeadRun.RunEq R (PySem.W.view R.prog [30]) hk ob 4000 lo (w.withFollow "special-get-raises" true) := by
  intro os
  kernel_rfl
theorem run (w : World) : HandSHeadRun.RunEq R (PySem.W.view R.prog [30]) hk ob 4000 lo w := PySem.W.byRow2 "special-get-raises" (P := fun w => HandSHeadRun.RunEq R (PySem.W.view R.prog [30]) hk ob 4000 lo w) run0 run1 w
end HeadT

set_option Elab.async false
set_option autoImplicit false
set_option linter.all false
set_option maxRecDepth 100000
set_option maxHeartbeats 4000000
namespace Sim
open PySem PySem.Spec PyProof.Rows L2
abbrev top (i : Nat) : Stmt := HeadT.top i
abbrev mth (i j : Nat) : Stmt := HeadT.mth i j
def k_MOST_NAMES : Int := 16
def k_LETTERS : Tt := ⟨"abcdefghijklmnopqrstuvwxyz", by decide +kernel⟩
abbrev exn : List (Nat × Str) := HeadT.exn
abbrev exl : List Nat := exn.map (·.1)
structure Tx (Γ : Gm) : Prop where
  d_is_name : Def Γ "is_name" (top 10) ["text"]
  d_Web__add_suit : DefM Γ "_add_suit" "Web._add_suit" (mth 11 1) ["self", "giver", "taker"]
  d_Web___init__ : DefC Γ "Web" "Web.__init__" (mth 11 0) ["self", "pairs", "givers", "suits"]
  d_Web_names : DefM Γ "names" "Web.names" (mth 11 2) ["self"]
  d_Web_suits : DefM Γ "suits" "Web.suits" (mth 11 3) ["self"]
  d_Web_does_suit : DefM Γ "does_suit" "Web.does_suit" (mth 11 4) ["self", "giver", "taker"]
  d_Web_may_meet : DefM Γ "may_meet" "Web.may_meet" (mth 11 5) ["self", "one", "other"]
  d_Web_edges : DefM Γ "edges" "Web.edges" (mth 11 6) ["self"]
  d__law_mixed : Def Γ "_law_mixed" (top 19) ["_law_cell"]
  d__law_take : Def Γ "_law_take" (top 20) ["_law_state_here", "_law_limit"]
  d__law_state : Def Γ "_law_state" (top 21) ["_law_script"]
  d__law_name : Def Γ "_law_name" (top 22) ["_law_state_here"]
  d__law_names : Def Γ "_law_names" (top 23) ["_law_state_here", "_law_many"]
  d__law_drawn : Def Γ "_law_drawn" (top 24) ["_law_state_here", "_law_most", "_law_lone"]
  d__law_lines : Def Γ "_law_lines" (top 25) ["_law_web"]
  d__law_text : Def Γ "_law_text" (top 26) ["_law_lines_here"]
  d__law_turned : Def Γ "_law_turned" (top 27) ["_law_state_here", "_law_rows"]
  d_format_web : Def Γ "format_web" (top 15) ["web"]
  d__law_meet : Def Γ "_law_meet" (top 28) ["_law_web", "_law_one", "_law_other"]
  d__law_web_right : Def Γ "_law_web_right" (top 29) ["_law_state_here", "_law_made", "_law_web"]
  d_require : Def Γ "require" (top 14) ["good", "line"]
  d_words_of : Def Γ "words_of" (top 16) ["line", "number"]
  d_parse_web : Def Γ "parse_web" (top 17) ["text"]
  g_MOST_NAMES : ∃ t, Γ.mg "MOST_NAMES" = some (.int 16 t)
  g_LETTERS : ∃ t, Γ.mg "LETTERS" = some (.str "abcdefghijklmnopqrstuvwxyz" t)
  x_SwapError : ExT Γ "SwapError" 0
  x_InvalidWeb : ExT Γ "InvalidWeb" 1
  x_DuplicateName : ExT Γ "DuplicateName" 2
  x_UnknownName : ExT Γ "UnknownName" 3
  x_InvalidSuit : ExT Γ "InvalidSuit" 4
  b_bool : Γ.mg "bool" = none
  b_len : Γ.mg "len" = none
  b_range : Γ.mg "range" = none
  b_list : Γ.mg "list" = none
  b_int : Γ.mg "int" = none
  b_sorted : Γ.mg "sorted" = none
  b_enumerate : Γ.mg "enumerate" = none
  b_isinstance : Γ.mg "isinstance" = none
  b_min : Γ.mg "min" = none
  b_max : Γ.mg "max" = none
  b_abs : Γ.mg "abs" = none
  b_reversed : Γ.mg "reversed" = none
  b_str : Γ.mg "str" = none
  b_tuple : Γ.mg "tuple" = none
  b_repr : Γ.mg "repr" = none
  b_ValueError : Γ.mg "ValueError" = none
  b_all : Γ.mg "all" = none
  wb : WbT Γ
  t_COUNTS : Tbl Γ "COUNTS" [("pair", 2), ("giver", 2), ("suits", 3)]
  xs : ExS Γ exl
abbrev s_is_name : Stmt := top 10
theorem sc_is_name : FnScope ["text", "sign"] ["text"] (defScope s_is_name) := ⟨rfl, rfl, rfl, by decide +kernel, rfl, by decide +kernel, by decide +kernel⟩
def mb_is_name (a : Tt × Unit) : Option (Fl Empty Empty Bool Unit) :=
  flb ((some (signs a.1)).bind fun xs => forF (fun (_ : Unit) (x2 : Ch) =>
  flb ((some (!inS x2 k_LETTERS)).bind fun t => if t = true then
  (some false).bind fun b => some (Fl.ret b ())
 else
  (some (Fl.nx ()))) fun _ =>
  (some (Fl.nx ()))) () xs) fun (_ : Unit) =>
  ((slen a.1).bind fun w4 => if decide ((1 : Int) ≤ w4) = true then some (decide (w4 ≤ (12 : Int))) else some false).bind fun b => some (Fl.ret b ())
def m_is_name (a : Tt × Unit) : Option Bool := (mb_is_name a).bind (retP Empty.elim)
theorem c_is_name {Γ : Gm} (T : Tx Γ) : Cal Γ "is_name" 1 false m_is_name := by
  refine cal_of (k := 0) (τ := Tt × Unit) T.d_is_name sc_is_name (S := Empty) (sto := (fun s => s.elim)) (m := mb_is_name) Empty.elim (fun s => s.elim) rfl (fun X B a d => ?_) m_is_name fun _ => rfl
  exact (xb_seq (S1 := Unit) (sto1 := (fun (_ : Unit) => [vl (a.1 : Tt), .dead])) (xb_for (S := Unit) (sto := (fun (_ : Unit) => [vl (a.1 : Tt), .dead])) d () (xi_eq (xi_str (xe_var d.toCok 0 rfl rfl (.inl rfl))) rfl) (fun B d => xg_name d 1 rfl (.inl rfl)) (fun B d _ x2 => (xb_seq (S1 := Unit) (sto1 := (fun (_ : Unit) => [vl (a.1 : Tt), vl (x2 : Ch)])) (xb_if (S := Unit) (sto := (fun (_ : Unit) => [vl (a.1 : Tt), vl (x2 : Ch)])) (xt_eq (xt_ofC (xc_op2 op_notIn_sign o_notInS (xe_var d.toCok 1 rfl rfl (.inl rfl)) (xe_glob (z := k_LETTERS) d.toCok rfl (T.g_LETTERS).choose_spec ⟨_, rfl⟩))) rfl) (xb_one (xb_ret (c := ()) (xe_eq xe_bl rfl) rfl [(0, false), (1, false)] rfl rfl)) (xb_end [] () rfl)) (fun _ => (xb_end [(1, false)] () rfl))))) (fun _ => (xb_one (xb_ret (c := ()) (xe_eq (xe_chain op_le op_le xe_int (xe_lenS d.toCok (xe_var d.toCok 0 rfl rfl (.inl rfl)) rfl T.b_len) xe_int) rfl) rfl [(0, false)] rfl rfl))))
abbrev s_Web__add_suit : Stmt := mth 11 1
theorem sc_Web__add_suit : FnScope ["self", "giver", "taker"] ["self", "giver", "taker"] (defScope s_Web__add_suit) := ⟨rfl, rfl, rfl, by decide +kernel, rfl, by decide +kernel, by decide +kernel⟩
def mb_Web__add_suit (a : Tt × Tt × Unit) (p g : List Tt) (s : SU) : Option (Fl SU Empty Unit SU) :=
  flb (((andM (some (!isIn a.1 p)) (some (!isIn a.1 g)))).bind fun t => if t = true then
  ((some a.1).bind fun _ => some (Fl.err ⟨3, 0⟩ s))
 else
  (some (Fl.nx ()))) fun _ =>
  flb (((andM (some (!isIn a.2.1 p)) (some (!isIn a.2.1 g)))).bind fun t => if t = true then
  ((some a.2.1).bind fun _ => some (Fl.err ⟨3, 0⟩ s))
 else
  (some (Fl.nx ()))) fun _ =>
  flb (((orM (some (isIn a.2.1 g)) (orM (some (decide (a.1 = a.2.1))) (some ((look s (a.1, a.2.1)).isSome))))).bind fun t => if t = true then
  ((some a.2.1).bind fun _ => some (Fl.err ⟨4, 0⟩ s))
 else
  (some (Fl.nx ()))) fun _ =>
  (dput s (a.1, a.2.1) true).bind fun (z4 : SU) =>
  (some (Fl.nx z4))
def m_Web__add_suit (a : Tt × Tt × Unit) (p g : List Tt) (s : SU) : Option (Except Er SU) := (mb_Web__add_suit a p g s).bind retS
theorem c_Web__add_suit {Γ : Gm} (T : Tx Γ) : CalS Γ "_add_suit" 1 m_Web__add_suit := by
  refine calS_of (k := 0) (τ := Tt × Tt × Unit) T.d_Web__add_suit sc_Web__add_suit (m := mb_Web__add_suit) rfl (fun X B a p g s M W d => ?_) m_Web__add_suit fun _ _ _ _ => rfl
  exact (xb_seq (S1 := Unit) (sto1 := (fun (_ : Unit) => [ow (WS.w3 p g s), vl (a.1 : Tt), vl (a.2.1 : Tt)])) (xb_if (S := Unit) (sto := (fun (_ : Unit) => [ow (WS.w3 p g s), vl (a.1 : Tt), vl (a.2.1 : Tt)])) (xt_eq (xt_w (xw_and (xt_ofC (xc_notIn (xe_var d.toCok 1 rfl rfl (.inl rfl)) (xr_of (xe_oP d.toCok T.wb 0 rfl rfl (.inl rfl))))) (xw_and1 (xt_ofC (xc_notIn (xe_var d.toCok 1 rfl rfl (.inl rfl)) (xr_of (xe_oG d.toCok T.wb 0 rfl rfl (.inl rfl)))))))) rfl) (xb_one (xb_raise d T.x_UnknownName (by decide) rfl (xe_eq (xe_var d.toCok 1 rfl rfl (.inl rfl)) rfl) [1, 2] rfl)) (xb_end [] () rfl)) (fun _ => (xb_seq (S1 := Unit) (sto1 := (fun (_ : Unit) => [ow (WS.w3 p g s), vl (a.1 : Tt), vl (a.2.1 : Tt)])) (xb_if (S := Unit) (sto := (fun (_ : Unit) => [ow (WS.w3 p g s), vl (a.1 : Tt), vl (a.2.1 : Tt)])) (xt_eq (xt_w (xw_and (xt_ofC (xc_notIn (xe_var d.toCok 2 rfl rfl (.inl rfl)) (xr_of (xe_oP d.toCok T.wb 0 rfl rfl (.inl rfl))))) (xw_and1 (xt_ofC (xc_notIn (xe_var d.toCok 2 rfl rfl (.inl rfl)) (xr_of (xe_oG d.toCok T.wb 0 rfl rfl (.inl rfl)))))))) rfl) (xb_one (xb_raise d T.x_UnknownName (by decide) rfl (xe_eq (xe_var d.toCok 2 rfl rfl (.inl rfl)) rfl) [1, 2] rfl)) (xb_end [] () rfl)) (fun _ => (xb_seq (S1 := Unit) (sto1 := (fun (_ : Unit) => [ow (WS.w3 p g s), vl (a.1 : Tt), vl (a.2.1 : Tt)])) (xb_if (S := Unit) (sto := (fun (_ : Unit) => [ow (WS.w3 p g s), vl (a.1 : Tt), vl (a.2.1 : Tt)])) (xt_eq (xt_w (xw_or (xt_ofC (xc_in (xe_var d.toCok 2 rfl rfl (.inl rfl)) (xr_of (xe_oG d.toCok T.wb 0 rfl rfl (.inl rfl))))) (xw_or (xt_ofC (xc_op2 op_eq o_eqS (xe_var d.toCok 1 rfl rfl (.inl rfl)) (xe_var d.toCok 2 rfl rfl (.inl rfl)))) (xw_or1 (xt_ofC (xc_tin d.toCok (xe_tup2 (xe_var d.toCok 1 rfl rfl (.inl rfl)) (xe_var d.toCok 2 rfl rfl (.inl rfl))) (xt_oS d.toCok T.wb 0 rfl rfl (.inl rfl)))))))) rfl) (xb_one (xb_raise d T.x_InvalidSuit (by decide) rfl (xe_eq (xe_var d.toCok 2 rfl rfl (.inl rfl)) rfl) [1, 2] rfl)) (xb_end [] () rfl)) (fun _ => (xb_pseq (sto1 := fun (z4 : SU) => [ow (WS.w3 p g z4), vl (a.1 : Tt), vl (a.2.1 : Tt)]) (xp1_eq (xp_oPut d T.wb 0 rfl rfl (.inl rfl) (xe_tup2 (xe_var d.toCok 1 rfl rfl (.inl rfl)) (xe_var d.toCok 2 rfl rfl (.inl rfl))) xe_bl) rfl) (fun z4 => (xb_end [(1, false), (2, false)] z4 rfl)))))))))
abbrev s_Web___init__ : Stmt := mth 11 0
theorem sc_Web___init__ : FnScope ["self", "pairs", "givers", "suits", "seen", "name", "giver", "taker"] ["self", "pairs", "givers", "suits"] (defScope s_Web___init__) := ⟨rfl, rfl, rfl, by decide +kernel, rfl, by decide +kernel, by decide +kernel⟩
def mb_Web___init__ (a : (List Tt) × (List Tt) × (List (Tt × Tt)) × Unit) : Option (Fl WS Empty Unit Unit) :=
  flb ((some (decide (k_MOST_NAMES < (((a.1).length : Int) + ((a.2.1).length : Int))))).bind fun t => if t = true then
  ((some (Tt.mk "size" (by decide +kernel))).bind fun _ => some (Fl.err ⟨1, 0⟩ ()))
 else
  (some (Fl.nx ()))) fun _ =>
  (some ()).bind fun _ =>
  flb ((pcat a.1 a.2.1).bind fun xs => forF (fun (s3 : (List (Tt × Bool))) (x4 : Tt) =>
  flb ((((b2 (some x4) (some ()) fun x t => some (x, t)).bind m_is_name).bind fun w5 => some (!w5)).bind fun t => if t = true then
  ((some x4).bind fun _ => some (Fl.err ⟨1, 0⟩ ()))
 else
  (some (Fl.nx ()))) fun _ =>
  flb ((some ((look s3 x4).isSome)).bind fun t => if t = true then
  ((some x4).bind fun _ => some (Fl.err ⟨2, 0⟩ ()))
 else
  (some (Fl.nx ()))) fun _ =>
  (dput s3 x4 true).bind fun (z8 : (List (Tt × Bool))) =>
  (some (Fl.nx z8))) [] xs) fun (s3 : (List (Tt × Bool))) =>
  (some a.1).bind fun (z9 : (List Tt)) =>
  (some (srt a.2.1)).bind fun (z10 : (List Tt)) =>
  (some ()).bind fun _ =>
  flb ((some a.2.2.1).bind fun xs => forF (fun (s11 : SU) (x12 : (Tt × Tt)) =>
  flb (((b2 (some x12.1) (b2 (some x12.2) (some ()) fun x t => some (x, t)) fun x t => some (x, t)).bind (fun t => (m_Web__add_suit t z9 z10 s11).bind fun r => some (exS () r))).bind fun r => some (exDo r)) fun (z13 : SU) =>
  (some (Fl.nx z13))) [] xs) fun (s11 : SU) =>
  (some (Fl.nx (WS.w3 z9 z10 s11)))
def m_Web___init__ (a : (List Tt) × (List Tt) × (List (Tt × Tt)) × Unit) : Option (Except Er WebD) := (mb_Web___init__ a).bind retC
theorem c_Web___init__ {Γ : Gm} (T : Tx Γ) : CalC Γ "Web" 2 m_Web___init__ := by
  refine calC_of (k := 1) (τ := (List Tt) × (List Tt) × (List (Tt × Tt)) × Unit) T.d_Web___init__ sc_Web___init__ (m := mb_Web___init__) rfl (fun X B a W d => ?_) m_Web___init__ fun _ => rfl
  exact (xb_seq (S1 := Unit) (sto1 := (fun (_ : Unit) => [ow WS.w0, vl (a.1 : (List Tt)), vl (a.2.1 : (List Tt)), vl (a.2.2.1 : (List (Tt × Tt))), .dead, .dead, .dead, .dead])) (xb_if (S := Unit) (sto := (fun (_ : Unit) => [ow WS.w0, vl (a.1 : (List Tt)), vl (a.2.1 : (List Tt)), vl (a.2.2.1 : (List (Tt × Tt))), .dead, .dead, .dead, .dead])) (xt_eq (xt_ofC (xc_op2 op_gt o_gt (xe_op2 op_add o_add (xe_lenR d.toCok (xr_of (xe_var d.toCok 1 rfl rfl (.inl rfl))) rfl T.b_len) (xe_lenR d.toCok (xr_of (xe_var d.toCok 2 rfl rfl (.inl rfl))) rfl T.b_len)) (xe_glob (z := k_MOST_NAMES) d.toCok rfl (T.g_MOST_NAMES).choose_spec ⟨_, rfl⟩))) rfl) (xb_one (xb_raise d T.x_InvalidWeb (by decide) rfl (xe_eq xe_str rfl) [0, 1, 2, 3] rfl)) (xb_end [] () rfl)) (fun _ => (xb_pseq (sto1 := fun _ => [ow WS.w0, vl (a.1 : (List Tt)), vl (a.2.1 : (List Tt)), vl (a.2.2.1 : (List (Tt × Tt))), ow (OK.mk ([] : List (Tt × Bool))), .dead, .dead, .dead]) (xp_setDK d (α := Bool) (κ := Tt) 4 rfl (.inl rfl)) (fun _ => (xb_seq (S1 := (List (Tt × Bool))) (sto1 := (fun (s3 : (List (Tt × Bool))) => [ow WS.w0, vl (a.1 : (List Tt)), vl (a.2.1 : (List Tt)), vl (a.2.2.1 : (List (Tt × Tt))), ow (OK.mk (s3 : List (Tt × Bool))), .dead, .dead, .dead])) (xb_for (S := (List (Tt × Bool))) (sto := (fun (s3 : (List (Tt × Bool))) => [ow WS.w0, vl (a.1 : (List Tt)), vl (a.2.1 : (List Tt)), vl (a.2.2.1 : (List (Tt × Tt))), ow (OK.mk (s3 : List (Tt × Bool))), .dead, .dead, .dead])) d [] (xi_eq (xi_list (xe_ofN (xn_cat (xr_ofN (xn_listOf d.toCok (xr_of (xe_var d.toCok 1 rfl rfl (.inl rfl))) rfl T.b_list)) (xr_ofN (xn_listOf d.toCok (xr_of (xe_var d.toCok 2 rfl rfl (.inl rfl))) rfl T.b_list))))) rfl) (fun B d => xg_name d 5 rfl (.inl rfl)) (fun B d s3 x4 => (xb_seq (S1 := Unit) (sto1 := (fun (_ : Unit) => [ow WS.w0, vl (a.1 : (List Tt)), vl (a.2.1 : (List Tt)), vl (a.2.2.1 : (List (Tt × Tt))), ow (OK.mk (s3 : List (Tt × Bool))), vl (x4 : Tt), .dead, .dead])) (xb_if (S := Unit) (sto := (fun (_ : Unit) => [ow WS.w0, vl (a.1 : (List Tt)), vl (a.2.1 : (List Tt)), vl (a.2.2.1 : (List (Tt × Tt))), ow (OK.mk (s3 : List (Tt × Bool))), vl (x4 : Tt), .dead, .dead])) (xt_eq (xt_not (xt_val (xe_call d.toCok (c_is_name T) (by decide) rfl (xa_cons (xe_var d.toCok 5 rfl rfl (.inl rfl)) xa_nil)))) rfl) (xb_one (xb_raise d T.x_InvalidWeb (by decide) rfl (xe_eq (xe_var d.toCok 5 rfl rfl (.inl rfl)) rfl) [0, 1, 2, 3, 4, 5] rfl)) (xb_end [] () rfl)) (fun _ => (xb_seq (S1 := Unit) (sto1 := (fun (_ : Unit) => [ow WS.w0, vl (a.1 : (List Tt)), vl (a.2.1 : (List Tt)), vl (a.2.2.1 : (List (Tt × Tt))), ow (OK.mk (s3 : List (Tt × Bool))), vl (x4 : Tt), .dead, .dead])) (xb_if (S := Unit) (sto := (fun (_ : Unit) => [ow WS.w0, vl (a.1 : (List Tt)), vl (a.2.1 : (List Tt)), vl (a.2.2.1 : (List (Tt × Tt))), ow (OK.mk (s3 : List (Tt × Bool))), vl (x4 : Tt), .dead, .dead])) (xt_eq (xt_ofC (xc_din d.toCok (xe_var d.toCok 5 rfl rfl (.inl rfl)) (xk_own d.toCok 4 rfl rfl (.inl rfl)))) rfl) (xb_one (xb_raise d T.x_DuplicateName (by decide) rfl (xe_eq (xe_var d.toCok 5 rfl rfl (.inl rfl)) rfl) [0, 1, 2, 3, 4, 5] rfl)) (xb_end [] () rfl)) (fun _ => (xb_pseq (sto1 := fun (z8 : (List (Tt × Bool))) => [ow WS.w0, vl (a.1 : (List Tt)), vl (a.2.1 : (List Tt)), vl (a.2.2.1 : (List (Tt × Tt))), ow (OK.mk (z8 : List (Tt × Bool))), vl (x4 : Tt), .dead, .dead]) (xp1_eq (xp_dput d 4 rfl rfl (.inl rfl) (xe_var d.toCok 5 rfl rfl (.inl rfl)) xe_bl) rfl) (fun z8 => (xb_end [(5, false)] z8 rfl))))))))) (fun s3 => (xb_pseq (sto1 := fun (z9 : (List Tt)) => [ow (WS.w1 z9), vl (a.1 : (List Tt)), vl (a.2.1 : (List Tt)), vl (a.2.2.1 : (List (Tt × Tt))), ow (OK.mk (s3 : List (Tt × Bool))), .dead, .dead, .dead]) (xp_oP d T.wb 0 (xe_eq (xe_ofN (xn_listOf d.toCok (xr_of (xe_var d.toCok 1 rfl rfl (.inl rfl))) rfl T.b_list)) rfl) rfl rfl (.inl rfl)) (fun z9 => (xb_pseq (sto1 := fun (z10 : (List Tt)) => [ow (WS.w2 z9 z10), vl (a.1 : (List Tt)), vl (a.2.1 : (List Tt)), vl (a.2.2.1 : (List (Tt × Tt))), ow (OK.mk (s3 : List (Tt × Bool))), .dead, .dead, .dead]) (xp_oG d T.wb 0 (xe_eq (xe_ofN (xn_sortT d.toCok (xr_of (xe_var d.toCok 2 rfl rfl (.inl rfl))) rfl T.b_sorted)) rfl) rfl rfl (.inl rfl)) (fun z10 => (xb_pseq (sto1 := fun _ => [ow (WS.w3 z9 z10 []), vl (a.1 : (List Tt)), vl (a.2.1 : (List Tt)), vl (a.2.2.1 : (List (Tt × Tt))), ow (OK.mk (s3 : List (Tt × Bool))), .dead, .dead, .dead]) (xp_oS d T.wb 0 rfl rfl (.inl rfl)) (fun _ => (xb_seq (S1 := SU) (sto1 := (fun (s11 : SU) => [ow (WS.w3 z9 z10 s11), .dead, .dead, vl (a.2.2.1 : (List (Tt × Tt))), .dead, .dead, .dead, .dead])) (xb1_pre [(1, false), (2, false), (4, false)] (xb_for (S := SU) (sto := (fun (s11 : SU) => [ow (WS.w3 z9 z10 s11), .dead, .dead, vl (a.2.2.1 : (List (Tt × Tt))), .dead, .dead, .dead, .dead])) d [] (xi_eq (xi_list (xe_var d.toCok 3 rfl rfl (.inl rfl))) rfl) (fun B d => xg_pair d 6 7 rfl (.inl rfl) rfl (.inl rfl)) (fun B d s11 x12 => (xb_seq (S1 := SU) (sto1 := fun z13 => [ow (WS.w3 z9 z10 z13), .dead, .dead, vl (a.2.2.1 : (List (Tt × Tt))), .dead, .dead, vl (x12.1 : Tt), vl (x12.2 : Tt)]) (xb_doX (xx_eq (xx_methS d T.wb () [0, 3, 6, 7] 0 (c_Web__add_suit T) (by decide) rfl rfl (.inl rfl) (xa_cons (xe_var d.toCok 6 rfl rfl (.inl rfl)) (xa_cons (xe_var d.toCok 7 rfl rfl (.inl rfl)) xa_nil)) rfl (by decide)) rfl)) (fun z13 => (xb_end [(6, false), (7, false)] z13 rfl))))) rfl) (fun s11 => (xb_end [(0, true), (3, false)] (WS.w3 z9 z10 s11) rfl)))))))))))))))
abbrev s_Web_names : Stmt := mth 11 2
theorem sc_Web_names : FnScope ["self"] ["self"] (defScope s_Web_names) := ⟨rfl, rfl, rfl, by decide +kernel, rfl, by decide +kernel, by decide +kernel⟩
def mb_Web_names (a : WebD × Unit) : Option (Fl Empty Empty (List Tt) Unit) :=
  (pcat (a.1).pairs (a.1).givers).bind fun b => some (Fl.ret b ())
def m_Web_names (a : WebD × Unit) : Option (List Tt) := (mb_Web_names a).bind (retP Empty.elim)
theorem c_Web_names {Γ : Gm} (T : Tx Γ) : CalM Γ "names" 1 true m_Web_names := by
  refine calM_of (k := 0) (τ := Unit) T.d_Web_names sc_Web_names (S := Empty) (sto := (fun s => s.elim)) (m := mb_Web_names) Empty.elim (fun s => s.elim) rfl (fun X B a d => ?_) m_Web_names fun _ => rfl
  exact (xb_one (xb_retN (c := ()) (xn_eq (xn_cat (xr_of (xe_wP d.toCok T.wb (xe_var d.toCok 0 rfl rfl (.inl rfl)))) (xr_of (xe_wG d.toCok T.wb (xe_var d.toCok 0 rfl rfl (.inl rfl))))) rfl) rfl [(0, false)] rfl (fun _ => d.hM)))
abbrev s_Web_suits : Stmt := mth 11 3
theorem sc_Web_suits : FnScope ["self"] ["self"] (defScope s_Web_suits) := ⟨rfl, rfl, rfl, by decide +kernel, rfl, by decide +kernel, by decide +kernel⟩
def mb_Web_suits (a : WebD × Unit) : Option (Fl Empty Empty (List (Tt × Tt)) Unit) :=
  ((if (((DT.mk (a.1).suits)).l).length ≤ BIG then some (srt ((((DT.mk (a.1).suits)).l).map (·.1))) else none)).bind fun b => some (Fl.ret b ())
def m_Web_suits (a : WebD × Unit) : Option (List (Tt × Tt)) := (mb_Web_suits a).bind (retP Empty.elim)
theorem c_Web_suits {Γ : Gm} (T : Tx Γ) : CalM Γ "suits" 1 true m_Web_suits := by
  refine calM_of (k := 0) (τ := Unit) T.d_Web_suits sc_Web_suits (S := Empty) (sto := (fun s => s.elim)) (m := mb_Web_suits) Empty.elim (fun s => s.elim) rfl (fun X B a d => ?_) m_Web_suits fun _ => rfl
  exact (xb_one (xb_retN (c := ()) (xn_eq (xn_sortDT d.toCok (xt_of (xe_wS d.toCok T.wb (xe_var d.toCok 0 rfl rfl (.inl rfl)))) rfl T.b_sorted) rfl) rfl [(0, false)] rfl (fun _ => d.hM)))
abbrev s_Web_does_suit : Stmt := mth 11 4
theorem sc_Web_does_suit : FnScope ["self", "giver", "taker"] ["self", "giver", "taker"] (defScope s_Web_does_suit) := ⟨rfl, rfl, rfl, by decide +kernel, rfl, by decide +kernel, by decide +kernel⟩
def mb_Web_does_suit (a : WebD × Tt × Tt × Unit) : Option (Fl Empty Empty Bool Unit) :=
  (some ((look ((DT.mk (a.1).suits)).l (a.2.1, a.2.2.1)).isSome)).bind fun b => some (Fl.ret b ())
def m_Web_does_suit (a : WebD × Tt × Tt × Unit) : Option Bool := (mb_Web_does_suit a).bind (retP Empty.elim)
theorem c_Web_does_suit {Γ : Gm} (T : Tx Γ) : CalM Γ "does_suit" 1 false m_Web_does_suit := by
  refine calM_of (k := 0) (τ := Tt × Tt × Unit) T.d_Web_does_suit sc_Web_does_suit (S := Empty) (sto := (fun s => s.elim)) (m := mb_Web_does_suit) Empty.elim (fun s => s.elim) rfl (fun X B a d => ?_) m_Web_does_suit fun _ => rfl
  exact (xb_one (xb_ret (c := ()) (xe_eq (xe_ofC (xc_tin d.toCok (xe_tup2 (xe_var d.toCok 1 rfl rfl (.inl rfl)) (xe_var d.toCok 2 rfl rfl (.inl rfl))) (xt_of (xe_wS d.toCok T.wb (xe_var d.toCok 0 rfl rfl (.inl rfl)))))) rfl) rfl [(0, false), (1, false), (2, false)] rfl rfl))
abbrev s_Web_may_meet : Stmt := mth 11 5
theorem sc_Web_may_meet : FnScope ["self", "one", "other"] ["self", "one", "other"] (defScope s_Web_may_meet) := ⟨rfl, rfl, rfl, by decide +kernel, rfl, by decide +kernel, by decide +kernel⟩
def mb_Web_may_meet (a : WebD × Tt × Tt × Unit) : Option (Fl Empty Empty Bool Unit) :=
  flb ((some (isIn a.2.1 (a.1).givers)).bind fun t => if t = true then
  ((some a.1).bind fun w => (b2 (some a.2.1) (b2 (some a.2.2.1) (some ()) fun x t => some (x, t)) fun x t => some (x, t)).bind (fun t => m_Web_does_suit (w, t))).bind fun b => some (Fl.ret b ())
 else
  (some (Fl.nx ()))) fun _ =>
  flb ((some (isIn a.2.2.1 (a.1).givers)).bind fun t => if t = true then
  ((some a.1).bind fun w => (b2 (some a.2.2.1) (b2 (some a.2.1) (some ()) fun x t => some (x, t)) fun x t => some (x, t)).bind (fun t => m_Web_does_suit (w, t))).bind fun b => some (Fl.ret b ())
 else
  (some (Fl.nx ()))) fun _ =>
  ((andM ((some a.1).bind fun w => (b2 (some a.2.1) (b2 (some a.2.2.1) (some ()) fun x t => some (x, t)) fun x t => some (x, t)).bind (fun t => m_Web_does_suit (w, t))) ((some a.1).bind fun w => (b2 (some a.2.2.1) (b2 (some a.2.1) (some ()) fun x t => some (x, t)) fun x t => some (x, t)).bind (fun t => m_Web_does_suit (w, t))))).bind fun b => some (Fl.ret b ())
def m_Web_may_meet (a : WebD × Tt × Tt × Unit) : Option Bool := (mb_Web_may_meet a).bind (retP Empty.elim)
theorem c_Web_may_meet {Γ : Gm} (T : Tx Γ) : CalM Γ "may_meet" 2 false m_Web_may_meet := by
  refine calM_of (k := 1) (τ := Tt × Tt × Unit) T.d_Web_may_meet sc_Web_may_meet (S := Empty) (sto := (fun s => s.elim)) (m := mb_Web_may_meet) Empty.elim (fun s => s.elim) rfl (fun X B a d => ?_) m_Web_may_meet fun _ => rfl
  exact (xb_seq (S1 := Unit) (sto1 := (fun (_ : Unit) => [vl (a.1 : WebD), vl (a.2.1 : Tt), vl (a.2.2.1 : Tt)])) (xb_if (S := Unit) (sto := (fun (_ : Unit) => [vl (a.1 : WebD), vl (a.2.1 : Tt), vl (a.2.2.1 : Tt)])) (xt_eq (xt_ofC (xc_in (xe_var d.toCok 1 rfl rfl (.inl rfl)) (xr_of (xe_wG d.toCok T.wb (xe_var d.toCok 0 rfl rfl (.inl rfl)))))) rfl) (xb_one (xb_ret (c := ()) (xe_eq (xe_meth d.toCok T.wb (c_Web_does_suit T) (by decide) (xe_var d.toCok 0 rfl rfl (.inl rfl)) (xa_cons (xe_var d.toCok 1 rfl rfl (.inl rfl)) (xa_cons (xe_var d.toCok 2 rfl rfl (.inl rfl)) xa_nil))) rfl) rfl [(0, false), (1, false), (2, false)] rfl rfl)) (xb_end [] () rfl)) (fun _ => (xb_seq (S1 := Unit) (sto1 := (fun (_ : Unit) => [vl (a.1 : WebD), vl (a.2.1 : Tt), vl (a.2.2.1 : Tt)])) (xb_if (S := Unit) (sto := (fun (_ : Unit) => [vl (a.1 : WebD), vl (a.2.1 : Tt), vl (a.2.2.1 : Tt)])) (xt_eq (xt_ofC (xc_in (xe_var d.toCok 2 rfl rfl (.inl rfl)) (xr_of (xe_wG d.toCok T.wb (xe_var d.toCok 0 rfl rfl (.inl rfl)))))) rfl) (xb_one (xb_ret (c := ()) (xe_eq (xe_meth d.toCok T.wb (c_Web_does_suit T) (by decide) (xe_var d.toCok 0 rfl rfl (.inl rfl)) (xa_cons (xe_var d.toCok 2 rfl rfl (.inl rfl)) (xa_cons (xe_var d.toCok 1 rfl rfl (.inl rfl)) xa_nil))) rfl) rfl [(0, false), (1, false), (2, false)] rfl rfl)) (xb_end [] () rfl)) (fun _ => (xb_one (xb_ret (c := ()) (xe_eq (xe_and (xe_meth d.toCok T.wb (c_Web_does_suit T) (by decide) (xe_var d.toCok 0 rfl rfl (.inl rfl)) (xa_cons (xe_var d.toCok 1 rfl rfl (.inl rfl)) (xa_cons (xe_var d.toCok 2 rfl rfl (.inl rfl)) xa_nil))) (xe_and1 (xe_meth d.toCok T.wb (c_Web_does_suit T) (by decide) (xe_var d.toCok 0 rfl rfl (.inl rfl)) (xa_cons (xe_var d.toCok 2 rfl rfl (.inl rfl)) (xa_cons (xe_var d.toCok 1 rfl rfl (.inl rfl)) xa_nil))))) rfl) rfl [(0, false), (1, false), (2, false)] rfl rfl))))))
abbrev s_Web_edges : Stmt := mth 11 6
theorem sc_Web_edges : FnScope ["self", "names", "found", "a", "b"] ["self"] (defScope s_Web_edges) := ⟨rfl, rfl, rfl, by decide +kernel, rfl, by decide +kernel, by decide +kernel⟩
def mb_Web_edges (a : WebD × Unit) : Option (Fl Empty Empty (List (Int × Int)) Unit) :=
  (m_Web_names (a.1, ())).bind fun (z1 : (List Tt)) =>
  (some ([] : (List (Int × Int)))).bind fun (z2 : (List (Int × Int))) =>
  ((prange 0 ((z1).length : Int)).bind fun xs => forP (fun (s3 : (List (Int × Int))) (x4 : Int) =>
  ((prange (x4 + (1 : Int)) ((z1).length : Int)).bind fun xs => forP (fun (s5 : (List (Int × Int))) (x6 : Int) =>
  (((some a.1).bind fun w => (b2 (atI z1 x4) (b2 (atI z1 x6) (some ()) fun x t => some (x, t)) fun x t => some (x, t)).bind (fun t => m_Web_may_meet (w, t))).bind fun t => if t = true then
  (push s5 (x4, x6)).bind fun (z8 : (List (Int × Int))) =>
  (some z8)
 else
  (some s5)).bind fun (s7 : (List (Int × Int))) =>
  (some s7)) s3 xs).bind fun (s5 : (List (Int × Int))) =>
  (some s5)) z2 xs).bind fun (s3 : (List (Int × Int))) =>
  (some (Fl.ret s3 ()))
def m_Web_edges (a : WebD × Unit) : Option (List (Int × Int)) := (mb_Web_edges a).bind (retP Empty.elim)
theorem c_Web_edges {Γ : Gm} (T : Tx Γ) : CalM Γ "edges" 3 true m_Web_edges := by
  refine calM_of (k := 2) (τ := Unit) T.d_Web_edges sc_Web_edges (S := Empty) (sto := (fun s => s.elim)) (m := mb_Web_edges) Empty.elim (fun s => s.elim) rfl (fun X B a d => ?_) m_Web_edges fun _ => rfl
  exact (xb_pseq (sto1 := fun (z1 : (List Tt)) => [vl (a.1 : WebD), vl (z1 : (List Tt)), .dead, .dead, .dead]) (xp_set d 1 (xe_eq (xe_ofN (xn_meth0 d.toCok T.wb (c_Web_names T) (by decide) (xe_var d.toCok 0 rfl rfl (.inl rfl)))) rfl) rfl (.inl rfl)) (fun z1 => (xb_pseq (sto1 := fun (z2 : (List (Int × Int))) => [vl (a.1 : WebD), vl (z1 : (List Tt)), ow (OL.mk (z2 : (List (Int × Int)))), .dead, .dead]) (xp_setN d 2 (xn_eq (xn_list (α := (Int × Int)) xl_nil) rfl) rfl (.inl rfl)) (fun z2 => (xb_pseq (S1 := (List (Int × Int))) (sto1 := (fun (s3 : (List (Int × Int))) => [vl (a.1 : WebD), vl (z1 : (List Tt)), ow (OL.mk (s3 : (List (Int × Int)))), .dead, .dead])) (xp_for (S := (List (Int × Int))) (sto := (fun (s3 : (List (Int × Int))) => [vl (a.1 : WebD), vl (z1 : (List Tt)), ow (OL.mk (s3 : (List (Int × Int)))), .dead, .dead])) d z2 (xi_eq (xi_range1 d.toCok (xe_lenR d.toCok (xr_of (xe_var d.toCok 1 rfl rfl (.inl rfl))) rfl T.b_len) rfl T.b_range) rfl) (fun B d => xg_name d 3 rfl (.inl rfl)) (fun B d s3 x4 => (xp_seq (S1 := (List (Int × Int))) (sto1 := (fun (s5 : (List (Int × Int))) => [vl (a.1 : WebD), vl (z1 : (List Tt)), ow (OL.mk (s5 : (List (Int × Int)))), vl (x4 : Int), .dead])) (xp_for (S := (List (Int × Int))) (sto := (fun (s5 : (List (Int × Int))) => [vl (a.1 : WebD), vl (z1 : (List Tt)), ow (OL.mk (s5 : (List (Int × Int)))), vl (x4 : Int), .dead])) d s3 (xi_eq (xi_range2 d.toCok (xe_op2 op_add o_add (xe_var d.toCok 3 rfl rfl (.inl rfl)) xe_int) (xe_lenR d.toCok (xr_of (xe_var d.toCok 1 rfl rfl (.inl rfl))) rfl T.b_len) rfl T.b_range) rfl) (fun B d => xg_name d 4 rfl (.inl rfl)) (fun B d s5 x6 => (xp_seq (S1 := (List (Int × Int))) (sto1 := (fun (s7 : (List (Int × Int))) => [vl (a.1 : WebD), vl (z1 : (List Tt)), ow (OL.mk (s7 : (List (Int × Int)))), vl (x4 : Int), vl (x6 : Int)])) (xp_if (S := (List (Int × Int))) (sto := (fun (s7 : (List (Int × Int))) => [vl (a.1 : WebD), vl (z1 : (List Tt)), ow (OL.mk (s7 : (List (Int × Int)))), vl (x4 : Int), vl (x6 : Int)])) (xt_eq (xt_val (xe_meth d.toCok T.wb (c_Web_may_meet T) (by decide) (xe_var d.toCok 0 rfl rfl (.inl rfl)) (xa_cons (xe_ix (xr_of (xe_var d.toCok 1 rfl rfl (.inl rfl))) (xe_var d.toCok 3 rfl rfl (.inl rfl))) (xa_cons (xe_ix (xr_of (xe_var d.toCok 1 rfl rfl (.inl rfl))) (xe_var d.toCok 4 rfl rfl (.inl rfl))) xa_nil)))) rfl) (xp_seq (sto1 := fun (z8 : (List (Int × Int))) => [vl (a.1 : WebD), vl (z1 : (List Tt)), ow (OL.mk (z8 : (List (Int × Int)))), vl (x4 : Int), vl (x6 : Int)]) (xp1_eq (xp_append d 2 rfl rfl (.inl rfl) (xe_tup2 (xe_var d.toCok 3 rfl rfl (.inl rfl)) (xe_var d.toCok 4 rfl rfl (.inl rfl)))) rfl) (fun z8 => (xp_end [] z8 rfl))) (xp_end [] s5 rfl)) (fun s7 => (xp_end [(4, false)] s7 rfl))))) (fun s5 => (xp_end [(3, false)] s5 rfl))))) (fun s3 => (xb_one (xb_retO d.toCok 2 rfl rfl rfl (.inl rfl) (fun _ _ r => r) ol_fp (fun _ => d.hM) [(0, false), (1, false), (2, false)] rfl))))))))
abbrev s__law_mixed : Stmt := top 19
theorem sc__law_mixed : FnScope ["_law_cell", "_law_seed", "_law_number", "_law_k"] ["_law_cell"] (defScope s__law_mixed) := ⟨rfl, rfl, rfl, by decide +kernel, rfl, by decide +kernel, by decide +kernel⟩
def mb__law_mixed (a : Int × Unit) : Option (Fl Empty Empty Int Unit) :=
  (pmod a.1 (1000000007 : Int)).bind fun (z1 : Int) =>
  (some (0 : Int)).bind fun (z2 : Int) =>
  ((prange 0 (6 : Int)).bind fun xs => forP (fun (s3 : Int × Int) (x4 : Int) =>
  ((((pmul s3.1 (48271 : Int)).bind fun w6 => some (w6 + (12820163 : Int))).bind fun w7 => (pmul (7 : Int) x4).bind fun w8 => some (w7 + w8)).bind fun w9 => pmod w9 (1000000007 : Int)).bind fun (z5 : Int) =>
  ((pmul s3.2 (1000000007 : Int)).bind fun w11 => some (w11 + z5)).bind fun (z10 : Int) =>
  (some (z5, z10))) (z1, z2) xs).bind fun (s3 : Int × Int) =>
  (some s3.2).bind fun b => some (Fl.ret b ())
def m__law_mixed (a : Int × Unit) : Option Int := (mb__law_mixed a).bind (retP Empty.elim)
theorem c__law_mixed {Γ : Gm} (T : Tx Γ) : Cal Γ "_law_mixed" 1 false m__law_mixed := by
  refine cal_of (k := 0) (τ := Int × Unit) T.d__law_mixed sc__law_mixed (S := Empty) (sto := (fun s => s.elim)) (m := mb__law_mixed) Empty.elim (fun s => s.elim) rfl (fun X B a d => ?_) m__law_mixed fun _ => rfl
  exact (xb_pseq (sto1 := fun (z1 : Int) => [vl (a.1 : Int), vl (z1 : Int), .dead, .dead]) (xp_set d 1 (xe_eq (xe_op2 op_mod o_mod (xe_intI d.toCok (xe_var d.toCok 0 rfl rfl (.inl rfl)) rfl T.b_int) xe_int) rfl) rfl (.inl rfl)) (fun z1 => (xb_pseq (sto1 := fun (z2 : Int) => [vl (a.1 : Int), vl (z1 : Int), vl (z2 : Int), .dead]) (xp_set d 2 (xe_eq xe_int rfl) rfl (.inl rfl)) (fun z2 => (xb_pseq (S1 := Int × Int) (sto1 := (fun (s3 : Int × Int) => [.dead, vl (s3.1 : Int), vl (s3.2 : Int), .dead])) (xp1_pre [(0, false)] (xp_for (S := Int × Int) (sto := (fun (s3 : Int × Int) => [.dead, vl (s3.1 : Int), vl (s3.2 : Int), .dead])) d (z1, z2) (xi_eq (xi_range1 d.toCok xe_int rfl T.b_range) rfl) (fun B d => xg_name d 3 rfl (.inl rfl)) (fun B d s3 x4 => (xp_seq (sto1 := fun (z5 : Int) => [.dead, vl (z5 : Int), vl (s3.2 : Int), vl (x4 : Int)]) (xp_set d 1 (xe_eq (xe_op2 op_mod o_mod (xe_intI d.toCok (xe_op2 op_add o_add (xe_op2 op_add o_add (xe_op2 op_mul o_mul (xe_var d.toCok 1 rfl rfl (.inl rfl)) xe_int) xe_int) (xe_op2 op_mul o_mul xe_int (xe_var d.toCok 3 rfl rfl (.inl rfl)))) rfl T.b_int) xe_int) rfl) rfl (.inl rfl)) (fun z5 => (xp_seq (sto1 := fun (z10 : Int) => [.dead, vl (z5 : Int), vl (z10 : Int), vl (x4 : Int)]) (xp_set d 2 (xe_eq (xe_op2 op_add o_add (xe_op2 op_mul o_mul (xe_var d.toCok 2 rfl rfl (.inl rfl)) xe_int) (xe_var d.toCok 1 rfl rfl (.inl rfl))) rfl) rfl (.inl rfl)) (fun z10 => (xp_end [(3, false)] (z5, z10) rfl))))))) rfl) (fun s3 => (xb_one (xb_ret (c := ()) (xe_eq (xe_var d.toCok 2 rfl rfl (.inl rfl)) rfl) rfl [(1, false), (2, false)] rfl rfl))))))))
abbrev s__law_take : Stmt := top 20
theorem sc__law_take : FnScope ["_law_state_here", "_law_limit", "_law_digit", "_law_cell"] ["_law_state_here", "_law_limit"] (defScope s__law_take) := ⟨rfl, rfl, rfl, by decide +kernel, rfl, by decide +kernel, by decide +kernel⟩
def mb__law_take (a : Int × Unit) (z : OZ) : Option (Fl Empty Empty Int OZ) :=
  (((andM (some (decide ((z).n < a.1))) (some (decide ((0 : Int) < (((z).l).length : Int)))))).bind fun t => if t = true then
  ((ozPop z).bind fun q => some (absI q.1, q.2)).bind fun (z2 : (Int × OZ)) =>
  (((ppow (10 : Int) (18 : Int)).bind fun w3 => some (decide (z2.1 < w3))).bind fun t => if t = true then
  ((b2 (some z2.1) (some ()) fun x t => some (x, t)).bind m__law_mixed).bind fun (z5 : Int) =>
  (some z5)
 else
  (some z2.1)).bind fun (s4 : Int) =>
  (some s4).bind fun (z6 : Int) =>
  (some (OZ.mk (z2.2).l z6))
 else
  (some z)).bind fun (s1 : OZ) =>
  (pmod (s1).n a.1).bind fun (z7 : Int) =>
  (pdiv (s1).n a.1).bind fun (z8 : Int) =>
  ((some z7).bind fun x => some (x, (OZ.mk (s1).l z8))).bind fun b => some (Fl.ret b.1 b.2)
def m__law_take (a : Int × Unit) (z : OZ) : Option (Int × OZ) := (mb__law_take a z).bind retI
theorem c__law_take {Γ : Gm} (T : Tx Γ) : CalZ Γ "_law_take" 2 (fun (z : OZ) => z) m__law_take := by
  refine calZ_of (k := 1) (τ := Int × Unit) (mk := fun (z : OZ) => z) T.d__law_take sc__law_take (S := Empty) (sto := fun s => s.elim) (m := mb__law_take) rfl (fun X B a z M d => ?_) m__law_take fun _ _ => rfl
  exact (xb_pseq (S1 := OZ) (sto1 := (fun (s1 : OZ) => [ow (s1 : OZ), vl (a.1 : Int), .dead, .dead])) (xp_if (S := OZ) (sto := (fun (s1 : OZ) => [ow (s1 : OZ), vl (a.1 : Int), .dead, .dead])) (xt_eq (xt_w (xw_and (xt_ofC (xc_op2 op_lt o_lt (xe_oz1 d.toCok 0 rfl rfl (.inl rfl)) (xe_var d.toCok 1 rfl rfl (.inl rfl)))) (xw_and1 (xt_ofC (xc_op2 op_gt o_gt (xe_lenR d.toCok (xr_oz0 d.toCok 0 rfl rfl (.inl rfl)) rfl T.b_len) xe_int))))) rfl) (xp_seq (sto1 := fun (z2 : (Int × OZ)) => [ow (z2.2 : OZ), vl (a.1 : Int), .dead, vl (z2.1 : Int)]) (xp_setF d 3 (sto := (fun (q : OZ) => [ow (q : OZ), vl (a.1 : Int), .dead, .dead])) (xf_eq (xf_abs (sto := (fun (q : OZ) => [ow (q : OZ), vl (a.1 : Int), .dead, .dead])) d.toCok (xf_int (sto := (fun (q : OZ) => [ow (q : OZ), vl (a.1 : Int), .dead, .dead])) d.toCok (xf_ozPop d.toCok 0 rfl rfl (.inl rfl)) rfl T.b_int) rfl T.b_abs) rfl) rfl (.inl rfl)) (fun z2 => (xp_seq (S1 := Int) (sto1 := (fun (s4 : Int) => [ow (z2.2 : OZ), vl (a.1 : Int), .dead, vl (s4 : Int)])) (xp_if (S := Int) (sto := (fun (s4 : Int) => [ow (z2.2 : OZ), vl (a.1 : Int), .dead, vl (s4 : Int)])) (xt_eq (xt_ofC (xc_op2 op_lt o_lt (xe_var d.toCok 3 rfl rfl (.inl rfl)) (xe_op2 op_pow o_pow xe_int xe_int))) rfl) (xp_seq (sto1 := fun (z5 : Int) => [ow (z2.2 : OZ), vl (a.1 : Int), .dead, vl (z5 : Int)]) (xp_set d 3 (xe_eq (xe_call d.toCok (c__law_mixed T) (by decide) rfl (xa_cons (xe_var d.toCok 3 rfl rfl (.inl rfl)) xa_nil)) rfl) rfl (.inl rfl)) (fun z5 => (xp_end [] z5 rfl))) (xp_end [] z2.1 rfl)) (fun s4 => (xp_seq (sto1 := fun (z6 : Int) => [ow ((OZ.mk (z2.2).l z6) : OZ), vl (a.1 : Int), .dead, vl (s4 : Int)]) (xp_ozSet d 0 (xe_eq (xe_var d.toCok 3 rfl rfl (.inl rfl)) rfl) rfl rfl (.inl rfl)) (fun z6 => (xp_end [(3, false)] (OZ.mk (z2.2).l z6) rfl))))))) (xp_end [] z rfl)) (fun s1 => (xb_pseq (sto1 := fun (z7 : Int) => [ow (s1 : OZ), vl (a.1 : Int), vl (z7 : Int), .dead]) (xp_set d 2 (xe_eq (xe_op2 op_mod o_mod (xe_intI d.toCok (xe_oz1 d.toCok 0 rfl rfl (.inl rfl)) rfl T.b_int) (xe_var d.toCok 1 rfl rfl (.inl rfl))) rfl) rfl (.inl rfl)) (fun z7 => (xb_pseq (sto1 := fun (z8 : Int) => [ow ((OZ.mk (s1).l z8) : OZ), vl (a.1 : Int), vl (z7 : Int), .dead]) (xp_ozSet d 0 (xe_eq (xe_op2 op_fdiv o_div (xe_oz1 d.toCok 0 rfl rfl (.inl rfl)) (xe_var d.toCok 1 rfl rfl (.inl rfl))) rfl) rfl rfl (.inl rfl)) (fun z8 => (xb_one (xb_retF (sto1 := (fun (q : OZ) => [ow (q : OZ), vl (a.1 : Int), vl (z7 : Int), .dead])) (c := fun q => q) (xf_eq (xf_of (sto := (fun (q : OZ) => [ow (q : OZ), vl (a.1 : Int), vl (z7 : Int), .dead])) (xe_var d.toCok 2 rfl rfl (.inl rfl))) rfl) [(1, false), (2, false)] (fun _ => rfl) rfl))))))))
abbrev s__law_state : Stmt := top 21
theorem sc__law_state : FnScope ["_law_script", "_law_cell"] ["_law_script"] (defScope s__law_state) := ⟨rfl, rfl, rfl, by decide +kernel, rfl, by decide +kernel, by decide +kernel⟩
def m__law_state (a : Scr × Unit) : Option OZ := ((lcB (fun (x1 : Int) => (some true)) (fun (x1 : Int) => (some x1)) (cut (a.1).l none (some (63 : Int)))).bind fun w2 => some (OZ.mk w2 (0 : Int)))
theorem c__law_state {Γ : Gm} (T : Tx Γ) : CalO Γ "_law_state" 1 m__law_state := by
  refine calO_one (k := 0) (τ := Scr × Unit) T.d__law_state sc__law_state rfl rfl (fun X B a d => ?_)
  exact xno_eq (xno_oz (xn_lc (t := fun (x1 : Int) => (some true)) (f := fun (x1 : Int) => (some x1)) (i := 1) d.toCok (xi_eq (xi_list (xe_ofN (xn_sliceScr d.toCok (xe_var d.toCok 0 rfl rfl (.inl rfl)) xo_none (xo_some xe_int)))) rfl) rfl rfl rfl rfl rfl d.hfx (fun X c a => xts_nil (fun _ => _) a) (fun X c x1 => (xe_eq (xe_intI c (xe_var c 1 rfl rfl (.inl rfl)) rfl T.b_int) rfl))) xe_int) rfl
abbrev s__law_name : Stmt := top 22
theorem sc__law_name : FnScope ["_law_state_here", "_law_letters", "_law_size", "_law_k"] ["_law_state_here"] (defScope s__law_name) := ⟨rfl, rfl, rfl, by decide +kernel, rfl, by decide +kernel, by decide +kernel⟩
def mb__law_name (a : Unit) (z : OZ) : Option (Fl Empty Empty Tt OZ) :=
  (some (Tt.mk "abcdefghijklmnopqrstuvwxyz" (by decide +kernel))).bind fun (z1 : Tt) =>
  ((lseq [fun (q5 : OZ) => (((some (1 : Int)).bind fun x => some (x, q5)).bind fun w6 => ((((some (12 : Int)).bind fun x => some (x, w6.2)).bind fun w9 => (some ((), w9.2)).bind fun w10 => some ((w9.1, w10.1), w10.2)).bind fun w8 => m__law_take w8.1 w8.2).bind fun w7 => (some (w6.1 + w7.1)).bind fun z => some (z, w7.2)), fun (q11 : OZ) => ((some (1 : Int)).bind fun x => some (x, q11)), fun (q12 : OZ) => ((some (2 : Int)).bind fun x => some (x, q12))] z).bind fun w3 => (((some (0 : Int)).bind fun x => some (x, w3.2)).bind fun w13 => (((((some (4 : Int)).bind fun x => some (x, w13.2)).bind fun w18 => (some ((), w18.2)).bind fun w19 => some ((w18.1, w19.1), w19.2)).bind fun w17 => m__law_take w17.1 w17.2).bind fun w15 => ((some (2 : Int)).bind fun x => some (x, w15.2)).bind fun w16 => (some (w15.1 - w16.1)).bind fun z => some (z, w16.2)).bind fun w14 => some (maxI w13.1 w14.1, w14.2)).bind fun w4 => (atI w3.1 w4.1).bind fun z => some (z, w4.2)).bind fun (z2 : (Int × OZ)) =>
  (((some (Tt.mk "" (by decide +kernel))).bind fun x => some (x, z2.2)).bind fun w30 => ((prange 0 z2.1).bind fun xs => lcF (fun (x29 : Int) (q32 : OZ) => ((((some z1).bind fun x => some (x, q32)).bind fun w33 => ((((some (26 : Int)).bind fun x => some (x, w33.2)).bind fun w36 => (some ((), w36.2)).bind fun w37 => some ((w36.1, w37.1), w37.2)).bind fun w35 => m__law_take w35.1 w35.2).bind fun w34 => (atS w33.1 w34.1).bind fun z => some (z, w34.2)).bind fun q => some (chS q.1, q.2))) xs w30.2).bind fun w31 => (sjoin w30.1 w31.1).bind fun z => some (z, w31.2)).bind fun b => some (Fl.ret b.1 b.2)
def m__law_name (a : Unit) (z : OZ) : Option (Tt × OZ) := (mb__law_name a z).bind retI
theorem c__law_name {Γ : Gm} (T : Tx Γ) : CalZ Γ "_law_name" 3 (fun (z : OZ) => z) m__law_name := by
  refine calZ_of (k := 2) (τ := Unit) (mk := fun (z : OZ) => z) T.d__law_name sc__law_name (S := Empty) (sto := fun s => s.elim) (m := mb__law_name) rfl (fun X B a z M d => ?_) m__law_name fun _ _ => rfl
  exact (xb_pseq (sto1 := fun (z1 : Tt) => [ow (z : OZ), vl (z1 : Tt), .dead, .dead]) (xp_set d 1 (xe_eq xe_str rfl) rfl (.inr rfl)) (fun z1 => (xb_pseq (sto1 := fun (z2 : (Int × OZ)) => [ow (z2.2 : OZ), vl (z1 : Tt), vl (z2.1 : Int), .dead]) (xp_setF d 2 (sto := (fun (q : OZ) => [ow (q : OZ), vl (z1 : Tt), .dead, .dead])) (xf_eq (xf_ix (sto := (fun (q : OZ) => [ow (q : OZ), vl (z1 : Tt), .dead, .dead])) (sto1 := (fun (q : OZ) => [ow (q : OZ), vl (z1 : Tt), .dead, .dead])) (xf_listF (sto := (fun (q : OZ) => [ow (q : OZ), vl (z1 : Tt), .dead, .dead])) (xlq_cons (sto := (fun (q : OZ) => [ow (q : OZ), vl (z1 : Tt), .dead, .dead])) (fun q23 => (xf_op2 (sto := (fun (q : OZ) => [ow (q : OZ), vl (z1 : Tt), .dead, .dead])) (sto1 := (fun (q : OZ) => [ow (q : OZ), vl (z1 : Tt), .dead, .dead])) op_add o_add (xf_of (sto := (fun (q : OZ) => [ow (q : OZ), vl (z1 : Tt), .dead, .dead])) xe_int) (fun q24 => (xf_callZ (stz := (fun (q : OZ) => [ow (q : OZ), vl (z1 : Tt), .dead, .dead])) d.toCok 0 (c__law_take T) (by decide) rfl (fun _ => rfl) (fun _ _ => rfl) rfl (.inr (.inl rfl)) (xaf_cons (sto := (fun (q : OZ) => [ow (q : OZ), vl (z1 : Tt), .dead, .dead])) (sto1 := (fun (q : OZ) => [ow (q : OZ), vl (z1 : Tt), .dead, .dead])) (xf_of (sto := (fun (q : OZ) => [ow (q : OZ), vl (z1 : Tt), .dead, .dead])) xe_int) (fun q25 => (xaf_nil (sto := (fun (q : OZ) => [ow (q : OZ), vl (z1 : Tt), .dead, .dead]))))))))) (xlq_cons (sto := (fun (q : OZ) => [ow (q : OZ), vl (z1 : Tt), .dead, .dead])) (fun q22 => (xf_of (sto := (fun (q : OZ) => [ow (q : OZ), vl (z1 : Tt), .dead, .dead])) xe_int)) (xlq_cons (sto := (fun (q : OZ) => [ow (q : OZ), vl (z1 : Tt), .dead, .dead])) (fun q21 => (xf_of (sto := (fun (q : OZ) => [ow (q : OZ), vl (z1 : Tt), .dead, .dead])) xe_int)) (xlq_nil (α := Int) (sto := (fun (q : OZ) => [ow (q : OZ), vl (z1 : Tt), .dead, .dead]))))))) (fun q20 => (xf_max2 (sto := (fun (q : OZ) => [ow (q : OZ), vl (z1 : Tt), .dead, .dead])) (sto1 := (fun (q : OZ) => [ow (q : OZ), vl (z1 : Tt), .dead, .dead])) d.toCok (xf_of (sto := (fun (q : OZ) => [ow (q : OZ), vl (z1 : Tt), .dead, .dead])) xe_int) (fun q26 => (xf_op2 (sto := (fun (q : OZ) => [ow (q : OZ), vl (z1 : Tt), .dead, .dead])) (sto1 := (fun (q : OZ) => [ow (q : OZ), vl (z1 : Tt), .dead, .dead])) op_sub o_sub (xf_callZ (stz := (fun (q : OZ) => [ow (q : OZ), vl (z1 : Tt), .dead, .dead])) d.toCok 0 (c__law_take T) (by decide) rfl (fun _ => rfl) (fun _ _ => rfl) rfl (.inr (.inl rfl)) (xaf_cons (sto := (fun (q : OZ) => [ow (q : OZ), vl (z1 : Tt), .dead, .dead])) (sto1 := (fun (q : OZ) => [ow (q : OZ), vl (z1 : Tt), .dead, .dead])) (xf_of (sto := (fun (q : OZ) => [ow (q : OZ), vl (z1 : Tt), .dead, .dead])) xe_int) (fun q28 => (xaf_nil (sto := (fun (q : OZ) => [ow (q : OZ), vl (z1 : Tt), .dead, .dead])))))) (fun q27 => (xf_of (sto := (fun (q : OZ) => [ow (q : OZ), vl (z1 : Tt), .dead, .dead])) xe_int)))) rfl T.b_max))) rfl) rfl (.inl rfl)) (fun z2 => (xb_one (xb_retF (sto1 := (fun (q : OZ) => [ow (q : OZ), vl (z1 : Tt), vl (z2.1 : Int), .dead])) (c := fun q => q) (xf_eq (xf_join (sto := (fun (q : OZ) => [ow (q : OZ), vl (z1 : Tt), vl (z2.1 : Int), .dead])) (sto1 := (fun (q : OZ) => [ow (q : OZ), vl (z1 : Tt), vl (z2.1 : Int), .dead])) (xf_of (sto := (fun (q : OZ) => [ow (q : OZ), vl (z1 : Tt), vl (z2.1 : Int), .dead])) xe_str) (fun q38 => (xf_lc (f := fun (x29 : Int) (q39 : OZ) => ((((some z1).bind fun x => some (x, q39)).bind fun w40 => ((((some (26 : Int)).bind fun x => some (x, w40.2)).bind fun w43 => (some ((), w43.2)).bind fun w44 => some ((w43.1, w44.1), w44.2)).bind fun w42 => m__law_take w42.1 w42.2).bind fun w41 => (atS w40.1 w41.1).bind fun z => some (z, w41.2)).bind fun q => some (chS q.1, q.2))) (sto := (fun (q : OZ) => [ow (q : OZ), vl (z1 : Tt), vl (z2.1 : Int), .dead])) (i := 3) d.toCok (xi_eq (xi_range1 d.toCok (xe_var d.toCok 2 rfl rfl (.inl rfl)) rfl T.b_range) rfl) rfl rfl rfl rfl rfl d.hfx (fun X B c x29 q39 => (xf_eq (xf_chS (xf_ixS (sto := (fun (q : OZ) => [ow (q : OZ), vl (z1 : Tt), vl (z2.1 : Int), vl (x29 : Int)])) (sto1 := (fun (q : OZ) => [ow (q : OZ), vl (z1 : Tt), vl (z2.1 : Int), vl (x29 : Int)])) (xf_of (sto := (fun (q : OZ) => [ow (q : OZ), vl (z1 : Tt), vl (z2.1 : Int), vl (x29 : Int)])) (xe_var c 1 rfl rfl (.inr (.inl rfl)))) (fun q45 => (xf_callZ (stz := (fun (q : OZ) => [ow (q : OZ), vl (z1 : Tt), vl (z2.1 : Int), vl (x29 : Int)])) c 0 (c__law_take T) (by decide) rfl (fun _ => rfl) (fun _ _ => rfl) rfl (.inr (.inl rfl)) (xaf_cons (sto := (fun (q : OZ) => [ow (q : OZ), vl (z1 : Tt), vl (z2.1 : Int), vl (x29 : Int)])) (sto1 := (fun (q : OZ) => [ow (q : OZ), vl (z1 : Tt), vl (z2.1 : Int), vl (x29 : Int)])) (xf_of (sto := (fun (q : OZ) => [ow (q : OZ), vl (z1 : Tt), vl (z2.1 : Int), vl (x29 : Int)])) xe_int) (fun q46 => (xaf_nil (sto := (fun (q : OZ) => [ow (q : OZ), vl (z1 : Tt), vl (z2.1 : Int), vl (x29 : Int)]))))))))) rfl))))) rfl) [(1, false), (2, false)] (fun _ => rfl) rfl))))))
abbrev s__law_names : Stmt := top 23
theorem sc__law_names : FnScope ["_law_state_here", "_law_many", "_law_names_here", "_law_k", "_law_name_here"] ["_law_state_here", "_law_many"] (defScope s__law_names) := ⟨rfl, rfl, rfl, by decide +kernel, rfl, by decide +kernel, by decide +kernel⟩
def mb__law_names (a : Int × Unit) (z : OZ) : Option (Fl Empty Empty (List Tt) OZ) :=
  (some ([] : (List Tt))).bind fun (z1 : (List Tt)) =>
  ((prange 0 a.1).bind fun xs => forP (fun (s2 : OZ × (List Tt)) (x3 : Int) =>
  ((some ((), s2.1)).bind fun w5 => m__law_name w5.1 w5.2).bind fun (z4 : (Tt × OZ)) =>
  ((some (!isIn z4.1 s2.2)).bind fun t => if t = true then
  (push s2.2 z4.1).bind fun (z7 : (List Tt)) =>
  (some z7)
 else
  (some s2.2)).bind fun (s6 : (List Tt)) =>
  (some (z4.2, s6))) (z, z1) xs).bind fun (s2 : OZ × (List Tt)) =>
  ((some s2.2).bind fun x => some (x, s2.1)).bind fun b => some (Fl.ret b.1 b.2)
def m__law_names (a : Int × Unit) (z : OZ) : Option ((List Tt) × OZ) := (mb__law_names a z).bind retI
theorem c__law_names {Γ : Gm} (T : Tx Γ) : CalZ Γ "_law_names" 4 (fun (z : OZ) => z) m__law_names := by
  refine calZ_of (k := 3) (τ := Int × Unit) (mk := fun (z : OZ) => z) T.d__law_names sc__law_names (S := Empty) (sto := fun s => s.elim) (m := mb__law_names) rfl (fun X B a z M d => ?_) m__law_names fun _ _ => rfl
  exact (xb_pseq (sto1 := fun (z1 : (List Tt)) => [ow (z : OZ), vl (a.1 : Int), ow (OL.mk (z1 : (List Tt))), .dead, .dead]) (xp_setN d 2 (xn_eq (xn_list (α := Tt) xl_nil) rfl) rfl (.inl rfl)) (fun z1 => (xb_pseq (S1 := OZ × (List Tt)) (sto1 := (fun (s2 : OZ × (List Tt)) => [ow (s2.1 : OZ), vl (a.1 : Int), ow (OL.mk (s2.2 : (List Tt))), .dead, .dead])) (xp_for (S := OZ × (List Tt)) (sto := (fun (s2 : OZ × (List Tt)) => [ow (s2.1 : OZ), vl (a.1 : Int), ow (OL.mk (s2.2 : (List Tt))), .dead, .dead])) d (z, z1) (xi_eq (xi_range1 d.toCok (xe_var d.toCok 1 rfl rfl (.inl rfl)) rfl T.b_range) rfl) (fun B d => xg_name d 3 rfl (.inl rfl)) (fun B d s2 x3 => (xp_seq (sto1 := fun (z4 : (Tt × OZ)) => [ow (z4.2 : OZ), vl (a.1 : Int), ow (OL.mk (s2.2 : (List Tt))), vl (x3 : Int), vl (z4.1 : Tt)]) (xp_setF d 4 (sto := (fun (q : OZ) => [ow (q : OZ), vl (a.1 : Int), ow (OL.mk (s2.2 : (List Tt))), vl (x3 : Int), .dead])) (xf_eq (xf_callZ (stz := (fun (q : OZ) => [ow (q : OZ), vl (a.1 : Int), ow (OL.mk (s2.2 : (List Tt))), vl (x3 : Int), .dead])) d.toCok 0 (c__law_name T) (by decide) rfl (fun _ => rfl) (fun _ _ => rfl) rfl (.inl rfl) (xaf_nil (sto := (fun (q : OZ) => [ow (q : OZ), vl (a.1 : Int), ow (OL.mk (s2.2 : (List Tt))), vl (x3 : Int), .dead])))) rfl) rfl (.inl rfl)) (fun z4 => (xp_seq (S1 := (List Tt)) (sto1 := (fun (s6 : (List Tt)) => [ow (z4.2 : OZ), vl (a.1 : Int), ow (OL.mk (s6 : (List Tt))), vl (x3 : Int), vl (z4.1 : Tt)])) (xp_if (S := (List Tt)) (sto := (fun (s6 : (List Tt)) => [ow (z4.2 : OZ), vl (a.1 : Int), ow (OL.mk (s6 : (List Tt))), vl (x3 : Int), vl (z4.1 : Tt)])) (xt_eq (xt_ofC (xc_notIn (xe_var d.toCok 4 rfl rfl (.inl rfl)) (xr_own d.toCok 2 rfl rfl (.inl rfl)))) rfl) (xp_seq (sto1 := fun (z7 : (List Tt)) => [ow (z4.2 : OZ), vl (a.1 : Int), ow (OL.mk (z7 : (List Tt))), vl (x3 : Int), vl (z4.1 : Tt)]) (xp1_eq (xp_append d 2 rfl rfl (.inl rfl) (xe_var d.toCok 4 rfl rfl (.inl rfl))) rfl) (fun z7 => (xp_end [] z7 rfl))) (xp_end [] s2.2 rfl)) (fun s6 => (xp_end [(3, false), (4, false)] (z4.2, s6) rfl))))))) (fun s2 => (xb_pre [(2, true)] (xb_one (xb_retF (sto1 := (fun (q : OZ) => [ow (q : OZ), vl (a.1 : Int), vl (s2.2 : (List Tt)), .dead, .dead])) (c := fun q => q) (xf_eq (xf_of (sto := (fun (q : OZ) => [ow (q : OZ), vl (a.1 : Int), vl (s2.2 : (List Tt)), .dead, .dead])) (xe_var d.toCok 2 rfl rfl (.inl rfl))) rfl) [(1, false), (2, false)] (fun _ => rfl) rfl)) rfl)))))
abbrev s__law_drawn : Stmt := top 24
theorem sc__law_drawn : FnScope ["_law_state_here", "_law_most", "_law_lone", "_law_names_here", "_law_cut", "_law_pairs", "_law_givers", "_law_suits", "_law_share", "_law_giver", "_law_taker"] ["_law_state_here", "_law_most", "_law_lone"] (defScope s__law_drawn) := ⟨rfl, rfl, rfl, by decide +kernel, rfl, by decide +kernel, by decide +kernel⟩
def mb__law_drawn (a : Int × Int × Unit) (z : OZ) : Option (Fl Empty Empty (T3 (List Tt) (List Tt) (List (Tt × Tt))) OZ) :=
  (((((((some (a.1 + (1 : Int))).bind fun x => some (x, z)).bind fun w8 => (some ((), w8.2)).bind fun w9 => some ((w8.1, w9.1), w9.2)).bind fun w7 => m__law_take w7.1 w7.2).bind fun w5 => ((((some (a.2.1 + (1 : Int))).bind fun x => some (x, w5.2)).bind fun w11 => (some ((), w11.2)).bind fun w12 => some ((w11.1, w12.1), w12.2)).bind fun w10 => m__law_take w10.1 w10.2).bind fun w6 => (some (w5.1 + w6.1)).bind fun z => some (z, w6.2)).bind fun w3 => (some ((), w3.2)).bind fun w4 => some ((w3.1, w4.1), w4.2)).bind fun w2 => m__law_names w2.1 w2.2).bind fun (z1 : ((List Tt) × OZ)) =>
  (((some (0 : Int)).bind fun x => some (x, z1.2)).bind fun w18 => (((some ((z1.1).length : Int)).bind fun x => some (x, w18.2)).bind fun w20 => ((((some (a.2.1 + (1 : Int))).bind fun x => some (x, w20.2)).bind fun w23 => (some ((), w23.2)).bind fun w24 => some ((w23.1, w24.1), w24.2)).bind fun w22 => m__law_take w22.1 w22.2).bind fun w21 => (some (w20.1 - w21.1)).bind fun z => some (z, w21.2)).bind fun w19 => some (maxI w18.1 w19.1, w19.2)).bind fun (z17 : (Int × OZ)) =>
  (some (cut z1.1 none (some z17.1))).bind fun (z28 : (List Tt)) =>
  (some (srt (cut z1.1 (some z17.1) none))).bind fun (z29 : (List Tt)) =>
  (some ([] : (List (Tt × Tt)))).bind fun (z30 : (List (Tt × Tt))) =>
  (((some (1 : Int)).bind fun x => some (x, z17.2)).bind fun w32 => ((((some (3 : Int)).bind fun x => some (x, w32.2)).bind fun w35 => (some ((), w35.2)).bind fun w36 => some ((w35.1, w36.1), w36.2)).bind fun w34 => m__law_take w34.1 w34.2).bind fun w33 => (some (w32.1 + w33.1)).bind fun z => some (z, w33.2)).bind fun (z31 : (Int × OZ)) =>
  ((some z1.1).bind fun xs => forP (fun (s39 : OZ × (List (Tt × Tt))) (x40 : Tt) =>
  ((some z28).bind fun xs => forP (fun (s41 : OZ × (List (Tt × Tt))) (x42 : Tt) =>
  (((((some (!decide (x40 = x42))).bind fun b => some (b, s41.1)).bind fun w46 => if w46.1 = true then (((((some (4 : Int)).bind fun x => some (x, w46.2)).bind fun w50 => (some ((), w50.2)).bind fun w51 => some ((w50.1, w51.1), w51.2)).bind fun w49 => m__law_take w49.1 w49.2).bind fun w47 => ((some z31.1).bind fun x => some (x, w47.2)).bind fun w48 => (some (decide (w48.1 ≤ w47.1))).bind fun z => some (z, w48.2)) else some (false, w46.2))).bind fun qq => (fun q52 => if qq.1 = true then
  (push s41.2 (x40, x42)).bind fun (z54 : (List (Tt × Tt))) =>
  (some (q52, z54))
 else
  (some (q52, s41.2))) qq.2).bind fun (s53 : OZ × (List (Tt × Tt))) =>
  (some (s53.1, s53.2))) (s39.1, s39.2) xs).bind fun (s41 : OZ × (List (Tt × Tt))) =>
  (some (s41.1, s41.2))) (z31.2, z30) xs).bind fun (s39 : OZ × (List (Tt × Tt))) =>
  ((some (T3.mk z28 z29 (srt s39.2))).bind fun x => some (x, s39.1)).bind fun b => some (Fl.ret b.1 b.2)
def m__law_drawn (a : Int × Int × Unit) (z : OZ) : Option ((T3 (List Tt) (List Tt) (List (Tt × Tt))) × OZ) := (mb__law_drawn a z).bind retI
theorem c__law_drawn {Γ : Gm} (T : Tx Γ) : CalZ Γ "_law_drawn" 5 (fun (z : OZ) => z) m__law_drawn := by
  refine calZ_of (k := 4) (τ := Int × Int × Unit) (mk := fun (z : OZ) => z) T.d__law_drawn sc__law_drawn (S := Empty) (sto := fun s => s.elim) (m := mb__law_drawn) rfl (fun X B a z M d => ?_) m__law_drawn fun _ _ => rfl
  exact (xb_pseq (sto1 := fun (z1 : ((List Tt) × OZ)) => [ow (z1.2 : OZ), vl (a.1 : Int), vl (a.2.1 : Int), vl (z1.1 : (List Tt)), .dead, .dead, .dead, .dead, .dead, .dead, .dead]) (xp_setF d 3 (sto := (fun (q : OZ) => [ow (q : OZ), vl (a.1 : Int), vl (a.2.1 : Int), .dead, .dead, .dead, .dead, .dead, .dead, .dead, .dead])) (xf_eq (xf_callZ (stz := (fun (q : OZ) => [ow (q : OZ), vl (a.1 : Int), vl (a.2.1 : Int), .dead, .dead, .dead, .dead, .dead, .dead, .dead, .dead])) d.toCok 0 (c__law_names T) (by decide) rfl (fun _ => rfl) (fun _ _ => rfl) rfl (.inl rfl) (xaf_cons (sto := (fun (q : OZ) => [ow (q : OZ), vl (a.1 : Int), vl (a.2.1 : Int), .dead, .dead, .dead, .dead, .dead, .dead, .dead, .dead])) (sto1 := (fun (q : OZ) => [ow (q : OZ), vl (a.1 : Int), vl (a.2.1 : Int), .dead, .dead, .dead, .dead, .dead, .dead, .dead, .dead])) (xf_op2 (sto := (fun (q : OZ) => [ow (q : OZ), vl (a.1 : Int), vl (a.2.1 : Int), .dead, .dead, .dead, .dead, .dead, .dead, .dead, .dead])) (sto1 := (fun (q : OZ) => [ow (q : OZ), vl (a.1 : Int), vl (a.2.1 : Int), .dead, .dead, .dead, .dead, .dead, .dead, .dead, .dead])) op_add o_add (xf_callZ (stz := (fun (q : OZ) => [ow (q : OZ), vl (a.1 : Int), vl (a.2.1 : Int), .dead, .dead, .dead, .dead, .dead, .dead, .dead, .dead])) d.toCok 0 (c__law_take T) (by decide) rfl (fun _ => rfl) (fun _ _ => rfl) rfl (.inl rfl) (xaf_cons (sto := (fun (q : OZ) => [ow (q : OZ), vl (a.1 : Int), vl (a.2.1 : Int), .dead, .dead, .dead, .dead, .dead, .dead, .dead, .dead])) (sto1 := (fun (q : OZ) => [ow (q : OZ), vl (a.1 : Int), vl (a.2.1 : Int), .dead, .dead, .dead, .dead, .dead, .dead, .dead, .dead])) (xf_of (sto := (fun (q : OZ) => [ow (q : OZ), vl (a.1 : Int), vl (a.2.1 : Int), .dead, .dead, .dead, .dead, .dead, .dead, .dead, .dead])) (xe_op2 op_add o_add (xe_var d.toCok 1 rfl rfl (.inl rfl)) xe_int)) (fun q15 => (xaf_nil (sto := (fun (q : OZ) => [ow (q : OZ), vl (a.1 : Int), vl (a.2.1 : Int), .dead, .dead, .dead, .dead, .dead, .dead, .dead, .dead])))))) (fun q14 => (xf_callZ (stz := (fun (q : OZ) => [ow (q : OZ), vl (a.1 : Int), vl (a.2.1 : Int), .dead, .dead, .dead, .dead, .dead, .dead, .dead, .dead])) d.toCok 0 (c__law_take T) (by decide) rfl (fun _ => rfl) (fun _ _ => rfl) rfl (.inl rfl) (xaf_cons (sto := (fun (q : OZ) => [ow (q : OZ), vl (a.1 : Int), vl (a.2.1 : Int), .dead, .dead, .dead, .dead, .dead, .dead, .dead, .dead])) (sto1 := (fun (q : OZ) => [ow (q : OZ), vl (a.1 : Int), vl (a.2.1 : Int), .dead, .dead, .dead, .dead, .dead, .dead, .dead, .dead])) (xf_of (sto := (fun (q : OZ) => [ow (q : OZ), vl (a.1 : Int), vl (a.2.1 : Int), .dead, .dead, .dead, .dead, .dead, .dead, .dead, .dead])) (xe_op2 op_add o_add (xe_var d.toCok 2 rfl rfl (.inl rfl)) xe_int)) (fun q16 => (xaf_nil (sto := (fun (q : OZ) => [ow (q : OZ), vl (a.1 : Int), vl (a.2.1 : Int), .dead, .dead, .dead, .dead, .dead, .dead, .dead, .dead])))))))) (fun q13 => (xaf_nil (sto := (fun (q : OZ) => [ow (q : OZ), vl (a.1 : Int), vl (a.2.1 : Int), .dead, .dead, .dead, .dead, .dead, .dead, .dead, .dead])))))) rfl) rfl (.inl rfl)) (fun z1 => (xb_pseq (sto1 := fun (z17 : (Int × OZ)) => [ow (z17.2 : OZ), vl (a.1 : Int), vl (a.2.1 : Int), vl (z1.1 : (List Tt)), vl (z17.1 : Int), .dead, .dead, .dead, .dead, .dead, .dead]) (xp_setF d 4 (sto := (fun (q : OZ) => [ow (q : OZ), vl (a.1 : Int), vl (a.2.1 : Int), vl (z1.1 : (List Tt)), .dead, .dead, .dead, .dead, .dead, .dead, .dead])) (xf_eq (xf_max2 (sto := (fun (q : OZ) => [ow (q : OZ), vl (a.1 : Int), vl (a.2.1 : Int), vl (z1.1 : (List Tt)), .dead, .dead, .dead, .dead, .dead, .dead, .dead])) (sto1 := (fun (q : OZ) => [ow (q : OZ), vl (a.1 : Int), vl (a.2.1 : Int), vl (z1.1 : (List Tt)), .dead, .dead, .dead, .dead, .dead, .dead, .dead])) d.toCok (xf_of (sto := (fun (q : OZ) => [ow (q : OZ), vl (a.1 : Int), vl (a.2.1 : Int), vl (z1.1 : (List Tt)), .dead, .dead, .dead, .dead, .dead, .dead, .dead])) xe_int) (fun q25 => (xf_op2 (sto := (fun (q : OZ) => [ow (q : OZ), vl (a.1 : Int), vl (a.2.1 : Int), vl (z1.1 : (List Tt)), .dead, .dead, .dead, .dead, .dead, .dead, .dead])) (sto1 := (fun (q : OZ) => [ow (q : OZ), vl (a.1 : Int), vl (a.2.1 : Int), vl (z1.1 : (List Tt)), .dead, .dead, .dead, .dead, .dead, .dead, .dead])) op_sub o_sub (xf_of (sto := (fun (q : OZ) => [ow (q : OZ), vl (a.1 : Int), vl (a.2.1 : Int), vl (z1.1 : (List Tt)), .dead, .dead, .dead, .dead, .dead, .dead, .dead])) (xe_lenR d.toCok (xr_of (xe_var d.toCok 3 rfl rfl (.inl rfl))) rfl T.b_len)) (fun q26 => (xf_callZ (stz := (fun (q : OZ) => [ow (q : OZ), vl (a.1 : Int), vl (a.2.1 : Int), vl (z1.1 : (List Tt)), .dead, .dead, .dead, .dead, .dead, .dead, .dead])) d.toCok 0 (c__law_take T) (by decide) rfl (fun _ => rfl) (fun _ _ => rfl) rfl (.inl rfl) (xaf_cons (sto := (fun (q : OZ) => [ow (q : OZ), vl (a.1 : Int), vl (a.2.1 : Int), vl (z1.1 : (List Tt)), .dead, .dead, .dead, .dead, .dead, .dead, .dead])) (sto1 := (fun (q : OZ) => [ow (q : OZ), vl (a.1 : Int), vl (a.2.1 : Int), vl (z1.1 : (List Tt)), .dead, .dead, .dead, .dead, .dead, .dead, .dead])) (xf_of (sto := (fun (q : OZ) => [ow (q : OZ), vl (a.1 : Int), vl (a.2.1 : Int), vl (z1.1 : (List Tt)), .dead, .dead, .dead, .dead, .dead, .dead, .dead])) (xe_op2 op_add o_add (xe_var d.toCok 2 rfl rfl (.inl rfl)) xe_int)) (fun q27 => (xaf_nil (sto := (fun (q : OZ) => [ow (q : OZ), vl (a.1 : Int), vl (a.2.1 : Int), vl (z1.1 : (List Tt)), .dead, .dead, .dead, .dead, .dead, .dead, .dead]))))))))) rfl T.b_max) rfl) rfl (.inl rfl)) (fun z17 => (xb_pseq (sto1 := fun (z28 : (List Tt)) => [ow (z17.2 : OZ), vl (a.1 : Int), vl (a.2.1 : Int), vl (z1.1 : (List Tt)), vl (z17.1 : Int), vl (z28 : (List Tt)), .dead, .dead, .dead, .dead, .dead]) (xp_set d 5 (xe_eq (xe_ofN (xn_slice (xr_of (xe_var d.toCok 3 rfl rfl (.inl rfl))) xo_none (xo_some (xe_var d.toCok 4 rfl rfl (.inl rfl))))) rfl) rfl (.inl rfl)) (fun z28 => (xb_pseq (sto1 := fun (z29 : (List Tt)) => [ow (z17.2 : OZ), vl (a.1 : Int), vl (a.2.1 : Int), vl (z1.1 : (List Tt)), vl (z17.1 : Int), vl (z28 : (List Tt)), vl (z29 : (List Tt)), .dead, .dead, .dead, .dead]) (xp_set d 6 (xe_eq (xe_ofN (xn_sortT d.toCok (xr_ofN (xn_slice (xr_of (xe_var d.toCok 3 rfl rfl (.inl rfl))) (xo_some (xe_var d.toCok 4 rfl rfl (.inl rfl))) xo_none)) rfl T.b_sorted)) rfl) rfl (.inl rfl)) (fun z29 => (xb_pseq (sto1 := fun (z30 : (List (Tt × Tt))) => [ow (z17.2 : OZ), vl (a.1 : Int), vl (a.2.1 : Int), vl (z1.1 : (List Tt)), vl (z17.1 : Int), vl (z28 : (List Tt)), vl (z29 : (List Tt)), ow (OL.mk (z30 : (List (Tt × Tt)))), .dead, .dead, .dead]) (xp_setN d 7 (xn_eq (xn_list (α := (Tt × Tt)) xl_nil) rfl) rfl (.inl rfl)) (fun z30 => (xb_pseq (sto1 := fun (z31 : (Int × OZ)) => [ow (z31.2 : OZ), vl (a.1 : Int), vl (a.2.1 : Int), vl (z1.1 : (List Tt)), vl (z17.1 : Int), vl (z28 : (List Tt)), vl (z29 : (List Tt)), ow (OL.mk (z30 : (List (Tt × Tt)))), vl (z31.1 : Int), .dead, .dead]) (xp_setF d 8 (sto := (fun (q : OZ) => [ow (q : OZ), vl (a.1 : Int), vl (a.2.1 : Int), vl (z1.1 : (List Tt)), vl (z17.1 : Int), vl (z28 : (List Tt)), vl (z29 : (List Tt)), ow (OL.mk (z30 : (List (Tt × Tt)))), .dead, .dead, .dead])) (xf_eq (xf_op2 (sto := (fun (q : OZ) => [ow (q : OZ), vl (a.1 : Int), vl (a.2.1 : Int), vl (z1.1 : (List Tt)), vl (z17.1 : Int), vl (z28 : (List Tt)), vl (z29 : (List Tt)), ow (OL.mk (z30 : (List (Tt × Tt)))), .dead, .dead, .dead])) (sto1 := (fun (q : OZ) => [ow (q : OZ), vl (a.1 : Int), vl (a.2.1 : Int), vl (z1.1 : (List Tt)), vl (z17.1 : Int), vl (z28 : (List Tt)), vl (z29 : (List Tt)), ow (OL.mk (z30 : (List (Tt × Tt)))), .dead, .dead, .dead])) op_add o_add (xf_of (sto := (fun (q : OZ) => [ow (q : OZ), vl (a.1 : Int), vl (a.2.1 : Int), vl (z1.1 : (List Tt)), vl (z17.1 : Int), vl (z28 : (List Tt)), vl (z29 : (List Tt)), ow (OL.mk (z30 : (List (Tt × Tt)))), .dead, .dead, .dead])) xe_int) (fun q37 => (xf_callZ (stz := (fun (q : OZ) => [ow (q : OZ), vl (a.1 : Int), vl (a.2.1 : Int), vl (z1.1 : (List Tt)), vl (z17.1 : Int), vl (z28 : (List Tt)), vl (z29 : (List Tt)), ow (OL.mk (z30 : (List (Tt × Tt)))), .dead, .dead, .dead])) d.toCok 0 (c__law_take T) (by decide) rfl (fun _ => rfl) (fun _ _ => rfl) rfl (.inl rfl) (xaf_cons (sto := (fun (q : OZ) => [ow (q : OZ), vl (a.1 : Int), vl (a.2.1 : Int), vl (z1.1 : (List Tt)), vl (z17.1 : Int), vl (z28 : (List Tt)), vl (z29 : (List Tt)), ow (OL.mk (z30 : (List (Tt × Tt)))), .dead, .dead, .dead])) (sto1 := (fun (q : OZ) => [ow (q : OZ), vl (a.1 : Int), vl (a.2.1 : Int), vl (z1.1 : (List Tt)), vl (z17.1 : Int), vl (z28 : (List Tt)), vl (z29 : (List Tt)), ow (OL.mk (z30 : (List (Tt × Tt)))), .dead, .dead, .dead])) (xf_of (sto := (fun (q : OZ) => [ow (q : OZ), vl (a.1 : Int), vl (a.2.1 : Int), vl (z1.1 : (List Tt)), vl (z17.1 : Int), vl (z28 : (List Tt)), vl (z29 : (List Tt)), ow (OL.mk (z30 : (List (Tt × Tt)))), .dead, .dead, .dead])) xe_int) (fun q38 => (xaf_nil (sto := (fun (q : OZ) => [ow (q : OZ), vl (a.1 : Int), vl (a.2.1 : Int), vl (z1.1 : (List Tt)), vl (z17.1 : Int), vl (z28 : (List Tt)), vl (z29 : (List Tt)), ow (OL.mk (z30 : (List (Tt × Tt)))), .dead, .dead, .dead])))))))) rfl) rfl (.inl rfl)) (fun z31 => (xb_pseq (S1 := OZ × (List (Tt × Tt))) (sto1 := (fun (s39 : OZ × (List (Tt × Tt))) => [ow (s39.1 : OZ), .dead, .dead, vl (z1.1 : (List Tt)), .dead, vl (z28 : (List Tt)), vl (z29 : (List Tt)), ow (OL.mk (s39.2 : (List (Tt × Tt)))), vl (z31.1 : Int), .dead, .dead])) (xp1_pre [(1, false), (2, false), (4, false)] (xp_for (S := OZ × (List (Tt × Tt))) (sto := (fun (s39 : OZ × (List (Tt × Tt))) => [ow (s39.1 : OZ), .dead, .dead, vl (z1.1 : (List Tt)), .dead, vl (z28 : (List Tt)), vl (z29 : (List Tt)), ow (OL.mk (s39.2 : (List (Tt × Tt)))), vl (z31.1 : Int), .dead, .dead])) d (z31.2, z30) (xi_eq (xi_list (xe_var d.toCok 3 rfl rfl (.inl rfl))) rfl) (fun B d => xg_name d 9 rfl (.inl rfl)) (fun B d s39 x40 => (xp_seq (S1 := OZ × (List (Tt × Tt))) (sto1 := (fun (s41 : OZ × (List (Tt × Tt))) => [ow (s41.1 : OZ), .dead, .dead, vl (z1.1 : (List Tt)), .dead, vl (z28 : (List Tt)), vl (z29 : (List Tt)), ow (OL.mk (s41.2 : (List (Tt × Tt)))), vl (z31.1 : Int), vl (x40 : Tt), .dead])) (xp_for (S := OZ × (List (Tt × Tt))) (sto := (fun (s41 : OZ × (List (Tt × Tt))) => [ow (s41.1 : OZ), .dead, .dead, vl (z1.1 : (List Tt)), .dead, vl (z28 : (List Tt)), vl (z29 : (List Tt)), ow (OL.mk (s41.2 : (List (Tt × Tt)))), vl (z31.1 : Int), vl (x40 : Tt), .dead])) d (s39.1, s39.2) (xi_eq (xi_list (xe_var d.toCok 5 rfl rfl (.inl rfl))) rfl) (fun B d => xg_name d 10 rfl (.inl rfl)) (fun B d s41 x42 => (xp_seq (S1 := OZ × (List (Tt × Tt))) (sto1 := (fun (s53 : OZ × (List (Tt × Tt))) => [ow (s53.1 : OZ), .dead, .dead, vl (z1.1 : (List Tt)), .dead, vl (z28 : (List Tt)), vl (z29 : (List Tt)), ow (OL.mk (s53.2 : (List (Tt × Tt)))), vl (z31.1 : Int), vl (x40 : Tt), vl (x42 : Tt)])) (xp_ifF (S := OZ × (List (Tt × Tt))) (sto := (fun (s53 : OZ × (List (Tt × Tt))) => [ow (s53.1 : OZ), .dead, .dead, vl (z1.1 : (List Tt)), .dead, vl (z28 : (List Tt)), vl (z29 : (List Tt)), ow (OL.mk (s53.2 : (List (Tt × Tt)))), vl (z31.1 : Int), vl (x40 : Tt), vl (x42 : Tt)])) (m1 := fun q52 => (push s41.2 (x40, x42)).bind fun (z54 : (List (Tt × Tt))) =>
  (some (q52, z54))) (m2 := fun q52 => (some (q52, s41.2))) (xtf_eq (xtf_w (xwf_and (sto := (fun (q : OZ) => [ow (q : OZ), .dead, .dead, vl (z1.1 : (List Tt)), .dead, vl (z28 : (List Tt)), vl (z29 : (List Tt)), ow (OL.mk (s41.2 : (List (Tt × Tt)))), vl (z31.1 : Int), vl (x40 : Tt), vl (x42 : Tt)])) (xtf_ofT (sto := (fun (q : OZ) => [ow (q : OZ), .dead, .dead, vl (z1.1 : (List Tt)), .dead, vl (z28 : (List Tt)), vl (z29 : (List Tt)), ow (OL.mk (s41.2 : (List (Tt × Tt)))), vl (z31.1 : Int), vl (x40 : Tt), vl (x42 : Tt)])) (xt_eq (xt_ofC (xc_op2 op_ne o_neS (xe_var d.toCok 9 rfl rfl (.inl rfl)) (xe_var d.toCok 10 rfl rfl (.inl rfl)))) rfl)) (fun q43 => (xwf_and1 (xtf_cmp (sto := (fun (q : OZ) => [ow (q : OZ), .dead, .dead, vl (z1.1 : (List Tt)), .dead, vl (z28 : (List Tt)), vl (z29 : (List Tt)), ow (OL.mk (s41.2 : (List (Tt × Tt)))), vl (z31.1 : Int), vl (x40 : Tt), vl (x42 : Tt)])) (sto1 := (fun (q : OZ) => [ow (q : OZ), .dead, .dead, vl (z1.1 : (List Tt)), .dead, vl (z28 : (List Tt)), vl (z29 : (List Tt)), ow (OL.mk (s41.2 : (List (Tt × Tt)))), vl (z31.1 : Int), vl (x40 : Tt), vl (x42 : Tt)])) op_ge o_ge (xf_callZ (stz := (fun (q : OZ) => [ow (q : OZ), .dead, .dead, vl (z1.1 : (List Tt)), .dead, vl (z28 : (List Tt)), vl (z29 : (List Tt)), ow (OL.mk (s41.2 : (List (Tt × Tt)))), vl (z31.1 : Int), vl (x40 : Tt), vl (x42 : Tt)])) d.toCok 0 (c__law_take T) (by decide) rfl (fun _ => rfl) (fun _ _ => rfl) rfl (.inl rfl) (xaf_cons (sto := (fun (q : OZ) => [ow (q : OZ), .dead, .dead, vl (z1.1 : (List Tt)), .dead, vl (z28 : (List Tt)), vl (z29 : (List Tt)), ow (OL.mk (s41.2 : (List (Tt × Tt)))), vl (z31.1 : Int), vl (x40 : Tt), vl (x42 : Tt)])) (sto1 := (fun (q : OZ) => [ow (q : OZ), .dead, .dead, vl (z1.1 : (List Tt)), .dead, vl (z28 : (List Tt)), vl (z29 : (List Tt)), ow (OL.mk (s41.2 : (List (Tt × Tt)))), vl (z31.1 : Int), vl (x40 : Tt), vl (x42 : Tt)])) (xf_of (sto := (fun (q : OZ) => [ow (q : OZ), .dead, .dead, vl (z1.1 : (List Tt)), .dead, vl (z28 : (List Tt)), vl (z29 : (List Tt)), ow (OL.mk (s41.2 : (List (Tt × Tt)))), vl (z31.1 : Int), vl (x40 : Tt), vl (x42 : Tt)])) xe_int) (fun q45 => (xaf_nil (sto := (fun (q : OZ) => [ow (q : OZ), .dead, .dead, vl (z1.1 : (List Tt)), .dead, vl (z28 : (List Tt)), vl (z29 : (List Tt)), ow (OL.mk (s41.2 : (List (Tt × Tt)))), vl (z31.1 : Int), vl (x40 : Tt), vl (x42 : Tt)])))))) (fun q44 => (xf_of (sto := (fun (q : OZ) => [ow (q : OZ), .dead, .dead, vl (z1.1 : (List Tt)), .dead, vl (z28 : (List Tt)), vl (z29 : (List Tt)), ow (OL.mk (s41.2 : (List (Tt × Tt)))), vl (z31.1 : Int), vl (x40 : Tt), vl (x42 : Tt)])) (xe_var d.toCok 8 rfl rfl (.inl rfl))))))))) rfl) (fun q52 => (xp_seq (sto1 := fun (z54 : (List (Tt × Tt))) => [ow (q52 : OZ), .dead, .dead, vl (z1.1 : (List Tt)), .dead, vl (z28 : (List Tt)), vl (z29 : (List Tt)), ow (OL.mk (z54 : (List (Tt × Tt)))), vl (z31.1 : Int), vl (x40 : Tt), vl (x42 : Tt)]) (xp1_eq (xp_append d 7 rfl rfl (.inl rfl) (xe_tup2 (xe_var d.toCok 9 rfl rfl (.inl rfl)) (xe_var d.toCok 10 rfl rfl (.inl rfl)))) rfl) (fun z54 => (xp_end [] (q52, z54) rfl)))) (fun q52 => (xp_end [] (q52, s41.2) rfl))) (fun s53 => (xp_end [(10, false)] (s53.1, s53.2) rfl))))) (fun s41 => (xp_end [(9, false)] (s41.1, s41.2) rfl))))) rfl) (fun s39 => (xb_one (xb_retF (sto1 := (fun (q : OZ) => [ow (q : OZ), .dead, .dead, vl (z1.1 : (List Tt)), .dead, vl (z28 : (List Tt)), vl (z29 : (List Tt)), ow (OL.mk (s39.2 : (List (Tt × Tt)))), vl (z31.1 : Int), .dead, .dead])) (c := fun q => q) (xf_eq (xf_of (sto := (fun (q : OZ) => [ow (q : OZ), .dead, .dead, vl (z1.1 : (List Tt)), .dead, vl (z28 : (List Tt)), vl (z29 : (List Tt)), ow (OL.mk (s39.2 : (List (Tt × Tt)))), vl (z31.1 : Int), .dead, .dead])) (xe_tup3 (xe_var d.toCok 5 rfl rfl (.inl rfl)) (xe_var d.toCok 6 rfl rfl (.inl rfl)) (xe_ofN (xn_sortPT d.toCok (xr_own d.toCok 7 rfl rfl (.inl rfl)) rfl T.b_sorted)))) rfl) [(3, false), (5, false), (6, false), (7, false), (8, false)] (fun _ => rfl) rfl))))))))))))))))
abbrev s__law_lines : Stmt := top 25
theorem sc__law_lines : FnScope ["_law_web", "_law_lines_here", "_law_pairs", "_law_givers", "_law_suits", "_law_name_here", "_law_giver", "_law_taker"] ["_law_web"] (defScope s__law_lines) := ⟨rfl, rfl, rfl, by decide +kernel, rfl, by decide +kernel, by decide +kernel⟩
def mb__law_lines (a : (T3 (List Tt) (List Tt) (List (Tt × Tt))) × Unit) : Option (Fl Empty Empty (List Tt) Unit) :=
  (some a.1).bind fun (z1 : (T3 (List Tt) (List Tt) (List (Tt × Tt)))) =>
  ((lcB (fun (x3 : Tt) => (some true)) (fun (x3 : Tt) => (sadd (Tt.mk "pair " (by decide +kernel)) x3)) z1.a).bind fun w5 => (lcB (fun (x4 : Tt) => (some true)) (fun (x4 : Tt) => (sadd (Tt.mk "giver " (by decide +kernel)) x4)) z1.b).bind fun w6 => pcat w5 w6).bind fun (z2 : (List Tt)) =>
  ((lcB (fun (x7 : (Tt × Tt)) => (some true)) (fun (x7 : (Tt × Tt)) => (((sadd (Tt.mk "suits " (by decide +kernel)) x7.1).bind fun w8 => sadd w8 (Tt.mk " " (by decide +kernel))).bind fun w9 => sadd w9 x7.2)) z1.c).bind fun w10 => pcat z2 w10).bind fun b => some (Fl.ret b ())
def m__law_lines (a : (T3 (List Tt) (List Tt) (List (Tt × Tt))) × Unit) : Option (List Tt) := (mb__law_lines a).bind (retP Empty.elim)
theorem c__law_lines {Γ : Gm} (T : Tx Γ) : Cal Γ "_law_lines" 1 false m__law_lines := by
  refine cal_of (k := 0) (τ := (T3 (List Tt) (List Tt) (List (Tt × Tt))) × Unit) T.d__law_lines sc__law_lines (S := Empty) (sto := (fun s => s.elim)) (m := mb__law_lines) Empty.elim (fun s => s.elim) rfl (fun X B a d => ?_) m__law_lines fun _ => rfl
  exact (xb_pseq (sto1 := fun (z1 : (T3 (List Tt) (List Tt) (List (Tt × Tt)))) => [vl (a.1 : (T3 (List Tt) (List Tt) (List (Tt × Tt)))), .dead, vl (z1.a : (List Tt)), vl (z1.b : (List Tt)), vl (z1.c : (List (Tt × Tt))), .dead, .dead, .dead]) (xp_unp3 d 2 3 4 (xe_eq (xe_var d.toCok 0 rfl rfl (.inl rfl)) rfl) rfl rfl rfl (.inl rfl) (.inl rfl) (.inl rfl)) (fun z1 => (xb_pseq (sto1 := fun (z2 : (List Tt)) => [vl (a.1 : (T3 (List Tt) (List Tt) (List (Tt × Tt)))), vl (z2 : (List Tt)), vl (z1.a : (List Tt)), vl (z1.b : (List Tt)), vl (z1.c : (List (Tt × Tt))), .dead, .dead, .dead]) (xp_set d 1 (xe_eq (xe_ofN (xn_cat (xr_ofN (xn_lc (t := fun (x3 : Tt) => (some true)) (f := fun (x3 : Tt) => (sadd (Tt.mk "pair " (by decide +kernel)) x3)) (i := 5) d.toCok (xi_eq (xi_list (xe_var d.toCok 2 rfl rfl (.inl rfl))) rfl) rfl rfl rfl rfl rfl d.hfx (fun X c a => xts_nil (fun _ => _) a) (fun X c x3 => (xe_eq (xe_op2 op_add_str o_addS xe_str (xe_var c 5 rfl rfl (.inl rfl))) rfl)))) (xr_ofN (xn_lc (t := fun (x4 : Tt) => (some true)) (f := fun (x4 : Tt) => (sadd (Tt.mk "giver " (by decide +kernel)) x4)) (i := 5) d.toCok (xi_eq (xi_list (xe_var d.toCok 3 rfl rfl (.inl rfl))) rfl) rfl rfl rfl rfl rfl d.hfx (fun X c a => xts_nil (fun _ => _) a) (fun X c x4 => (xe_eq (xe_op2 op_add_str o_addS xe_str (xe_var c 5 rfl rfl (.inl rfl))) rfl)))))) rfl) rfl (.inl rfl)) (fun z2 => (xb_one (xb_ret (c := ()) (xe_eq (xe_ofN (xn_cat (xr_of (xe_var d.toCok 1 rfl rfl (.inl rfl))) (xr_ofN (xn_lc2 (t := fun (x7 : (Tt × Tt)) => (some true)) (f := fun (x7 : (Tt × Tt)) => (((sadd (Tt.mk "suits " (by decide +kernel)) x7.1).bind fun w8 => sadd w8 (Tt.mk " " (by decide +kernel))).bind fun w9 => sadd w9 x7.2)) (i := 6) (l := 7) d.toCok (xi_eq (xi_list (xe_var d.toCok 4 rfl rfl (.inl rfl))) rfl) rfl rfl rfl rfl rfl rfl d.hfx (fun X c a => xts_nil (fun _ => _) a) (fun X c x7 => (xe_eq (xe_op2 op_add_str o_addS (xe_op2 op_add_str o_addS (xe_op2 op_add_str o_addS xe_str (xe_var c 6 rfl rfl (.inl rfl))) xe_str) (xe_var c 7 rfl rfl (.inl rfl))) rfl)))))) rfl) rfl [(0, false), (1, false), (2, false), (3, false), (4, false)] rfl rfl))))))
abbrev s__law_text : Stmt := top 26
theorem sc__law_text : FnScope ["_law_lines_here", "_law_line"] ["_law_lines_here"] (defScope s__law_text) := ⟨rfl, rfl, rfl, by decide +kernel, rfl, by decide +kernel, by decide +kernel⟩
def mb__law_text (a : (List Tt) × Unit) : Option (Fl Empty Empty Tt Unit) :=
  ((lcB (fun (x1 : Tt) => (some true)) (fun (x1 : Tt) => (sadd x1 (Tt.mk "\n" (by decide +kernel)))) a.1).bind fun w2 => sjoin (Tt.mk "" (by decide +kernel)) w2).bind fun b => some (Fl.ret b ())
def m__law_text (a : (List Tt) × Unit) : Option Tt := (mb__law_text a).bind (retP Empty.elim)
theorem c__law_text {Γ : Gm} (T : Tx Γ) : Cal Γ "_law_text" 1 false m__law_text := by
  refine cal_of (k := 0) (τ := (List Tt) × Unit) T.d__law_text sc__law_text (S := Empty) (sto := (fun s => s.elim)) (m := mb__law_text) Empty.elim (fun s => s.elim) rfl (fun X B a d => ?_) m__law_text fun _ => rfl
  exact (xb_one (xb_ret (c := ()) (xe_eq (xe_join xe_str (xr_ofN (xn_lc (t := fun (x1 : Tt) => (some true)) (f := fun (x1 : Tt) => (sadd x1 (Tt.mk "\n" (by decide +kernel)))) (i := 1) d.toCok (xi_eq (xi_list (xe_var d.toCok 0 rfl rfl (.inl rfl))) rfl) rfl rfl rfl rfl rfl d.hfx (fun X c a => xts_nil (fun _ => _) a) (fun X c x1 => (xe_eq (xe_op2 op_add_str o_addS (xe_var c 1 rfl rfl (.inl rfl)) xe_str) rfl))))) rfl) rfl [(0, false)] rfl rfl))
abbrev s__law_turned : Stmt := top 27
theorem sc__law_turned : FnScope ["_law_state_here", "_law_rows", "_law_left", "_law_turned_here", "_law_k"] ["_law_state_here", "_law_rows"] (defScope s__law_turned) := ⟨rfl, rfl, rfl, by decide +kernel, rfl, by decide +kernel, by decide +kernel⟩
def mb__law_turned (a : (List Tt) × Unit) (z : OZ) : Option (Fl Empty Empty (List Tt) OZ) :=
  (some a.1).bind fun (z1 : (List Tt)) =>
  (some ([] : (List Tt))).bind fun (z2 : (List Tt)) =>
  ((prange 0 ((a.1).length : Int)).bind fun xs => forP (fun (s3 : OZ × (List Tt) × (List Tt)) (x4 : Int) =>
  (((((((some ((s3.2.1).length : Int)).bind fun x => some (x, s3.1)).bind fun w8 => (some ((), w8.2)).bind fun w9 => some ((w8.1, w9.1), w9.2)).bind fun w7 => m__law_take w7.1 w7.2).bind fun w5 => (ppopAt s3.2.1 w5.1).bind fun w6 => some (w6.1, (w5.2, w6.2)))).bind fun q => (push s3.2.2 q.1).bind fun ys => some (q.2, ys)).bind fun (z11 : ((OZ × (List Tt)) × (List Tt))) =>
  (some (z11.1.1, z11.1.2, z11.2))) (z, z1, z2) xs).bind fun (s3 : OZ × (List Tt) × (List Tt)) =>
  ((some s3.2.2).bind fun x => some (x, s3.1)).bind fun b => some (Fl.ret b.1 b.2)
def m__law_turned (a : (List Tt) × Unit) (z : OZ) : Option ((List Tt) × OZ) := (mb__law_turned a z).bind retI
theorem c__law_turned {Γ : Gm} (T : Tx Γ) : CalZ Γ "_law_turned" 3 (fun (z : OZ) => z) m__law_turned := by
  refine calZ_of (k := 2) (τ := (List Tt) × Unit) (mk := fun (z : OZ) => z) T.d__law_turned sc__law_turned (S := Empty) (sto := fun s => s.elim) (m := mb__law_turned) rfl (fun X B a z M d => ?_) m__law_turned fun _ _ => rfl
  exact (xb_pseq (sto1 := fun (z1 : (List Tt)) => [ow (z : OZ), vl (a.1 : (List Tt)), ow (OL.mk (z1 : (List Tt))), .dead, .dead]) (xp_setN d 2 (xn_eq (xn_listOf d.toCok (xr_of (xe_var d.toCok 1 rfl rfl (.inl rfl))) rfl T.b_list) rfl) rfl (.inl rfl)) (fun z1 => (xb_pseq (sto1 := fun (z2 : (List Tt)) => [ow (z : OZ), vl (a.1 : (List Tt)), ow (OL.mk (z1 : (List Tt))), ow (OL.mk (z2 : (List Tt))), .dead]) (xp_setN d 3 (xn_eq (xn_list (α := Tt) xl_nil) rfl) rfl (.inl rfl)) (fun z2 => (xb_pseq (S1 := OZ × (List Tt) × (List Tt)) (sto1 := (fun (s3 : OZ × (List Tt) × (List Tt)) => [ow (s3.1 : OZ), vl (a.1 : (List Tt)), ow (OL.mk (s3.2.1 : (List Tt))), ow (OL.mk (s3.2.2 : (List Tt))), .dead])) (xp_for (S := OZ × (List Tt) × (List Tt)) (sto := (fun (s3 : OZ × (List Tt) × (List Tt)) => [ow (s3.1 : OZ), vl (a.1 : (List Tt)), ow (OL.mk (s3.2.1 : (List Tt))), ow (OL.mk (s3.2.2 : (List Tt))), .dead])) d (z, z1, z2) (xi_eq (xi_range1 d.toCok (xe_lenR d.toCok (xr_of (xe_var d.toCok 1 rfl rfl (.inl rfl))) rfl T.b_len) rfl T.b_range) rfl) (fun B d => xg_name d 4 rfl (.inl rfl)) (fun B d s3 x4 => (xp_seq (sto1 := fun (z11 : ((OZ × (List Tt)) × (List Tt))) => [ow (z11.1.1 : OZ), vl (a.1 : (List Tt)), ow (OL.mk (z11.1.2 : (List Tt))), ow (OL.mk (z11.2 : (List Tt))), vl (x4 : Int)]) (xp_appF d 3 (us := fun (_ : (OZ × (List Tt))) => s3.2.2) (sto := fun (s : (OZ × (List Tt))) => [ow (s.1 : OZ), vl (a.1 : (List Tt)), ow (OL.mk (s.2 : (List Tt))), ow (OL.mk (s3.2.2 : (List Tt))), vl (x4 : Int)]) (xf_popF (sto := (fun (q : OZ) => [ow (q : OZ), vl (a.1 : (List Tt)), ow (OL.mk (s3.2.1 : (List Tt))), ow (OL.mk (s3.2.2 : (List Tt))), vl (x4 : Int)])) d.toCok 2 rfl (fun _ => rfl) rfl (.inl rfl) (xf_callZ (stz := (fun (q : OZ) => [ow (q : OZ), vl (a.1 : (List Tt)), ow (OL.mk (s3.2.1 : (List Tt))), ow (OL.mk (s3.2.2 : (List Tt))), vl (x4 : Int)])) d.toCok 0 (c__law_take T) (by decide) rfl (fun _ => rfl) (fun _ _ => rfl) rfl (.inl rfl) (xaf_cons (sto := (fun (q : OZ) => [ow (q : OZ), vl (a.1 : (List Tt)), ow (OL.mk (s3.2.1 : (List Tt))), ow (OL.mk (s3.2.2 : (List Tt))), vl (x4 : Int)])) (sto1 := (fun (q : OZ) => [ow (q : OZ), vl (a.1 : (List Tt)), ow (OL.mk (s3.2.1 : (List Tt))), ow (OL.mk (s3.2.2 : (List Tt))), vl (x4 : Int)])) (xf_of (sto := (fun (q : OZ) => [ow (q : OZ), vl (a.1 : (List Tt)), ow (OL.mk (s3.2.1 : (List Tt))), ow (OL.mk (s3.2.2 : (List Tt))), vl (x4 : Int)])) (xe_lenR d.toCok (xr_own d.toCok 2 rfl rfl (.inl rfl)) rfl T.b_len)) (fun q10 => (xaf_nil (sto := (fun (q : OZ) => [ow (q : OZ), vl (a.1 : (List Tt)), ow (OL.mk (s3.2.1 : (List Tt))), ow (OL.mk (s3.2.2 : (List Tt))), vl (x4 : Int)]))))))) rfl (fun _ => rfl) rfl (.inl rfl)) (fun z11 => (xp_end [(4, false)] (z11.1.1, z11.1.2, z11.2) rfl))))) (fun s3 => (xb_pre [(3, true)] (xb_one (xb_retF (sto1 := (fun (q : OZ) => [ow (q : OZ), vl (a.1 : (List Tt)), ow (OL.mk (s3.2.1 : (List Tt))), vl (s3.2.2 : (List Tt)), .dead])) (c := fun q => q) (xf_eq (xf_of (sto := (fun (q : OZ) => [ow (q : OZ), vl (a.1 : (List Tt)), ow (OL.mk (s3.2.1 : (List Tt))), vl (s3.2.2 : (List Tt)), .dead])) (xe_var d.toCok 3 rfl rfl (.inl rfl))) rfl) [(1, false), (2, false), (3, false)] (fun _ => rfl) rfl)) rfl)))))))
abbrev s__law_turnedP : Stmt := top 27
theorem sc__law_turnedP : FnScope ["_law_state_here", "_law_rows", "_law_left", "_law_turned_here", "_law_k"] ["_law_state_here", "_law_rows"] (defScope s__law_turnedP) := ⟨rfl, rfl, rfl, by decide +kernel, rfl, by decide +kernel, by decide +kernel⟩
def mb__law_turnedP (a : (List (Tt × Tt)) × Unit) (z : OZ) : Option (Fl Empty Empty (List (Tt × Tt)) OZ) :=
  (some a.1).bind fun (z1 : (List (Tt × Tt))) =>
  (some ([] : (List (Tt × Tt)))).bind fun (z2 : (List (Tt × Tt))) =>
  ((prange 0 ((a.1).length : Int)).bind fun xs => forP (fun (s3 : OZ × (List (Tt × Tt)) × (List (Tt × Tt))) (x4 : Int) =>
  (((((((some ((s3.2.1).length : Int)).bind fun x => some (x, s3.1)).bind fun w8 => (some ((), w8.2)).bind fun w9 => some ((w8.1, w9.1), w9.2)).bind fun w7 => m__law_take w7.1 w7.2).bind fun w5 => (ppopAt s3.2.1 w5.1).bind fun w6 => some (w6.1, (w5.2, w6.2)))).bind fun q => (push s3.2.2 q.1).bind fun ys => some (q.2, ys)).bind fun (z11 : ((OZ × (List (Tt × Tt))) × (List (Tt × Tt)))) =>
  (some (z11.1.1, z11.1.2, z11.2))) (z, z1, z2) xs).bind fun (s3 : OZ × (List (Tt × Tt)) × (List (Tt × Tt))) =>
  ((some s3.2.2).bind fun x => some (x, s3.1)).bind fun b => some (Fl.ret b.1 b.2)
def m__law_turnedP (a : (List (Tt × Tt)) × Unit) (z : OZ) : Option ((List (Tt × Tt)) × OZ) := (mb__law_turnedP a z).bind retI
theorem c__law_turnedP {Γ : Gm} (T : Tx Γ) : CalZ Γ "_law_turned" 3 (fun (z : OZ) => z) m__law_turnedP := by
  refine calZ_of (k := 2) (τ := (List (Tt × Tt)) × Unit) (mk := fun (z : OZ) => z) T.d__law_turned sc__law_turnedP (S := Empty) (sto := fun s => s.elim) (m := mb__law_turnedP) rfl (fun X B a z M d => ?_) m__law_turnedP fun _ _ => rfl
  exact (xb_pseq (sto1 := fun (z1 : (List (Tt × Tt))) => [ow (z : OZ), vl (a.1 : (List (Tt × Tt))), ow (OL.mk (z1 : (List (Tt × Tt)))), .dead, .dead]) (xp_setN d 2 (xn_eq (xn_listOf d.toCok (xr_of (xe_var d.toCok 1 rfl rfl (.inl rfl))) rfl T.b_list) rfl) rfl (.inl rfl)) (fun z1 => (xb_pseq (sto1 := fun (z2 : (List (Tt × Tt))) => [ow (z : OZ), vl (a.1 : (List (Tt × Tt))), ow (OL.mk (z1 : (List (Tt × Tt)))), ow (OL.mk (z2 : (List (Tt × Tt)))), .dead]) (xp_setN d 3 (xn_eq (xn_list (α := (Tt × Tt)) xl_nil) rfl) rfl (.inl rfl)) (fun z2 => (xb_pseq (S1 := OZ × (List (Tt × Tt)) × (List (Tt × Tt))) (sto1 := (fun (s3 : OZ × (List (Tt × Tt)) × (List (Tt × Tt))) => [ow (s3.1 : OZ), vl (a.1 : (List (Tt × Tt))), ow (OL.mk (s3.2.1 : (List (Tt × Tt)))), ow (OL.mk (s3.2.2 : (List (Tt × Tt)))), .dead])) (xp_for (S := OZ × (List (Tt × Tt)) × (List (Tt × Tt))) (sto := (fun (s3 : OZ × (List (Tt × Tt)) × (List (Tt × Tt))) => [ow (s3.1 : OZ), vl (a.1 : (List (Tt × Tt))), ow (OL.mk (s3.2.1 : (List (Tt × Tt)))), ow (OL.mk (s3.2.2 : (List (Tt × Tt)))), .dead])) d (z, z1, z2) (xi_eq (xi_range1 d.toCok (xe_lenR d.toCok (xr_of (xe_var d.toCok 1 rfl rfl (.inl rfl))) rfl T.b_len) rfl T.b_range) rfl) (fun B d => xg_name d 4 rfl (.inl rfl)) (fun B d s3 x4 => (xp_seq (sto1 := fun (z11 : ((OZ × (List (Tt × Tt))) × (List (Tt × Tt)))) => [ow (z11.1.1 : OZ), vl (a.1 : (List (Tt × Tt))), ow (OL.mk (z11.1.2 : (List (Tt × Tt)))), ow (OL.mk (z11.2 : (List (Tt × Tt)))), vl (x4 : Int)]) (xp_appF d 3 (us := fun (_ : (OZ × (List (Tt × Tt)))) => s3.2.2) (sto := fun (s : (OZ × (List (Tt × Tt)))) => [ow (s.1 : OZ), vl (a.1 : (List (Tt × Tt))), ow (OL.mk (s.2 : (List (Tt × Tt)))), ow (OL.mk (s3.2.2 : (List (Tt × Tt)))), vl (x4 : Int)]) (xf_popF (sto := (fun (q : OZ) => [ow (q : OZ), vl (a.1 : (List (Tt × Tt))), ow (OL.mk (s3.2.1 : (List (Tt × Tt)))), ow (OL.mk (s3.2.2 : (List (Tt × Tt)))), vl (x4 : Int)])) d.toCok 2 rfl (fun _ => rfl) rfl (.inl rfl) (xf_callZ (stz := (fun (q : OZ) => [ow (q : OZ), vl (a.1 : (List (Tt × Tt))), ow (OL.mk (s3.2.1 : (List (Tt × Tt)))), ow (OL.mk (s3.2.2 : (List (Tt × Tt)))), vl (x4 : Int)])) d.toCok 0 (c__law_take T) (by decide) rfl (fun _ => rfl) (fun _ _ => rfl) rfl (.inl rfl) (xaf_cons (sto := (fun (q : OZ) => [ow (q : OZ), vl (a.1 : (List (Tt × Tt))), ow (OL.mk (s3.2.1 : (List (Tt × Tt)))), ow (OL.mk (s3.2.2 : (List (Tt × Tt)))), vl (x4 : Int)])) (sto1 := (fun (q : OZ) => [ow (q : OZ), vl (a.1 : (List (Tt × Tt))), ow (OL.mk (s3.2.1 : (List (Tt × Tt)))), ow (OL.mk (s3.2.2 : (List (Tt × Tt)))), vl (x4 : Int)])) (xf_of (sto := (fun (q : OZ) => [ow (q : OZ), vl (a.1 : (List (Tt × Tt))), ow (OL.mk (s3.2.1 : (List (Tt × Tt)))), ow (OL.mk (s3.2.2 : (List (Tt × Tt)))), vl (x4 : Int)])) (xe_lenR d.toCok (xr_own d.toCok 2 rfl rfl (.inl rfl)) rfl T.b_len)) (fun q10 => (xaf_nil (sto := (fun (q : OZ) => [ow (q : OZ), vl (a.1 : (List (Tt × Tt))), ow (OL.mk (s3.2.1 : (List (Tt × Tt)))), ow (OL.mk (s3.2.2 : (List (Tt × Tt)))), vl (x4 : Int)]))))))) rfl (fun _ => rfl) rfl (.inl rfl)) (fun z11 => (xp_end [(4, false)] (z11.1.1, z11.1.2, z11.2) rfl))))) (fun s3 => (xb_pre [(3, true)] (xb_one (xb_retF (sto1 := (fun (q : OZ) => [ow (q : OZ), vl (a.1 : (List (Tt × Tt))), ow (OL.mk (s3.2.1 : (List (Tt × Tt)))), vl (s3.2.2 : (List (Tt × Tt))), .dead])) (c := fun q => q) (xf_eq (xf_of (sto := (fun (q : OZ) => [ow (q : OZ), vl (a.1 : (List (Tt × Tt))), ow (OL.mk (s3.2.1 : (List (Tt × Tt)))), vl (s3.2.2 : (List (Tt × Tt))), .dead])) (xe_var d.toCok 3 rfl rfl (.inl rfl))) rfl) [(1, false), (2, false), (3, false)] (fun _ => rfl) rfl)) rfl)))))))
abbrev s_format_web : Stmt := top 15
theorem sc_format_web : FnScope ["web", "lines", "name", "line", "giver", "taker"] ["web"] (defScope s_format_web) := ⟨rfl, rfl, rfl, by decide +kernel, rfl, by decide +kernel, by decide +kernel⟩
def mb_format_web (a : WebD × Unit) : Option (Fl Empty Empty Tt Unit) :=
  (lcB (fun (x2 : Tt) => (some true)) (fun (x2 : Tt) => (sadd (Tt.mk "pair " (by decide +kernel)) x2)) (a.1).pairs).bind fun (z1 : (List Tt)) =>
  ((lcB (fun (x3 : Tt) => (some true)) (fun (x3 : Tt) => (sadd (Tt.mk "giver " (by decide +kernel)) x3)) (a.1).givers).bind fun w5 => pcat z1 w5).bind fun (z4 : (List Tt)) =>
  (((m_Web_suits (a.1, ())).bind fun w7 => lcB (fun (x6 : (Tt × Tt)) => (some true)) (fun (x6 : (Tt × Tt)) => (fcat (Tt.mk "" (by decide +kernel)) [(some (Tt.mk "suits " (by decide +kernel))), (fmt0 x6.1), (some (Tt.mk " " (by decide +kernel))), (fmt0 x6.2)])) w7).bind fun w9 => pcat z4 w9).bind fun (z8 : (List Tt)) =>
  ((lcB (fun (x10 : Tt) => (some true)) (fun (x10 : Tt) => (sadd x10 (Tt.mk "\n" (by decide +kernel)))) z8).bind fun w11 => sjoin (Tt.mk "" (by decide +kernel)) w11).bind fun b => some (Fl.ret b ())
def m_format_web (a : WebD × Unit) : Option Tt := (mb_format_web a).bind (retP Empty.elim)
theorem c_format_web {Γ : Gm} (T : Tx Γ) : Cal Γ "format_web" 2 false m_format_web := by
  refine cal_of (k := 1) (τ := WebD × Unit) T.d_format_web sc_format_web (S := Empty) (sto := (fun s => s.elim)) (m := mb_format_web) Empty.elim (fun s => s.elim) rfl (fun X B a d => ?_) m_format_web fun _ => rfl
  exact (xb_pseq (sto1 := fun (z1 : (List Tt)) => [vl (a.1 : WebD), ow (OL.mk (z1 : (List Tt))), .dead, .dead, .dead, .dead]) (xp1_eq (xp_setLcN d (j := 1) rfl rfl rfl (t := fun (x2 : Tt) => (some true)) (f := fun (x2 : Tt) => (sadd (Tt.mk "pair " (by decide +kernel)) x2)) (i := 2) (xi_eq (xi_list (xe_wP d.toCok T.wb (xe_var d.toCok 0 rfl rfl (.inl rfl)))) rfl) rfl rfl rfl rfl rfl (fun X c a => xts_nil (fun _ => _) a) (fun X c x2 => (xe_eq (xe_op2 op_add_str o_addS xe_str (xe_var c 2 rfl rfl (.inl rfl))) rfl))) rfl) (fun z1 => (xb_pseq (sto1 := fun (z4 : (List Tt)) => [vl (a.1 : WebD), ow (OL.mk (z4 : (List Tt))), .dead, .dead, .dead, .dead]) (xp1_eq (xp_extend d 1 rfl rfl (.inl rfl) (xr_ofN (xn_lc (t := fun (x3 : Tt) => (some true)) (f := fun (x3 : Tt) => (sadd (Tt.mk "giver " (by decide +kernel)) x3)) (i := 2) d.toCok (xi_eq (xi_list (xe_wG d.toCok T.wb (xe_var d.toCok 0 rfl rfl (.inl rfl)))) rfl) rfl rfl rfl rfl rfl d.hfx (fun X c a => xts_nil (fun _ => _) a) (fun X c x3 => (xe_eq (xe_op2 op_add_str o_addS xe_str (xe_var c 2 rfl rfl (.inl rfl))) rfl))))) rfl) (fun z4 => (xb_pseq (sto1 := fun (z8 : (List Tt)) => [vl (a.1 : WebD), ow (OL.mk (z8 : (List Tt))), .dead, .dead, .dead, .dead]) (xp1_eq (xp_extend d 1 rfl rfl (.inl rfl) (xr_ofN (xn_lc2 (t := fun (x6 : (Tt × Tt)) => (some true)) (f := fun (x6 : (Tt × Tt)) => (fcat (Tt.mk "" (by decide +kernel)) [(some (Tt.mk "suits " (by decide +kernel))), (fmt0 x6.1), (some (Tt.mk " " (by decide +kernel))), (fmt0 x6.2)])) (i := 4) (l := 5) d.toCok (xi_eq (xi_list (xe_ofN (xn_meth0 d.toCok T.wb (c_Web_suits T) (by decide) (xe_var d.toCok 0 rfl rfl (.inl rfl))))) rfl) rfl rfl rfl rfl rfl rfl d.hfx (fun X c a => xts_nil (fun _ => _) a) (fun X c x6 => (xe_eq (xe_fstr (.cons xe_str (.cons (xe_fmt0 (xe_var c 4 rfl rfl (.inl rfl))) (.cons xe_str (.cons (xe_fmt0 (xe_var c 5 rfl rfl (.inl rfl))) .nil))))) rfl))))) rfl) (fun z8 => (xb_pre [(1, true)] (xb_one (xb_ret (c := ()) (xe_eq (xe_join xe_str (xr_ofN (xn_lc (t := fun (x10 : Tt) => (some true)) (f := fun (x10 : Tt) => (sadd x10 (Tt.mk "\n" (by decide +kernel)))) (i := 3) d.toCok (xi_eq (xi_list (xe_var d.toCok 1 rfl rfl (.inl rfl))) rfl) rfl rfl rfl rfl rfl d.hfx (fun X c a => xts_nil (fun _ => _) a) (fun X c x10 => (xe_eq (xe_op2 op_add_str o_addS (xe_var c 3 rfl rfl (.inl rfl)) xe_str) rfl))))) rfl) rfl [(0, false), (1, false)] rfl rfl)) rfl)))))))
abbrev s__law_meet : Stmt := top 28
theorem sc__law_meet : FnScope ["_law_web", "_law_one", "_law_other", "_law_pairs", "_law_givers", "_law_suits"] ["_law_web", "_law_one", "_law_other"] (defScope s__law_meet) := ⟨rfl, rfl, rfl, by decide +kernel, rfl, by decide +kernel, by decide +kernel⟩
def mb__law_meet (a : (T3 (List Tt) (List Tt) (List (Tt × Tt))) × Tt × Tt × Unit) : Option (Fl Empty Empty Bool Unit) :=
  (some a.1).bind fun (z1 : (T3 (List Tt) (List Tt) (List (Tt × Tt)))) =>
  flb (((andM (some (isIn a.2.1 z1.b)) (some (isIn a.2.2.1 z1.b)))).bind fun t => if t = true then
  (some false).bind fun b => some (Fl.ret b ())
 else
  (some (Fl.nx ()))) fun _ =>
  flb ((some (isIn a.2.1 z1.b)).bind fun t => if t = true then
  (some (isIn (a.2.1, a.2.2.1) z1.c)).bind fun b => some (Fl.ret b ())
 else
  (some (Fl.nx ()))) fun _ =>
  flb ((some (isIn a.2.2.1 z1.b)).bind fun t => if t = true then
  (some (isIn (a.2.2.1, a.2.1) z1.c)).bind fun b => some (Fl.ret b ())
 else
  (some (Fl.nx ()))) fun _ =>
  ((andM (some (isIn (a.2.1, a.2.2.1) z1.c)) (some (isIn (a.2.2.1, a.2.1) z1.c)))).bind fun b => some (Fl.ret b ())
def m__law_meet (a : (T3 (List Tt) (List Tt) (List (Tt × Tt))) × Tt × Tt × Unit) : Option Bool := (mb__law_meet a).bind (retP Empty.elim)
theorem c__law_meet {Γ : Gm} (T : Tx Γ) : Cal Γ "_law_meet" 1 false m__law_meet := by
  refine cal_of (k := 0) (τ := (T3 (List Tt) (List Tt) (List (Tt × Tt))) × Tt × Tt × Unit) T.d__law_meet sc__law_meet (S := Empty) (sto := (fun s => s.elim)) (m := mb__law_meet) Empty.elim (fun s => s.elim) rfl (fun X B a d => ?_) m__law_meet fun _ => rfl
  exact (xb_pseq (sto1 := fun (z1 : (T3 (List Tt) (List Tt) (List (Tt × Tt)))) => [vl (a.1 : (T3 (List Tt) (List Tt) (List (Tt × Tt)))), vl (a.2.1 : Tt), vl (a.2.2.1 : Tt), vl (z1.a : (List Tt)), vl (z1.b : (List Tt)), vl (z1.c : (List (Tt × Tt)))]) (xp_unp3 d 3 4 5 (xe_eq (xe_var d.toCok 0 rfl rfl (.inl rfl)) rfl) rfl rfl rfl (.inl rfl) (.inl rfl) (.inl rfl)) (fun z1 => (xb_seq (S1 := Unit) (sto1 := (fun (_ : Unit) => [vl (a.1 : (T3 (List Tt) (List Tt) (List (Tt × Tt)))), vl (a.2.1 : Tt), vl (a.2.2.1 : Tt), vl (z1.a : (List Tt)), vl (z1.b : (List Tt)), vl (z1.c : (List (Tt × Tt)))])) (xb_if (S := Unit) (sto := (fun (_ : Unit) => [vl (a.1 : (T3 (List Tt) (List Tt) (List (Tt × Tt)))), vl (a.2.1 : Tt), vl (a.2.2.1 : Tt), vl (z1.a : (List Tt)), vl (z1.b : (List Tt)), vl (z1.c : (List (Tt × Tt)))])) (xt_eq (xt_w (xw_and (xt_ofC (xc_in (xe_var d.toCok 1 rfl rfl (.inl rfl)) (xr_of (xe_var d.toCok 4 rfl rfl (.inl rfl))))) (xw_and1 (xt_ofC (xc_in (xe_var d.toCok 2 rfl rfl (.inl rfl)) (xr_of (xe_var d.toCok 4 rfl rfl (.inl rfl)))))))) rfl) (xb_one (xb_ret (c := ()) (xe_eq xe_bl rfl) rfl [(0, false), (1, false), (2, false), (3, false), (4, false), (5, false)] rfl rfl)) (xb_end [] () rfl)) (fun _ => (xb_seq (S1 := Unit) (sto1 := (fun (_ : Unit) => [vl (a.1 : (T3 (List Tt) (List Tt) (List (Tt × Tt)))), vl (a.2.1 : Tt), vl (a.2.2.1 : Tt), vl (z1.a : (List Tt)), vl (z1.b : (List Tt)), vl (z1.c : (List (Tt × Tt)))])) (xb_if (S := Unit) (sto := (fun (_ : Unit) => [vl (a.1 : (T3 (List Tt) (List Tt) (List (Tt × Tt)))), vl (a.2.1 : Tt), vl (a.2.2.1 : Tt), vl (z1.a : (List Tt)), vl (z1.b : (List Tt)), vl (z1.c : (List (Tt × Tt)))])) (xt_eq (xt_ofC (xc_in (xe_var d.toCok 1 rfl rfl (.inl rfl)) (xr_of (xe_var d.toCok 4 rfl rfl (.inl rfl))))) rfl) (xb_one (xb_ret (c := ()) (xe_eq (xe_ofC (xc_deepIn d.toCok (xe_tup2 (xe_var d.toCok 1 rfl rfl (.inl rfl)) (xe_var d.toCok 2 rfl rfl (.inl rfl))) (xr_of (xe_var d.toCok 5 rfl rfl (.inl rfl))))) rfl) rfl [(0, false), (1, false), (2, false), (3, false), (4, false), (5, false)] rfl rfl)) (xb_end [] () rfl)) (fun _ => (xb_seq (S1 := Unit) (sto1 := (fun (_ : Unit) => [vl (a.1 : (T3 (List Tt) (List Tt) (List (Tt × Tt)))), vl (a.2.1 : Tt), vl (a.2.2.1 : Tt), vl (z1.a : (List Tt)), vl (z1.b : (List Tt)), vl (z1.c : (List (Tt × Tt)))])) (xb_if (S := Unit) (sto := (fun (_ : Unit) => [vl (a.1 : (T3 (List Tt) (List Tt) (List (Tt × Tt)))), vl (a.2.1 : Tt), vl (a.2.2.1 : Tt), vl (z1.a : (List Tt)), vl (z1.b : (List Tt)), vl (z1.c : (List (Tt × Tt)))])) (xt_eq (xt_ofC (xc_in (xe_var d.toCok 2 rfl rfl (.inl rfl)) (xr_of (xe_var d.toCok 4 rfl rfl (.inl rfl))))) rfl) (xb_one (xb_ret (c := ()) (xe_eq (xe_ofC (xc_deepIn d.toCok (xe_tup2 (xe_var d.toCok 2 rfl rfl (.inl rfl)) (xe_var d.toCok 1 rfl rfl (.inl rfl))) (xr_of (xe_var d.toCok 5 rfl rfl (.inl rfl))))) rfl) rfl [(0, false), (1, false), (2, false), (3, false), (4, false), (5, false)] rfl rfl)) (xb_end [] () rfl)) (fun _ => (xb_one (xb_ret (c := ()) (xe_eq (xe_and (xe_ofC (xc_deepIn d.toCok (xe_tup2 (xe_var d.toCok 1 rfl rfl (.inl rfl)) (xe_var d.toCok 2 rfl rfl (.inl rfl))) (xr_of (xe_var d.toCok 5 rfl rfl (.inl rfl))))) (xe_and1 (xe_ofC (xc_deepIn d.toCok (xe_tup2 (xe_var d.toCok 2 rfl rfl (.inl rfl)) (xe_var d.toCok 1 rfl rfl (.inl rfl))) (xr_of (xe_var d.toCok 5 rfl rfl (.inl rfl))))))) rfl) rfl [(0, false), (1, false), (2, false), (3, false), (4, false), (5, false)] rfl rfl))))))))))
abbrev s__law_web_right : Stmt := top 29
theorem sc__law_web_right : FnScope ["_law_state_here", "_law_made", "_law_web", "_law_names_here", "_law_edges", "_law_a", "_law_k", "_law_pairs", "_law_givers", "_law_suits", "_law_one", "_law_other", "_law_told", "_law_due", "_law_b", "_law_value"] ["_law_state_here", "_law_made", "_law_web"] (defScope s__law_web_right) := ⟨rfl, rfl, rfl, by decide +kernel, rfl, by decide +kernel, by decide +kernel⟩
def mb__law_web_right (a : WebD × (T3 (List Tt) (List Tt) (List (Tt × Tt))) × Unit) (z : OZ) : Option (Fl Empty Empty Bool OZ) :=
  (some a.2.1).bind fun (z1 : (T3 (List Tt) (List Tt) (List (Tt × Tt)))) =>
  (pcat z1.a z1.b).bind fun (z2 : (List Tt)) =>
  flb (((orM (((m_Web_suits (a.1, ())).bind fun w3 => some (T3.mk (a.1).pairs (a.1).givers w3)).bind fun w4 => some (!decide (w4 = (T3.mk z1.a z1.b z1.c)))) ((m_Web_names (a.1, ())).bind fun w5 => some (!decide (w5 = z2))))).bind fun t => if t = true then
  ((some false).bind fun x => some (x, z)).bind fun b => some (Fl.ret b.1 b.2)
 else
  (some (Fl.nx ()))) fun _ =>
  (some ([] : (List (Int × Int)))).bind fun (z7 : (List (Int × Int))) =>
  ((prange 0 ((z2).length : Int)).bind fun xs => forP (fun (s8 : (List (Int × Int))) (x9 : Int) =>
  (((prange (x9 + (1 : Int)) ((z2).length : Int)).bind fun w12 => lcB (fun (x11 : Int) => ((b2 (some a.2.1) (b2 (atI z2 x9) (b2 (atI z2 x11) (some ()) fun x t => some (x, t)) fun x t => some (x, t)) fun x t => some (x, t)).bind m__law_meet)) (fun (x11 : Int) => (some (x9, x11))) w12).bind fun w13 => pcat s8 w13).bind fun (z10 : (List (Int × Int))) =>
  (some z10)) z7 xs).bind fun (s8 : (List (Int × Int))) =>
  flb (((m_Web_edges (a.1, ())).bind fun w14 => some (!decide (w14 = s8))).bind fun t => if t = true then
  ((some false).bind fun x => some (x, z)).bind fun b => some (Fl.ret b.1 b.2)
 else
  (some (Fl.nx ()))) fun _ =>
  flb (((pmul (6 : Int) (bInt (!decide (z2 = ([] : (List Tt)))))).bind fun w16 => prange 0 w16).bind fun xs => forF (fun (s17 : OZ) (x18 : Int) =>
  (((some z2).bind fun x => some (x, s17)).bind fun w20 => ((((some ((z2).length : Int)).bind fun x => some (x, w20.2)).bind fun w23 => (some ((), w23.2)).bind fun w24 => some ((w23.1, w24.1), w24.2)).bind fun w22 => m__law_take w22.1 w22.2).bind fun w21 => (atI w20.1 w21.1).bind fun z => some (z, w21.2)).bind fun (z19 : (Tt × OZ)) =>
  (((some z2).bind fun x => some (x, z19.2)).bind fun w28 => ((((some ((z2).length : Int)).bind fun x => some (x, w28.2)).bind fun w31 => (some ((), w31.2)).bind fun w32 => some ((w31.1, w32.1), w32.2)).bind fun w30 => m__law_take w30.1 w30.2).bind fun w29 => (atI w28.1 w29.1).bind fun z => some (z, w29.2)).bind fun (z27 : (Tt × OZ)) =>
  (seqO [((some a.1).bind fun w => (b2 (some z19.1) (b2 (some z27.1) (some ()) fun x t => some (x, t)) fun x t => some (x, t)).bind (fun t => m_Web_does_suit (w, t))), ((some a.1).bind fun w => (b2 (some z27.1) (b2 (some z19.1) (some ()) fun x t => some (x, t)) fun x t => some (x, t)).bind (fun t => m_Web_does_suit (w, t)))]).bind fun (z35 : (List Bool)) =>
  (some [(isIn (z19.1, z27.1) z1.c), (isIn (z27.1, z19.1) z1.c)]).bind fun (z36 : (List Bool)) =>
  ((some (!decide (z19.1 = z27.1))).bind fun t => if t = true then
  (((some a.1).bind fun w => (b2 (some z19.1) (b2 (some z27.1) (some ()) fun x t => some (x, t)) fun x t => some (x, t)).bind (fun t => m_Web_may_meet (w, t))).bind fun w39 => push z35 w39).bind fun (z38 : (List Bool)) =>
  (((b2 (some a.2.1) (b2 (some z19.1) (b2 (some z27.1) (some ()) fun x t => some (x, t)) fun x t => some (x, t)) fun x t => some (x, t)).bind m__law_meet).bind fun w41 => push z36 w41).bind fun (z40 : (List Bool)) =>
  (some (z38, z40))
 else
  (some (z35, z36))).bind fun (s37 : (List Bool) × (List Bool)) =>
  flb (((orM (some (!decide (s37.1 = s37.2))) ((lcB (fun (x42 : Bool) => (some (!true))) (fun (x42 : Bool) => (some x42)) s37.1).bind fun w43 => some (!decide (w43 = ([] : (List Bool))))))).bind fun t => if t = true then
  ((some false).bind fun x => some (x, z27.2)).bind fun b => some (Fl.ret b.1 b.2)
 else
  (some (Fl.nx ()))) fun _ =>
  (some (Fl.nx z27.2))) z xs) fun (s17 : OZ) =>
  ((some true).bind fun x => some (x, s17)).bind fun b => some (Fl.ret b.1 b.2)
def m__law_web_right (a : WebD × (T3 (List Tt) (List Tt) (List (Tt × Tt))) × Unit) (z : OZ) : Option (Bool × OZ) := (mb__law_web_right a z).bind retI
theorem c__law_web_right {Γ : Gm} (T : Tx Γ) : CalZ Γ "_law_web_right" 4 (fun (z : OZ) => z) m__law_web_right := by
  refine calZ_of (k := 3) (τ := WebD × (T3 (List Tt) (List Tt) (List (Tt × Tt))) × Unit) (mk := fun (z : OZ) => z) T.d__law_web_right sc__law_web_right (S := Empty) (sto := fun s => s.elim) (m := mb__law_web_right) rfl (fun X B a z M d => ?_) m__law_web_right fun _ _ => rfl
  exact (xb_pseq (sto1 := fun (z1 : (T3 (List Tt) (List Tt) (List (Tt × Tt)))) => [ow (z : OZ), vl (a.1 : WebD), vl (a.2.1 : (T3 (List Tt) (List Tt) (List (Tt × Tt)))), .dead, .dead, .dead, .dead, vl (z1.a : (List Tt)), vl (z1.b : (List Tt)), vl (z1.c : (List (Tt × Tt))), .dead, .dead, .dead, .dead, .dead, .dead]) (xp_unp3 d 7 8 9 (xe_eq (xe_var d.toCok 2 rfl rfl (.inr (.inl rfl))) rfl) rfl rfl rfl (.inl rfl) (.inl rfl) (.inl rfl)) (fun z1 => (xb_pseq (sto1 := fun (z2 : (List Tt)) => [ow (z : OZ), vl (a.1 : WebD), vl (a.2.1 : (T3 (List Tt) (List Tt) (List (Tt × Tt)))), vl (z2 : (List Tt)), .dead, .dead, .dead, vl (z1.a : (List Tt)), vl (z1.b : (List Tt)), vl (z1.c : (List (Tt × Tt))), .dead, .dead, .dead, .dead, .dead, .dead]) (xp_set d 3 (xe_eq (xe_ofN (xn_cat (xr_of (xe_var d.toCok 7 rfl rfl (.inl rfl))) (xr_of (xe_var d.toCok 8 rfl rfl (.inl rfl))))) rfl) rfl (.inr rfl)) (fun z2 => (xb_seq (S1 := Unit) (sto1 := (fun (_ : Unit) => [ow (z : OZ), vl (a.1 : WebD), vl (a.2.1 : (T3 (List Tt) (List Tt) (List (Tt × Tt)))), vl (z2 : (List Tt)), .dead, .dead, .dead, vl (z1.a : (List Tt)), vl (z1.b : (List Tt)), vl (z1.c : (List (Tt × Tt))), .dead, .dead, .dead, .dead, .dead, .dead])) (xb_if (S := Unit) (sto := (fun (_ : Unit) => [ow (z : OZ), vl (a.1 : WebD), vl (a.2.1 : (T3 (List Tt) (List Tt) (List (Tt × Tt)))), vl (z2 : (List Tt)), .dead, .dead, .dead, vl (z1.a : (List Tt)), vl (z1.b : (List Tt)), vl (z1.c : (List (Tt × Tt))), .dead, .dead, .dead, .dead, .dead, .dead])) (xt_eq (xt_w (xw_or (xt_ofC (xc_neD d.toCok (xe_tup3 (xe_wP d.toCok T.wb (xe_var d.toCok 1 rfl rfl (.inl rfl))) (xe_wG d.toCok T.wb (xe_var d.toCok 1 rfl rfl (.inl rfl))) (xe_ofN (xn_meth0 d.toCok T.wb (c_Web_suits T) (by decide) (xe_var d.toCok 1 rfl rfl (.inl rfl))))) (xe_tup3 (xe_var d.toCok 7 rfl rfl (.inl rfl)) (xe_var d.toCok 8 rfl rfl (.inl rfl)) (xe_var d.toCok 9 rfl rfl (.inl rfl))))) (xw_or1 (xt_ofC (xc_neD d.toCok (xe_ofN (xn_meth0 d.toCok T.wb (c_Web_names T) (by decide) (xe_var d.toCok 1 rfl rfl (.inl rfl)))) (xe_var d.toCok 3 rfl rfl (.inr (.inl rfl)))))))) rfl) (xb_one (xb_retF (sto1 := (fun (q : OZ) => [ow (q : OZ), vl (a.1 : WebD), vl (a.2.1 : (T3 (List Tt) (List Tt) (List (Tt × Tt)))), vl (z2 : (List Tt)), .dead, .dead, .dead, vl (z1.a : (List Tt)), vl (z1.b : (List Tt)), vl (z1.c : (List (Tt × Tt))), .dead, .dead, .dead, .dead, .dead, .dead])) (c := fun q => q) (xf_eq (xf_of (sto := (fun (q : OZ) => [ow (q : OZ), vl (a.1 : WebD), vl (a.2.1 : (T3 (List Tt) (List Tt) (List (Tt × Tt)))), vl (z2 : (List Tt)), .dead, .dead, .dead, vl (z1.a : (List Tt)), vl (z1.b : (List Tt)), vl (z1.c : (List (Tt × Tt))), .dead, .dead, .dead, .dead, .dead, .dead])) xe_bl) rfl) [(1, false), (2, false), (3, false), (7, false), (8, false), (9, false)] (fun _ => rfl) rfl)) (xb_end [] () rfl)) (fun _ => (xb_pseq (sto1 := fun (z7 : (List (Int × Int))) => [ow (z : OZ), vl (a.1 : WebD), vl (a.2.1 : (T3 (List Tt) (List Tt) (List (Tt × Tt)))), vl (z2 : (List Tt)), vl (z7 : (List (Int × Int))), .dead, .dead, vl (z1.a : (List Tt)), vl (z1.b : (List Tt)), vl (z1.c : (List (Tt × Tt))), .dead, .dead, .dead, .dead, .dead, .dead]) (xp_set d 4 (xe_eq (xe_ofN (xn_list (α := (Int × Int)) xl_nil)) rfl) rfl (.inl rfl)) (fun z7 => (xb_pseq (S1 := (List (Int × Int))) (sto1 := (fun (s8 : (List (Int × Int))) => [ow (z : OZ), vl (a.1 : WebD), vl (a.2.1 : (T3 (List Tt) (List Tt) (List (Tt × Tt)))), vl (z2 : (List Tt)), vl (s8 : (List (Int × Int))), .dead, .dead, .dead, .dead, vl (z1.c : (List (Tt × Tt))), .dead, .dead, .dead, .dead, .dead, .dead])) (xp1_pre [(7, false), (8, false)] (xp_for (S := (List (Int × Int))) (sto := (fun (s8 : (List (Int × Int))) => [ow (z : OZ), vl (a.1 : WebD), vl (a.2.1 : (T3 (List Tt) (List Tt) (List (Tt × Tt)))), vl (z2 : (List Tt)), vl (s8 : (List (Int × Int))), .dead, .dead, .dead, .dead, vl (z1.c : (List (Tt × Tt))), .dead, .dead, .dead, .dead, .dead, .dead])) d z7 (xi_eq (xi_range1 d.toCok (xe_lenR d.toCok (xr_of (xe_var d.toCok 3 rfl rfl (.inr (.inl rfl)))) rfl T.b_len) rfl T.b_range) rfl) (fun B d => xg_name d 5 rfl (.inr rfl)) (fun B d s8 x9 => (xp_seq (sto1 := fun (z10 : (List (Int × Int))) => [ow (z : OZ), vl (a.1 : WebD), vl (a.2.1 : (T3 (List Tt) (List Tt) (List (Tt × Tt)))), vl (z2 : (List Tt)), vl (z10 : (List (Int × Int))), vl (x9 : Int), .dead, .dead, .dead, vl (z1.c : (List (Tt × Tt))), .dead, .dead, .dead, .dead, .dead, .dead]) (xp_set d 4 (xe_eq (xe_ofN (xn_cat (xr_of (xe_var d.toCok 4 rfl rfl (.inl rfl))) (xr_ofN (xn_lc (t := fun (x11 : Int) => ((b2 (some a.2.1) (b2 (atI z2 x9) (b2 (atI z2 x11) (some ()) fun x t => some (x, t)) fun x t => some (x, t)) fun x t => some (x, t)).bind m__law_meet)) (f := fun (x11 : Int) => (some (x9, x11))) (i := 14) d.toCok (xi_eq (xi_range2 d.toCok (xe_op2 op_add o_add (xe_var d.toCok 5 rfl rfl (.inr (.inl rfl))) xe_int) (xe_lenR d.toCok (xr_of (xe_var d.toCok 3 rfl rfl (.inr (.inl rfl)))) rfl T.b_len) rfl T.b_range) rfl) rfl rfl rfl rfl rfl d.hfx (fun X c x11 => xts_one (xt_eq (xt_val (xe_call c (c__law_meet T) (by decide) rfl (xa_cons (xe_var c 2 rfl rfl (.inr (.inl rfl))) (xa_cons (xe_ix (xr_of (xe_var c 3 rfl rfl (.inr (.inl rfl)))) (xe_var c 5 rfl rfl (.inr (.inl rfl)))) (xa_cons (xe_ix (xr_of (xe_var c 3 rfl rfl (.inr (.inl rfl)))) (xe_var c 14 rfl rfl (.inl rfl))) xa_nil))))) rfl)) (fun X c x11 => (xe_eq (xe_tup2 (xe_var c 5 rfl rfl (.inr (.inl rfl))) (xe_var c 14 rfl rfl (.inl rfl))) rfl)))))) rfl) rfl (.inl rfl)) (fun z10 => (xp_end [(5, false)] z10 rfl))))) rfl) (fun s8 => (xb_seq (S1 := Unit) (sto1 := (fun (_ : Unit) => [ow (z : OZ), vl (a.1 : WebD), vl (a.2.1 : (T3 (List Tt) (List Tt) (List (Tt × Tt)))), vl (z2 : (List Tt)), vl (s8 : (List (Int × Int))), .dead, .dead, .dead, .dead, vl (z1.c : (List (Tt × Tt))), .dead, .dead, .dead, .dead, .dead, .dead])) (xb_if (S := Unit) (sto := (fun (_ : Unit) => [ow (z : OZ), vl (a.1 : WebD), vl (a.2.1 : (T3 (List Tt) (List Tt) (List (Tt × Tt)))), vl (z2 : (List Tt)), vl (s8 : (List (Int × Int))), .dead, .dead, .dead, .dead, vl (z1.c : (List (Tt × Tt))), .dead, .dead, .dead, .dead, .dead, .dead])) (xt_eq (xt_ofC (xc_neD d.toCok (xe_ofN (xn_meth0 d.toCok T.wb (c_Web_edges T) (by decide) (xe_var d.toCok 1 rfl rfl (.inl rfl)))) (xe_var d.toCok 4 rfl rfl (.inl rfl)))) rfl) (xb_one (xb_retF (sto1 := (fun (q : OZ) => [ow (q : OZ), vl (a.1 : WebD), vl (a.2.1 : (T3 (List Tt) (List Tt) (List (Tt × Tt)))), vl (z2 : (List Tt)), vl (s8 : (List (Int × Int))), .dead, .dead, .dead, .dead, vl (z1.c : (List (Tt × Tt))), .dead, .dead, .dead, .dead, .dead, .dead])) (c := fun q => q) (xf_eq (xf_of (sto := (fun (q : OZ) => [ow (q : OZ), vl (a.1 : WebD), vl (a.2.1 : (T3 (List Tt) (List Tt) (List (Tt × Tt)))), vl (z2 : (List Tt)), vl (s8 : (List (Int × Int))), .dead, .dead, .dead, .dead, vl (z1.c : (List (Tt × Tt))), .dead, .dead, .dead, .dead, .dead, .dead])) xe_bl) rfl) [(1, false), (2, false), (3, false), (4, false), (9, false)] (fun _ => rfl) rfl)) (xb_end [] () rfl)) (fun _ => (xb_seq (S1 := OZ) (sto1 := (fun (s17 : OZ) => [ow (s17 : OZ), vl (a.1 : WebD), vl (a.2.1 : (T3 (List Tt) (List Tt) (List (Tt × Tt)))), vl (z2 : (List Tt)), .dead, .dead, .dead, .dead, .dead, vl (z1.c : (List (Tt × Tt))), .dead, .dead, .dead, .dead, .dead, .dead])) (xb1_pre [(4, false)] (xb_for (S := OZ) (sto := (fun (s17 : OZ) => [ow (s17 : OZ), vl (a.1 : WebD), vl (a.2.1 : (T3 (List Tt) (List Tt) (List (Tt × Tt)))), vl (z2 : (List Tt)), .dead, .dead, .dead, .dead, .dead, vl (z1.c : (List (Tt × Tt))), .dead, .dead, .dead, .dead, .dead, .dead])) d z (xi_eq (xi_range1 d.toCok (xe_op2 op_mul o_mul xe_int (xe_intB d.toCok (xe_ofC (xc_neD d.toCok (xe_var d.toCok 3 rfl rfl (.inr (.inl rfl))) (xe_ofN (xn_list (α := Tt) xl_nil)))) rfl T.b_int)) rfl T.b_range) rfl) (fun B d => xg_name d 6 rfl (.inl rfl)) (fun B d s17 x18 => (xb_pseq (sto1 := fun (z19 : (Tt × OZ)) => [ow (z19.2 : OZ), vl (a.1 : WebD), vl (a.2.1 : (T3 (List Tt) (List Tt) (List (Tt × Tt)))), vl (z2 : (List Tt)), .dead, .dead, vl (x18 : Int), .dead, .dead, vl (z1.c : (List (Tt × Tt))), vl (z19.1 : Tt), .dead, .dead, .dead, .dead, .dead]) (xp_setF d 10 (sto := (fun (q : OZ) => [ow (q : OZ), vl (a.1 : WebD), vl (a.2.1 : (T3 (List Tt) (List Tt) (List (Tt × Tt)))), vl (z2 : (List Tt)), .dead, .dead, vl (x18 : Int), .dead, .dead, vl (z1.c : (List (Tt × Tt))), .dead, .dead, .dead, .dead, .dead, .dead])) (xf_eq (xf_ix (sto := (fun (q : OZ) => [ow (q : OZ), vl (a.1 : WebD), vl (a.2.1 : (T3 (List Tt) (List Tt) (List (Tt × Tt)))), vl (z2 : (List Tt)), .dead, .dead, vl (x18 : Int), .dead, .dead, vl (z1.c : (List (Tt × Tt))), .dead, .dead, .dead, .dead, .dead, .dead])) (sto1 := (fun (q : OZ) => [ow (q : OZ), vl (a.1 : WebD), vl (a.2.1 : (T3 (List Tt) (List Tt) (List (Tt × Tt)))), vl (z2 : (List Tt)), .dead, .dead, vl (x18 : Int), .dead, .dead, vl (z1.c : (List (Tt × Tt))), .dead, .dead, .dead, .dead, .dead, .dead])) (xf_of (sto := (fun (q : OZ) => [ow (q : OZ), vl (a.1 : WebD), vl (a.2.1 : (T3 (List Tt) (List Tt) (List (Tt × Tt)))), vl (z2 : (List Tt)), .dead, .dead, vl (x18 : Int), .dead, .dead, vl (z1.c : (List (Tt × Tt))), .dead, .dead, .dead, .dead, .dead, .dead])) (xe_var d.toCok 3 rfl rfl (.inr (.inl rfl)))) (fun q25 => (xf_callZ (stz := (fun (q : OZ) => [ow (q : OZ), vl (a.1 : WebD), vl (a.2.1 : (T3 (List Tt) (List Tt) (List (Tt × Tt)))), vl (z2 : (List Tt)), .dead, .dead, vl (x18 : Int), .dead, .dead, vl (z1.c : (List (Tt × Tt))), .dead, .dead, .dead, .dead, .dead, .dead])) d.toCok 0 (c__law_take T) (by decide) rfl (fun _ => rfl) (fun _ _ => rfl) rfl (.inl rfl) (xaf_cons (sto := (fun (q : OZ) => [ow (q : OZ), vl (a.1 : WebD), vl (a.2.1 : (T3 (List Tt) (List Tt) (List (Tt × Tt)))), vl (z2 : (List Tt)), .dead, .dead, vl (x18 : Int), .dead, .dead, vl (z1.c : (List (Tt × Tt))), .dead, .dead, .dead, .dead, .dead, .dead])) (sto1 := (fun (q : OZ) => [ow (q : OZ), vl (a.1 : WebD), vl (a.2.1 : (T3 (List Tt) (List Tt) (List (Tt × Tt)))), vl (z2 : (List Tt)), .dead, .dead, vl (x18 : Int), .dead, .dead, vl (z1.c : (List (Tt × Tt))), .dead, .dead, .dead, .dead, .dead, .dead])) (xf_of (sto := (fun (q : OZ) => [ow (q : OZ), vl (a.1 : WebD), vl (a.2.1 : (T3 (List Tt) (List Tt) (List (Tt × Tt)))), vl (z2 : (List Tt)), .dead, .dead, vl (x18 : Int), .dead, .dead, vl (z1.c : (List (Tt × Tt))), .dead, .dead, .dead, .dead, .dead, .dead])) (xe_lenR d.toCok (xr_of (xe_var d.toCok 3 rfl rfl (.inr (.inl rfl)))) rfl T.b_len)) (fun q26 => (xaf_nil (sto := (fun (q : OZ) => [ow (q : OZ), vl (a.1 : WebD), vl (a.2.1 : (T3 (List Tt) (List Tt) (List (Tt × Tt)))), vl (z2 : (List Tt)), .dead, .dead, vl (x18 : Int), .dead, .dead, vl (z1.c : (List (Tt × Tt))), .dead, .dead, .dead, .dead, .dead, .dead])))))))) rfl) rfl (.inl rfl)) (fun z19 => (xb_pseq (sto1 := fun (z27 : (Tt × OZ)) => [ow (z27.2 : OZ), vl (a.1 : WebD), vl (a.2.1 : (T3 (List Tt) (List Tt) (List (Tt × Tt)))), vl (z2 : (List Tt)), .dead, .dead, vl (x18 : Int), .dead, .dead, vl (z1.c : (List (Tt × Tt))), vl (z19.1 : Tt), vl (z27.1 : Tt), .dead, .dead, .dead, .dead]) (xp_setF d 11 (sto := (fun (q : OZ) => [ow (q : OZ), vl (a.1 : WebD), vl (a.2.1 : (T3 (List Tt) (List Tt) (List (Tt × Tt)))), vl (z2 : (List Tt)), .dead, .dead, vl (x18 : Int), .dead, .dead, vl (z1.c : (List (Tt × Tt))), vl (z19.1 : Tt), .dead, .dead, .dead, .dead, .dead])) (xf_eq (xf_ix (sto := (fun (q : OZ) => [ow (q : OZ), vl (a.1 : WebD), vl (a.2.1 : (T3 (List Tt) (List Tt) (List (Tt × Tt)))), vl (z2 : (List Tt)), .dead, .dead, vl (x18 : Int), .dead, .dead, vl (z1.c : (List (Tt × Tt))), vl (z19.1 : Tt), .dead, .dead, .dead, .dead, .dead])) (sto1 := (fun (q : OZ) => [ow (q : OZ), vl (a.1 : WebD), vl (a.2.1 : (T3 (List Tt) (List Tt) (List (Tt × Tt)))), vl (z2 : (List Tt)), .dead, .dead, vl (x18 : Int), .dead, .dead, vl (z1.c : (List (Tt × Tt))), vl (z19.1 : Tt), .dead, .dead, .dead, .dead, .dead])) (xf_of (sto := (fun (q : OZ) => [ow (q : OZ), vl (a.1 : WebD), vl (a.2.1 : (T3 (List Tt) (List Tt) (List (Tt × Tt)))), vl (z2 : (List Tt)), .dead, .dead, vl (x18 : Int), .dead, .dead, vl (z1.c : (List (Tt × Tt))), vl (z19.1 : Tt), .dead, .dead, .dead, .dead, .dead])) (xe_var d.toCok 3 rfl rfl (.inr (.inl rfl)))) (fun q33 => (xf_callZ (stz := (fun (q : OZ) => [ow (q : OZ), vl (a.1 : WebD), vl (a.2.1 : (T3 (List Tt) (List Tt) (List (Tt × Tt)))), vl (z2 : (List Tt)), .dead, .dead, vl (x18 : Int), .dead, .dead, vl (z1.c : (List (Tt × Tt))), vl (z19.1 : Tt), .dead, .dead, .dead, .dead, .dead])) d.toCok 0 (c__law_take T) (by decide) rfl (fun _ => rfl) (fun _ _ => rfl) rfl (.inl rfl) (xaf_cons (sto := (fun (q : OZ) => [ow (q : OZ), vl (a.1 : WebD), vl (a.2.1 : (T3 (List Tt) (List Tt) (List (Tt × Tt)))), vl (z2 : (List Tt)), .dead, .dead, vl (x18 : Int), .dead, .dead, vl (z1.c : (List (Tt × Tt))), vl (z19.1 : Tt), .dead, .dead, .dead, .dead, .dead])) (sto1 := (fun (q : OZ) => [ow (q : OZ), vl (a.1 : WebD), vl (a.2.1 : (T3 (List Tt) (List Tt) (List (Tt × Tt)))), vl (z2 : (List Tt)), .dead, .dead, vl (x18 : Int), .dead, .dead, vl (z1.c : (List (Tt × Tt))), vl (z19.1 : Tt), .dead, .dead, .dead, .dead, .dead])) (xf_of (sto := (fun (q : OZ) => [ow (q : OZ), vl (a.1 : WebD), vl (a.2.1 : (T3 (List Tt) (List Tt) (List (Tt × Tt)))), vl (z2 : (List Tt)), .dead, .dead, vl (x18 : Int), .dead, .dead, vl (z1.c : (List (Tt × Tt))), vl (z19.1 : Tt), .dead, .dead, .dead, .dead, .dead])) (xe_lenR d.toCok (xr_of (xe_var d.toCok 3 rfl rfl (.inr (.inl rfl)))) rfl T.b_len)) (fun q34 => (xaf_nil (sto := (fun (q : OZ) => [ow (q : OZ), vl (a.1 : WebD), vl (a.2.1 : (T3 (List Tt) (List Tt) (List (Tt × Tt)))), vl (z2 : (List Tt)), .dead, .dead, vl (x18 : Int), .dead, .dead, vl (z1.c : (List (Tt × Tt))), vl (z19.1 : Tt), .dead, .dead, .dead, .dead, .dead])))))))) rfl) rfl (.inl rfl)) (fun z27 => (xb_pseq (sto1 := fun (z35 : (List Bool)) => [ow (z27.2 : OZ), vl (a.1 : WebD), vl (a.2.1 : (T3 (List Tt) (List Tt) (List (Tt × Tt)))), vl (z2 : (List Tt)), .dead, .dead, vl (x18 : Int), .dead, .dead, vl (z1.c : (List (Tt × Tt))), vl (z19.1 : Tt), vl (z27.1 : Tt), ow (OL.mk (z35 : (List Bool))), .dead, .dead, .dead]) (xp_setN d 12 (xn_eq (xn_list (xl_cons (xe_meth d.toCok T.wb (c_Web_does_suit T) (by decide) (xe_var d.toCok 1 rfl rfl (.inl rfl)) (xa_cons (xe_var d.toCok 10 rfl rfl (.inl rfl)) (xa_cons (xe_var d.toCok 11 rfl rfl (.inl rfl)) xa_nil))) (xl_cons (xe_meth d.toCok T.wb (c_Web_does_suit T) (by decide) (xe_var d.toCok 1 rfl rfl (.inl rfl)) (xa_cons (xe_var d.toCok 11 rfl rfl (.inl rfl)) (xa_cons (xe_var d.toCok 10 rfl rfl (.inl rfl)) xa_nil))) xl_nil))) rfl) rfl (.inl rfl)) (fun z35 => (xb_pseq (sto1 := fun (z36 : (List Bool)) => [ow (z27.2 : OZ), vl (a.1 : WebD), vl (a.2.1 : (T3 (List Tt) (List Tt) (List (Tt × Tt)))), vl (z2 : (List Tt)), .dead, .dead, vl (x18 : Int), .dead, .dead, vl (z1.c : (List (Tt × Tt))), vl (z19.1 : Tt), vl (z27.1 : Tt), ow (OL.mk (z35 : (List Bool))), ow (OL.mk (z36 : (List Bool))), .dead, .dead]) (xp_setN d 13 (xn_eq (xn_list (xl_cons (xe_ofC (xc_deepIn d.toCok (xe_tup2 (xe_var d.toCok 10 rfl rfl (.inl rfl)) (xe_var d.toCok 11 rfl rfl (.inl rfl))) (xr_of (xe_var d.toCok 9 rfl rfl (.inl rfl))))) (xl_cons (xe_ofC (xc_deepIn d.toCok (xe_tup2 (xe_var d.toCok 11 rfl rfl (.inl rfl)) (xe_var d.toCok 10 rfl rfl (.inl rfl))) (xr_of (xe_var d.toCok 9 rfl rfl (.inl rfl))))) xl_nil))) rfl) rfl (.inl rfl)) (fun z36 => (xb_pseq (S1 := (List Bool) × (List Bool)) (sto1 := (fun (s37 : (List Bool) × (List Bool)) => [ow (z27.2 : OZ), vl (a.1 : WebD), vl (a.2.1 : (T3 (List Tt) (List Tt) (List (Tt × Tt)))), vl (z2 : (List Tt)), .dead, .dead, vl (x18 : Int), .dead, .dead, vl (z1.c : (List (Tt × Tt))), vl (z19.1 : Tt), vl (z27.1 : Tt), ow (OL.mk (s37.1 : (List Bool))), ow (OL.mk (s37.2 : (List Bool))), .dead, .dead])) (xp_if (S := (List Bool) × (List Bool)) (sto := (fun (s37 : (List Bool) × (List Bool)) => [ow (z27.2 : OZ), vl (a.1 : WebD), vl (a.2.1 : (T3 (List Tt) (List Tt) (List (Tt × Tt)))), vl (z2 : (List Tt)), .dead, .dead, vl (x18 : Int), .dead, .dead, vl (z1.c : (List (Tt × Tt))), vl (z19.1 : Tt), vl (z27.1 : Tt), ow (OL.mk (s37.1 : (List Bool))), ow (OL.mk (s37.2 : (List Bool))), .dead, .dead])) (xt_eq (xt_ofC (xc_op2 op_ne o_neS (xe_var d.toCok 10 rfl rfl (.inl rfl)) (xe_var d.toCok 11 rfl rfl (.inl rfl)))) rfl) (xp_seq (sto1 := fun (z38 : (List Bool)) => [ow (z27.2 : OZ), vl (a.1 : WebD), vl (a.2.1 : (T3 (List Tt) (List Tt) (List (Tt × Tt)))), vl (z2 : (List Tt)), .dead, .dead, vl (x18 : Int), .dead, .dead, vl (z1.c : (List (Tt × Tt))), vl (z19.1 : Tt), vl (z27.1 : Tt), ow (OL.mk (z38 : (List Bool))), ow (OL.mk (z36 : (List Bool))), .dead, .dead]) (xp1_eq (xp_append d 12 rfl rfl (.inl rfl) (xe_meth d.toCok T.wb (c_Web_may_meet T) (by decide) (xe_var d.toCok 1 rfl rfl (.inl rfl)) (xa_cons (xe_var d.toCok 10 rfl rfl (.inl rfl)) (xa_cons (xe_var d.toCok 11 rfl rfl (.inl rfl)) xa_nil)))) rfl) (fun z38 => (xp_seq (sto1 := fun (z40 : (List Bool)) => [ow (z27.2 : OZ), vl (a.1 : WebD), vl (a.2.1 : (T3 (List Tt) (List Tt) (List (Tt × Tt)))), vl (z2 : (List Tt)), .dead, .dead, vl (x18 : Int), .dead, .dead, vl (z1.c : (List (Tt × Tt))), vl (z19.1 : Tt), vl (z27.1 : Tt), ow (OL.mk (z38 : (List Bool))), ow (OL.mk (z40 : (List Bool))), .dead, .dead]) (xp1_eq (xp_append d 13 rfl rfl (.inl rfl) (xe_call d.toCok (c__law_meet T) (by decide) rfl (xa_cons (xe_var d.toCok 2 rfl rfl (.inr (.inl rfl))) (xa_cons (xe_var d.toCok 10 rfl rfl (.inl rfl)) (xa_cons (xe_var d.toCok 11 rfl rfl (.inl rfl)) xa_nil))))) rfl) (fun z40 => (xp_end [] (z38, z40) rfl))))) (xp_end [] (z35, z36) rfl)) (fun s37 => (xb_pre [(12, true)] (xb_seq (S1 := Unit) (sto1 := (fun (_ : Unit) => [ow (z27.2 : OZ), vl (a.1 : WebD), vl (a.2.1 : (T3 (List Tt) (List Tt) (List (Tt × Tt)))), vl (z2 : (List Tt)), .dead, .dead, vl (x18 : Int), .dead, .dead, vl (z1.c : (List (Tt × Tt))), vl (z19.1 : Tt), vl (z27.1 : Tt), vl (s37.1 : (List Bool)), ow (OL.mk (s37.2 : (List Bool))), .dead, .dead])) (xb_if (S := Unit) (sto := (fun (_ : Unit) => [ow (z27.2 : OZ), vl (a.1 : WebD), vl (a.2.1 : (T3 (List Tt) (List Tt) (List (Tt × Tt)))), vl (z2 : (List Tt)), .dead, .dead, vl (x18 : Int), .dead, .dead, vl (z1.c : (List (Tt × Tt))), vl (z19.1 : Tt), vl (z27.1 : Tt), vl (s37.1 : (List Bool)), ow (OL.mk (s37.2 : (List Bool))), .dead, .dead])) (xt_eq (xt_w (xw_or (xt_ofC (xc_neR d.toCok (xr_of (xe_var d.toCok 12 rfl rfl (.inl rfl))) (xr_own d.toCok 13 rfl rfl (.inl rfl)))) (xw_or1 (xt_ofC (xc_neD d.toCok (xe_ofN (xn_lc (t := fun (x42 : Bool) => (some (!true))) (f := fun (x42 : Bool) => (some x42)) (i := 15) d.toCok (xi_eq (xi_list (xe_var d.toCok 12 rfl rfl (.inl rfl))) rfl) rfl rfl rfl rfl rfl d.hfx (fun X c x42 => xts_one (xt_eq (xt_not (xt_val (xe_isi (T := "bool") (r := true) c (xe_var c 15 rfl rfl (.inl rfl)) rfl T.b_isinstance rfl T.b_bool (by decide +kernel) (by decide +kernel)))) rfl)) (fun X c x42 => (xe_eq (xe_var c 15 rfl rfl (.inl rfl)) rfl)))) (xe_ofN (xn_list (α := Bool) xl_nil))))))) rfl) (xb_one (xb_retF (sto1 := (fun (q : OZ) => [ow (q : OZ), vl (a.1 : WebD), vl (a.2.1 : (T3 (List Tt) (List Tt) (List (Tt × Tt)))), vl (z2 : (List Tt)), .dead, .dead, vl (x18 : Int), .dead, .dead, vl (z1.c : (List (Tt × Tt))), vl (z19.1 : Tt), vl (z27.1 : Tt), vl (s37.1 : (List Bool)), ow (OL.mk (s37.2 : (List Bool))), .dead, .dead])) (c := fun q => q) (xf_eq (xf_of (sto := (fun (q : OZ) => [ow (q : OZ), vl (a.1 : WebD), vl (a.2.1 : (T3 (List Tt) (List Tt) (List (Tt × Tt)))), vl (z2 : (List Tt)), .dead, .dead, vl (x18 : Int), .dead, .dead, vl (z1.c : (List (Tt × Tt))), vl (z19.1 : Tt), vl (z27.1 : Tt), vl (s37.1 : (List Bool)), ow (OL.mk (s37.2 : (List Bool))), .dead, .dead])) xe_bl) rfl) [(1, false), (2, false), (3, false), (6, false), (9, false), (10, false), (11, false), (12, false), (13, false)] (fun _ => rfl) rfl)) (xb_end [] () rfl)) (fun _ => (xb_end [(6, false), (10, false), (11, false), (12, false), (13, false)] z27.2 rfl))) rfl))))))))))))) rfl) (fun s17 => (xb_one (xb_retF (sto1 := (fun (q : OZ) => [ow (q : OZ), vl (a.1 : WebD), vl (a.2.1 : (T3 (List Tt) (List Tt) (List (Tt × Tt)))), vl (z2 : (List Tt)), .dead, .dead, .dead, .dead, .dead, vl (z1.c : (List (Tt × Tt))), .dead, .dead, .dead, .dead, .dead, .dead])) (c := fun q => q) (xf_eq (xf_of (sto := (fun (q : OZ) => [ow (q : OZ), vl (a.1 : WebD), vl (a.2.1 : (T3 (List Tt) (List Tt) (List (Tt × Tt)))), vl (z2 : (List Tt)), .dead, .dead, .dead, .dead, .dead, vl (z1.c : (List (Tt × Tt))), .dead, .dead, .dead, .dead, .dead, .dead])) xe_bl) rfl) [(1, false), (2, false), (3, false), (9, false)] (fun _ => rfl) rfl))))))))))))))))
abbrev s_require : Stmt := top 14
theorem sc_require : FnScope ["good", "line"] ["good", "line"] (defScope s_require) := ⟨rfl, rfl, rfl, by decide +kernel, rfl, by decide +kernel, by decide +kernel⟩
def mb_require (a : Bool × Int × Unit) : Option (Fl Unit Empty Unit Unit) :=
  flb ((some (!a.1)).bind fun t => if t = true then
  none
 else
  (some (Fl.nx ()))) fun _ =>
  (some (Fl.nx ()))
def m_require (a : Bool × Int × Unit) : Option Unit := (mb_require a).bind (retP (fun _ => ()))
theorem c_require {Γ : Gm} (T : Tx Γ) : Cal Γ "require" 1 false m_require := by
  refine cal_of (k := 0) (τ := Bool × Int × Unit) T.d_require sc_require (S := Unit) (sto := (fun _ => deads 2)) (m := mb_require) (fun _ => ()) (fun _ _ => rfl) rfl (fun X B a d => ?_) m_require fun _ => rfl
  exact (xb_seq (S1 := Unit) (sto1 := (fun (_ : Unit) => [vl (a.1 : Bool), vl (a.2.1 : Int)])) (xb_if (S := Unit) (sto := (fun (_ : Unit) => [vl (a.1 : Bool), vl (a.2.1 : Int)])) (xt_eq (xt_not (xt_val (xe_var d.toCok 0 rfl rfl (.inl rfl)))) rfl) (xb_one xb_none) (xb_end [] () rfl)) (fun _ => (xb_end [(0, false), (1, false)] () rfl)))
abbrev s_words_of : Stmt := top 16
theorem sc_words_of : FnScope ["line", "number", "words", "word"] ["line", "number"] (defScope s_words_of) := ⟨rfl, rfl, rfl, by decide +kernel, rfl, by decide +kernel, by decide +kernel⟩
def mb_words_of (a : Tt × Int × Unit) : Option (Fl Empty Empty (List Tt) Unit) :=
  (ssplit a.1 (Tt.mk " " (by decide +kernel))).bind fun (z1 : (List Tt)) =>
  (((b2 ((andM ((atI z1 (0 : Int)).bind fun w2 => some (tget [("pair", 2), ("giver", 2), ("suits", 3)] w2).isSome) (((atI z1 (0 : Int)).bind fun w3 => tget [("pair", 2), ("giver", 2), ("suits", 3)] w3).bind fun w4 => some (decide (((z1).length : Int) = w4))))) (b2 (some a.2.1) (some ()) fun x t => some (x, t)) fun x t => some (x, t)).bind m_require).bind fun _ => some ()).bind fun _ =>
  (((b2 ((lcB (fun (x5 : Tt) => (some true)) (fun (x5 : Tt) => ((b2 (some x5) (some ()) fun x t => some (x, t)).bind m_is_name)) (cut z1 (some (1 : Int)) none)).bind fun w6 => some (List.all w6 id)) (b2 (some a.2.1) (some ()) fun x t => some (x, t)) fun x t => some (x, t)).bind m_require).bind fun _ => some ()).bind fun _ =>
  (some z1).bind fun b => some (Fl.ret b ())
def m_words_of (a : Tt × Int × Unit) : Option (List Tt) := (mb_words_of a).bind (retP Empty.elim)
theorem c_words_of {Γ : Gm} (T : Tx Γ) : Cal Γ "words_of" 2 false m_words_of := by
  refine cal_of (k := 1) (τ := Tt × Int × Unit) T.d_words_of sc_words_of (S := Empty) (sto := (fun s => s.elim)) (m := mb_words_of) Empty.elim (fun s => s.elim) rfl (fun X B a d => ?_) m_words_of fun _ => rfl
  exact (xb_pseq (sto1 := fun (z1 : (List Tt)) => [vl (a.1 : Tt), vl (a.2.1 : Int), vl (z1 : (List Tt)), .dead]) (xp_set d 2 (xe_eq (xe_ofN (xn_split (xe_var d.toCok 0 rfl rfl (.inl rfl)) xe_str)) rfl) rfl (.inl rfl)) (fun z1 => (xb_pseq (sto1 := fun _ => [vl (a.1 : Tt), vl (a.2.1 : Int), vl (z1 : (List Tt)), .dead]) (xp1_eq (xp_doE d (xe_call d.toCok (c_require T) (by decide) rfl (xa_cons (xe_and (xe_ofC (xc_inG d.toCok T.t_COUNTS (xe_ix (xr_of (xe_var d.toCok 2 rfl rfl (.inl rfl))) xe_int) rfl)) (xe_and1 (xe_ofC (xc_op2 op_eq o_eqI (xe_lenR d.toCok (xr_of (xe_var d.toCok 2 rfl rfl (.inl rfl))) rfl T.b_len) (xe_ixG d.toCok T.t_COUNTS (xe_ix (xr_of (xe_var d.toCok 2 rfl rfl (.inl rfl))) xe_int) rfl))))) (xa_cons (xe_var d.toCok 1 rfl rfl (.inl rfl)) xa_nil)))) rfl) (fun _ => (xb_pseq (sto1 := fun _ => [vl (a.1 : Tt), vl (a.2.1 : Int), vl (z1 : (List Tt)), .dead]) (xp1_eq (xp_doE d (xe_call d.toCok (c_require T) (by decide) rfl (xa_cons (xe_all d.toCok (xr_ofN (xn_lc (t := fun (x5 : Tt) => (some true)) (f := fun (x5 : Tt) => ((b2 (some x5) (some ()) fun x t => some (x, t)).bind m_is_name)) (i := 3) d.toCok (xi_eq (xi_list (xe_ofN (xn_slice (xr_of (xe_var d.toCok 2 rfl rfl (.inl rfl))) (xo_some xe_int) xo_none))) rfl) rfl rfl rfl rfl rfl d.hfx (fun X c a => xts_nil (fun _ => _) a) (fun X c x5 => (xe_eq (xe_call c (c_is_name T) (by decide) rfl (xa_cons (xe_var c 3 rfl rfl (.inl rfl)) xa_nil)) rfl)))) rfl T.b_all) (xa_cons (xe_var d.toCok 1 rfl rfl (.inl rfl)) xa_nil)))) rfl) (fun _ => (xb_one (xb_ret (c := ()) (xe_eq (xe_var d.toCok 2 rfl rfl (.inl rfl)) rfl) rfl [(0, false), (1, false), (2, false)] rfl rfl))))))))
abbrev s_parse_web : Stmt := top 17
theorem sc_parse_web : FnScope ["text", "lines", "pairs", "givers", "suits", "number", "line", "words", "suit"] ["text"] (defScope s_parse_web) := ⟨rfl, rfl, rfl, by decide +kernel, rfl, by decide +kernel, by decide +kernel⟩
def mb_parse_web (a : Tt × Unit) : Option (Fl Empty Empty WebD Unit) :=
  (ssplit a.1 (Tt.mk "\n" (by decide +kernel))).bind fun (z1 : (List Tt)) =>
  (((b2 ((atI z1 (-(1 : Int))).bind fun w2 => some (decide (w2 = (Tt.mk "" (by decide +kernel))))) (b2 (some ((z1).length : Int)) (some ()) fun x t => some (x, t)) fun x t => some (x, t)).bind m_require).bind fun _ => some ()).bind fun _ =>
  (some ([] : (List Tt))).bind fun (z3 : (List Tt)) =>
  (some ([] : (List Tt))).bind fun (z4 : (List Tt)) =>
  (some ([] : (List (Tt × Tt)))).bind fun (z5 : (List (Tt × Tt))) =>
  ((some (enumFL 1 (cut z1 none (some (-(1 : Int)))))).bind fun xs => forP (fun (s6 : (List Tt) × (List Tt) × (List (Tt × Tt))) (x7 : (Int × Tt)) =>
  ((b2 (some x7.2) (b2 (some x7.1) (some ()) fun x t => some (x, t)) fun x t => some (x, t)).bind m_words_of).bind fun (z8 : (List Tt)) =>
  (((atI z8 (0 : Int)).bind fun w9 => some (decide (w9 = (Tt.mk "pair" (by decide +kernel))))).bind fun t => if t = true then
  (((b2 ((andM (some (List.isEmpty s6.2.1)) (some (List.isEmpty s6.2.2)))) (b2 (some x7.1) (some ()) fun x t => some (x, t)) fun x t => some (x, t)).bind m_require).bind fun _ => some ()).bind fun _ =>
  ((atI z8 (1 : Int)).bind fun w12 => push s6.1 w12).bind fun (z11 : (List Tt)) =>
  (some (z11, s6.2.1, s6.2.2))
 else
  (((atI z8 (0 : Int)).bind fun w13 => some (decide (w13 = (Tt.mk "giver" (by decide +kernel))))).bind fun t => if t = true then
  (((b2 ((andM (some (List.isEmpty s6.2.2)) ((orM (some (List.isEmpty s6.2.1)) ((atI s6.2.1 (-(1 : Int))).bind fun w15 => (atI z8 (1 : Int)).bind fun w16 => some (decide (cps w15 < cps w16))))))) (b2 (some x7.1) (some ()) fun x t => some (x, t)) fun x t => some (x, t)).bind m_require).bind fun _ => some ()).bind fun _ =>
  ((atI z8 (1 : Int)).bind fun w18 => push s6.2.1 w18).bind fun (z17 : (List Tt)) =>
  (some (z17, s6.2.2))
 else
  ((atI z8 (1 : Int)).bind fun w20 => (atI z8 (2 : Int)).bind fun w21 => some (w20, w21)).bind fun (z19 : (Tt × Tt)) =>
  (((b2 ((orM (some (List.isEmpty s6.2.2)) ((atI s6.2.2 (-(1 : Int))).bind fun w22 => some (TP.lexT (tS w22) (tS z19))))) (b2 (some x7.1) (some ()) fun x t => some (x, t)) fun x t => some (x, t)).bind m_require).bind fun _ => some ()).bind fun _ =>
  (push s6.2.2 z19).bind fun (z23 : (List (Tt × Tt))) =>
  (some (s6.2.1, z23))).bind fun (s14 : (List Tt) × (List (Tt × Tt))) =>
  (some (s6.1, s14.1, s14.2))).bind fun (s10 : (List Tt) × (List Tt) × (List (Tt × Tt))) =>
  (some (s10.1, s10.2.1, s10.2.2))) (z3, z4, z5) xs).bind fun (s6 : (List Tt) × (List Tt) × (List (Tt × Tt))) =>
  ((b2 (some s6.1) (b2 (some s6.2.1) (b2 (some s6.2.2) (some ()) fun x t => some (x, t)) fun x t => some (x, t)) fun x t => some (x, t)).bind (fun t => (m_Web___init__ t).bind okOf)).bind fun b => some (Fl.ret b ())
def m_parse_web (a : Tt × Unit) : Option WebD := (mb_parse_web a).bind (retP Empty.elim)
theorem c_parse_web {Γ : Gm} (T : Tx Γ) : Cal Γ "parse_web" 4 false m_parse_web := by
  refine cal_of (k := 3) (τ := Tt × Unit) T.d_parse_web sc_parse_web (S := Empty) (sto := (fun s => s.elim)) (m := mb_parse_web) Empty.elim (fun s => s.elim) rfl (fun X B a d => ?_) m_parse_web fun _ => rfl
  exact (xb_pseq (sto1 := fun (z1 : (List Tt)) => [vl (a.1 : Tt), vl (z1 : (List Tt)), .dead, .dead, .dead, .dead, .dead, .dead, .dead]) (xp_set d 1 (xe_eq (xe_ofN (xn_split (xe_var d.toCok 0 rfl rfl (.inl rfl)) xe_str)) rfl) rfl (.inl rfl)) (fun z1 => (xb_pseq (sto1 := fun _ => [vl (a.1 : Tt), vl (z1 : (List Tt)), .dead, .dead, .dead, .dead, .dead, .dead, .dead]) (xp1_eq (xp_doE d (xe_call d.toCok (c_require T) (by decide) rfl (xa_cons (xe_ofC (xc_op2 op_eq o_eqS (xe_ix (xr_of (xe_var d.toCok 1 rfl rfl (.inl rfl))) (xe_neg xe_int)) xe_str)) (xa_cons (xe_lenR d.toCok (xr_of (xe_var d.toCok 1 rfl rfl (.inl rfl))) rfl T.b_len) xa_nil)))) rfl) (fun _ => (xb_pseq (sto1 := fun (z3 : (List Tt)) => [vl (a.1 : Tt), vl (z1 : (List Tt)), ow (OL.mk (z3 : (List Tt))), .dead, .dead, .dead, .dead, .dead, .dead]) (xp_setN d 2 (xn_eq (xn_list (α := Tt) xl_nil) rfl) rfl (.inl rfl)) (fun z3 => (xb_pseq (sto1 := fun (z4 : (List Tt)) => [vl (a.1 : Tt), vl (z1 : (List Tt)), ow (OL.mk (z3 : (List Tt))), ow (OL.mk (z4 : (List Tt))), .dead, .dead, .dead, .dead, .dead]) (xp_setN d 3 (xn_eq (xn_list (α := Tt) xl_nil) rfl) rfl (.inl rfl)) (fun z4 => (xb_pseq (sto1 := fun (z5 : (List (Tt × Tt))) => [vl (a.1 : Tt), vl (z1 : (List Tt)), ow (OL.mk (z3 : (List Tt))), ow (OL.mk (z4 : (List Tt))), ow (OL.mk (z5 : (List (Tt × Tt)))), .dead, .dead, .dead, .dead]) (xp_setN d 4 (xn_eq (xn_list (α := (Tt × Tt)) xl_nil) rfl) rfl (.inl rfl)) (fun z5 => (xb_pseq (S1 := (List Tt) × (List Tt) × (List (Tt × Tt))) (sto1 := (fun (s6 : (List Tt) × (List Tt) × (List (Tt × Tt))) => [.dead, vl (z1 : (List Tt)), ow (OL.mk (s6.1 : (List Tt))), ow (OL.mk (s6.2.1 : (List Tt))), ow (OL.mk (s6.2.2 : (List (Tt × Tt)))), .dead, .dead, .dead, .dead])) (xp1_pre [(0, false)] (xp_for (S := (List Tt) × (List Tt) × (List (Tt × Tt))) (sto := (fun (s6 : (List Tt) × (List Tt) × (List (Tt × Tt))) => [.dead, vl (z1 : (List Tt)), ow (OL.mk (s6.1 : (List Tt))), ow (OL.mk (s6.2.1 : (List Tt))), ow (OL.mk (s6.2.2 : (List (Tt × Tt)))), .dead, .dead, .dead, .dead])) d (z3, z4, z5) (xi_eq (xi_enumF d.toCok (xe_ofN (xn_slice (xr_of (xe_var d.toCok 1 rfl rfl (.inl rfl))) xo_none (xo_some (xe_neg xe_int)))) xe_int (by decide) rfl T.b_enumerate) rfl) (fun B d => xg_pair d 5 6 rfl (.inl rfl) rfl (.inl rfl)) (fun B d s6 x7 => (xp_seq (sto1 := fun (z8 : (List Tt)) => [.dead, vl (z1 : (List Tt)), ow (OL.mk (s6.1 : (List Tt))), ow (OL.mk (s6.2.1 : (List Tt))), ow (OL.mk (s6.2.2 : (List (Tt × Tt)))), vl (x7.1 : Int), vl (x7.2 : Tt), vl (z8 : (List Tt)), .dead]) (xp_set d 7 (xe_eq (xe_call d.toCok (c_words_of T) (by decide) rfl (xa_cons (xe_var d.toCok 6 rfl rfl (.inl rfl)) (xa_cons (xe_var d.toCok 5 rfl rfl (.inl rfl)) xa_nil))) rfl) rfl (.inl rfl)) (fun z8 => (xp_seq (S1 := (List Tt) × (List Tt) × (List (Tt × Tt))) (sto1 := (fun (s10 : (List Tt) × (List Tt) × (List (Tt × Tt))) => [.dead, vl (z1 : (List Tt)), ow (OL.mk (s10.1 : (List Tt))), ow (OL.mk (s10.2.1 : (List Tt))), ow (OL.mk (s10.2.2 : (List (Tt × Tt)))), vl (x7.1 : Int), vl (x7.2 : Tt), vl (z8 : (List Tt)), .dead])) (xp_if (S := (List Tt) × (List Tt) × (List (Tt × Tt))) (sto := (fun (s10 : (List Tt) × (List Tt) × (List (Tt × Tt))) => [.dead, vl (z1 : (List Tt)), ow (OL.mk (s10.1 : (List Tt))), ow (OL.mk (s10.2.1 : (List Tt))), ow (OL.mk (s10.2.2 : (List (Tt × Tt)))), vl (x7.1 : Int), vl (x7.2 : Tt), vl (z8 : (List Tt)), .dead])) (xt_eq (xt_ofC (xc_op2 op_eq o_eqS (xe_ix (xr_of (xe_var d.toCok 7 rfl rfl (.inl rfl))) xe_int) xe_str)) rfl) (xp_seq (sto1 := fun _ => [.dead, vl (z1 : (List Tt)), ow (OL.mk (s6.1 : (List Tt))), ow (OL.mk (s6.2.1 : (List Tt))), ow (OL.mk (s6.2.2 : (List (Tt × Tt)))), vl (x7.1 : Int), vl (x7.2 : Tt), vl (z8 : (List Tt)), .dead]) (xp1_eq (xp_doE d (xe_call d.toCok (c_require T) (by decide) rfl (xa_cons (xe_and (xe_notR (xr_own d.toCok 3 rfl rfl (.inl rfl))) (xe_and1 (xe_notR (xr_own d.toCok 4 rfl rfl (.inl rfl))))) (xa_cons (xe_var d.toCok 5 rfl rfl (.inl rfl)) xa_nil)))) rfl) (fun _ => (xp_seq (sto1 := fun (z11 : (List Tt)) => [.dead, vl (z1 : (List Tt)), ow (OL.mk (z11 : (List Tt))), ow (OL.mk (s6.2.1 : (List Tt))), ow (OL.mk (s6.2.2 : (List (Tt × Tt)))), vl (x7.1 : Int), vl (x7.2 : Tt), vl (z8 : (List Tt)), .dead]) (xp1_eq (xp_append d 2 rfl rfl (.inl rfl) (xe_ix (xr_of (xe_var d.toCok 7 rfl rfl (.inl rfl))) xe_int)) rfl) (fun z11 => (xp_end [] (z11, s6.2.1, s6.2.2) rfl))))) (xp_seq (S1 := (List Tt) × (List (Tt × Tt))) (sto1 := (fun (s14 : (List Tt) × (List (Tt × Tt))) => [.dead, vl (z1 : (List Tt)), ow (OL.mk (s6.1 : (List Tt))), ow (OL.mk (s14.1 : (List Tt))), ow (OL.mk (s14.2 : (List (Tt × Tt)))), vl (x7.1 : Int), vl (x7.2 : Tt), vl (z8 : (List Tt)), .dead])) (xp_if (S := (List Tt) × (List (Tt × Tt))) (sto := (fun (s14 : (List Tt) × (List (Tt × Tt))) => [.dead, vl (z1 : (List Tt)), ow (OL.mk (s6.1 : (List Tt))), ow (OL.mk (s14.1 : (List Tt))), ow (OL.mk (s14.2 : (List (Tt × Tt)))), vl (x7.1 : Int), vl (x7.2 : Tt), vl (z8 : (List Tt)), .dead])) (xt_eq (xt_ofC (xc_op2 op_eq o_eqS (xe_ix (xr_of (xe_var d.toCok 7 rfl rfl (.inl rfl))) xe_int) xe_str)) rfl) (xp_seq (sto1 := fun _ => [.dead, vl (z1 : (List Tt)), ow (OL.mk (s6.1 : (List Tt))), ow (OL.mk (s6.2.1 : (List Tt))), ow (OL.mk (s6.2.2 : (List (Tt × Tt)))), vl (x7.1 : Int), vl (x7.2 : Tt), vl (z8 : (List Tt)), .dead]) (xp1_eq (xp_doE d (xe_call d.toCok (c_require T) (by decide) rfl (xa_cons (xe_and (xe_notR (xr_own d.toCok 4 rfl rfl (.inl rfl))) (xe_and1 (xe_or (xe_notR (xr_own d.toCok 3 rfl rfl (.inl rfl))) (xe_and1 (xe_ofC (xc_op2 op_lt_str o_ltS (xe_ix (xr_own d.toCok 3 rfl rfl (.inl rfl)) (xe_neg xe_int)) (xe_ix (xr_of (xe_var d.toCok 7 rfl rfl (.inl rfl))) xe_int))))))) (xa_cons (xe_var d.toCok 5 rfl rfl (.inl rfl)) xa_nil)))) rfl) (fun _ => (xp_seq (sto1 := fun (z17 : (List Tt)) => [.dead, vl (z1 : (List Tt)), ow (OL.mk (s6.1 : (List Tt))), ow (OL.mk (z17 : (List Tt))), ow (OL.mk (s6.2.2 : (List (Tt × Tt)))), vl (x7.1 : Int), vl (x7.2 : Tt), vl (z8 : (List Tt)), .dead]) (xp1_eq (xp_append d 3 rfl rfl (.inl rfl) (xe_ix (xr_of (xe_var d.toCok 7 rfl rfl (.inl rfl))) xe_int)) rfl) (fun z17 => (xp_end [] (z17, s6.2.2) rfl))))) (xp_seq (sto1 := fun (z19 : (Tt × Tt)) => [.dead, vl (z1 : (List Tt)), ow (OL.mk (s6.1 : (List Tt))), ow (OL.mk (s6.2.1 : (List Tt))), ow (OL.mk (s6.2.2 : (List (Tt × Tt)))), vl (x7.1 : Int), vl (x7.2 : Tt), vl (z8 : (List Tt)), vl (z19 : (Tt × Tt))]) (xp_set d 8 (xe_eq (xe_tup2 (xe_ix (xr_of (xe_var d.toCok 7 rfl rfl (.inl rfl))) xe_int) (xe_ix (xr_of (xe_var d.toCok 7 rfl rfl (.inl rfl))) xe_int)) rfl) rfl (.inl rfl)) (fun z19 => (xp_seq (sto1 := fun _ => [.dead, vl (z1 : (List Tt)), ow (OL.mk (s6.1 : (List Tt))), ow (OL.mk (s6.2.1 : (List Tt))), ow (OL.mk (s6.2.2 : (List (Tt × Tt)))), vl (x7.1 : Int), vl (x7.2 : Tt), vl (z8 : (List Tt)), vl (z19 : (Tt × Tt))]) (xp1_eq (xp_doE d (xe_call d.toCok (c_require T) (by decide) rfl (xa_cons (xe_or (xe_notR (xr_own d.toCok 4 rfl rfl (.inl rfl))) (xe_and1 (xe_ofC (xc_op2 (op_ltTT (Nat.lt_of_succ_lt d.toCok.hu)) o_ltTT (xe_ix (xr_own d.toCok 4 rfl rfl (.inl rfl)) (xe_neg xe_int)) (xe_var d.toCok 8 rfl rfl (.inl rfl)))))) (xa_cons (xe_var d.toCok 5 rfl rfl (.inl rfl)) xa_nil)))) rfl) (fun _ => (xp_seq (sto1 := fun (z23 : (List (Tt × Tt))) => [.dead, vl (z1 : (List Tt)), ow (OL.mk (s6.1 : (List Tt))), ow (OL.mk (s6.2.1 : (List Tt))), ow (OL.mk (z23 : (List (Tt × Tt)))), vl (x7.1 : Int), vl (x7.2 : Tt), vl (z8 : (List Tt)), vl (z19 : (Tt × Tt))]) (xp1_eq (xp_append d 4 rfl rfl (.inl rfl) (xe_var d.toCok 8 rfl rfl (.inl rfl))) rfl) (fun z23 => (xp_end [(8, false)] (s6.2.1, z23) rfl)))))))) (fun s14 => (xp_end [] (s6.1, s14.1, s14.2) rfl)))) (fun s10 => (xp_end [(5, false), (6, false), (7, false)] (s10.1, s10.2.1, s10.2.2) rfl))))))) rfl) (fun s6 => (xb_pre [(2, true)] (xb_pre [(3, true)] (xb_pre [(4, true)] (xb_one (xb_ret (c := ()) (xe_eq (xe_make d.toCok (c_Web___init__ T) (by decide) rfl (xa_cons (xe_var d.toCok 2 rfl rfl (.inl rfl)) (xa_cons (xe_var d.toCok 3 rfl rfl (.inl rfl)) (xa_cons (xe_var d.toCok 4 rfl rfl (.inl rfl)) xa_nil)))) rfl) rfl [(1, false), (2, false), (3, false), (4, false)] rfl rfl)) rfl) rfl) rfl)))))))))))))
abbrev s_law : Stmt := top 30
theorem sc_law : FnScope ["_law_script", "_law_state_here", "_law_k", "_law_web", "_law_text_here", "_law_passed", "_law_kept", "_law_made", "_law_again", "_law_one", "_law_pairs", "_law_givers", "_law_suits"] ["_law_script"] (defScope s_law) := ⟨rfl, rfl, rfl, by decide +kernel, rfl, by decide +kernel, by decide +kernel⟩
def mb_law (a : Scr × Unit) : Option (Fl Empty Empty Bool Unit) :=
  ((b2 (some a.1) (some ()) fun x t => some (x, t)).bind m__law_state).bind fun (z1 : OZ) =>
  flb ((prange 0 (2 : Int)).bind fun xs => forF (fun (s2 : OZ) (x3 : Int) =>
  ((((some (11 : Int)).bind fun x => some (x, s2)).bind fun w6 => (((some (5 : Int)).bind fun x => some (x, w6.2)).bind fun w8 => (some ((), w8.2)).bind fun w9 => some ((w8.1, w9.1), w9.2)).bind fun w7 => some ((w6.1, w7.1), w7.2)).bind fun w5 => m__law_drawn w5.1 w5.2).bind fun (z4 : ((T3 (List Tt) (List Tt) (List (Tt × Tt))) × OZ)) =>
  (some z4.1).bind fun (z12 : (T3 (List Tt) (List Tt) (List (Tt × Tt)))) =>
  ((b2 ((b2 (some z4.1) (some ()) fun x t => some (x, t)).bind m__law_lines) (some ()) fun x t => some (x, t)).bind m__law_text).bind fun (z13 : Tt) =>
  (((some z12.a).bind fun x => some (x, z4.2)).bind fun w15 => ((((some z12.b).bind fun x => some (x, w15.2)).bind fun w19 => (some ((), w19.2)).bind fun w20 => some ((w19.1, w20.1), w20.2)).bind fun w18 => m__law_turned w18.1 w18.2).bind fun w16 => ((((some z12.c).bind fun x => some (x, w16.2)).bind fun w22 => (some ((), w22.2)).bind fun w23 => some ((w22.1, w23.1), w23.2)).bind fun w21 => m__law_turnedP w21.1 w21.2).bind fun w17 => some (T3.mk w15.1 w16.1 w17.1, w17.2)).bind fun (z14 : ((T3 (List Tt) (List Tt) (List (Tt × Tt))) × OZ)) =>
  (some (T3.mk (z14.1).a (z14.1).b (z14.1).c)).bind fun (z28 : (T3 (List Tt) (List Tt) (List (Tt × Tt)))) =>
  ((b2 (some (z14.1).a) (b2 (some (z14.1).b) (b2 (some (z14.1).c) (some ()) fun x t => some (x, t)) fun x t => some (x, t)) fun x t => some (x, t)).bind (fun t => (m_Web___init__ t).bind okOf)).bind fun (z29 : WebD) =>
  flb (((orM (((b2 (some z29) (some ()) fun x t => some (x, t)).bind m_format_web).bind fun w30 => some (!decide (w30 = z13))) (some (!decide (z14.1 = z28))))).bind fun t => if t = true then
  (some false).bind fun b => some (Fl.ret b ())
 else
  (some (Fl.nx ()))) fun _ =>
  ((b2 (some z13) (some ()) fun x t => some (x, t)).bind m_parse_web).bind fun (z32 : WebD) =>
  flb ((some [z32, z29]).bind fun xs => forF (fun (s33 : OZ) (x34 : WebD) =>
  flb ((((((((some x34).bind fun x => some (x, s33)).bind fun w44 => (((some z4.1).bind fun x => some (x, w44.2)).bind fun w46 => (some ((), w46.2)).bind fun w47 => some ((w46.1, w47.1), w47.2)).bind fun w45 => some ((w44.1, w45.1), w45.2)).bind fun w43 => m__law_web_right w43.1 w43.2).bind fun q => some (!q.1, q.2)).bind fun w42 => if w42.1 = true then some (true, w42.2) else (((((b2 (some x34) (some ()) fun x t => some (x, t)).bind m_format_web).bind fun w49 => some (!decide (w49 = z13))).bind fun b => some (b, w42.2)).bind fun w48 => if w48.1 = true then some (true, w48.2) else (((((some x34).bind fun x => some (x, w48.2)).bind fun w51 => (((some z4.1).bind fun x => some (x, w51.2)).bind fun w53 => (some ((), w53.2)).bind fun w54 => some ((w53.1, w54.1), w54.2)).bind fun w52 => some ((w51.1, w52.1), w52.2)).bind fun w50 => m__law_web_right w50.1 w50.2).bind fun q => some (!q.1, q.2))))).bind fun qq => (fun q55 => if qq.1 = true then
  (some false).bind fun b => some (Fl.ret b ())
 else
  (some (Fl.nx q55))) qq.2) fun (s56 : OZ) =>
  flb ((((b2 (some x34) (some ()) fun x t => some (x, t)).bind m_format_web).bind fun w57 => some (!decide (w57 = z13))).bind fun t => if t = true then
  (some false).bind fun b => some (Fl.ret b ())
 else
  (some (Fl.nx ()))) fun _ =>
  (some (Fl.nx s56))) z14.2 xs) fun (s33 : OZ) =>
  (some (Fl.nx s33))) z1 xs) fun (s2 : OZ) =>
  (((b2 ((b2 (some (Tt.mk "" (by decide +kernel))) (some ()) fun x t => some (x, t)).bind m_parse_web) (some ()) fun x t => some (x, t)).bind m_format_web).bind fun w59 => some (decide (w59 = (Tt.mk "" (by decide +kernel))))).bind fun b => some (Fl.ret b ())
def m_law (a : Scr × Unit) : Option Bool := (mb_law a).bind (retP Empty.elim)
theorem f_law {Γ : Gm} (T : Tx Γ) {f : Addr} {fd : FuncData} (F : Fun Γ.K "law" "law" s_law f fd) : FnOk Γ.P Γ.w Γ.K Γ.mg Γ.base CX0 6 f fd ["_law_script"] (specP Γ false m_law) := by
  refine fnok_of (k := 5) (τ := Scr × Unit) F sc_law (S := Empty) (sto := (fun s => s.elim)) (m := mb_law) Empty.elim (fun s => s.elim) rfl (fun X B a d => ?_) m_law fun _ => rfl
  exact (xb_pseq (sto1 := fun (z1 : OZ) => [vl (a.1 : Scr), ow (z1 : OZ), .dead, .dead, .dead, .dead, .dead, .dead, .dead, .dead, .dead, .dead, .dead]) (xp1_eq (xp_setNO d 1 (xno_call d.toCok (c__law_state T) (by decide) rfl (xa_cons (xe_var d.toCok 0 rfl rfl (.inl rfl)) xa_nil)) rfl (.inl rfl)) rfl) (fun z1 => (xb_seq (S1 := OZ) (sto1 := (fun (s2 : OZ) => [.dead, ow (s2 : OZ), .dead, .dead, .dead, .dead, .dead, .dead, .dead, .dead, .dead, .dead, .dead])) (xb1_pre [(0, false)] (xb_for (S := OZ) (sto := (fun (s2 : OZ) => [.dead, ow (s2 : OZ), .dead, .dead, .dead, .dead, .dead, .dead, .dead, .dead, .dead, .dead, .dead])) d z1 (xi_eq (xi_range1 d.toCok xe_int rfl T.b_range) rfl) (fun B d => xg_name d 2 rfl (.inl rfl)) (fun B d s2 x3 => (xb_pseq (sto1 := fun (z4 : ((T3 (List Tt) (List Tt) (List (Tt × Tt))) × OZ)) => [.dead, ow (z4.2 : OZ), vl (x3 : Int), vl (z4.1 : (T3 (List Tt) (List Tt) (List (Tt × Tt)))), .dead, .dead, .dead, .dead, .dead, .dead, .dead, .dead, .dead]) (xp_setF d 3 (sto := (fun (q : OZ) => [.dead, ow (q : OZ), vl (x3 : Int), .dead, .dead, .dead, .dead, .dead, .dead, .dead, .dead, .dead, .dead])) (xf_eq (xf_callZ (stz := (fun (q : OZ) => [.dead, ow (q : OZ), vl (x3 : Int), .dead, .dead, .dead, .dead, .dead, .dead, .dead, .dead, .dead, .dead])) d.toCok 1 (c__law_drawn T) (by decide) rfl (fun _ => rfl) (fun _ _ => rfl) rfl (.inl rfl) (xaf_cons (sto := (fun (q : OZ) => [.dead, ow (q : OZ), vl (x3 : Int), .dead, .dead, .dead, .dead, .dead, .dead, .dead, .dead, .dead, .dead])) (sto1 := (fun (q : OZ) => [.dead, ow (q : OZ), vl (x3 : Int), .dead, .dead, .dead, .dead, .dead, .dead, .dead, .dead, .dead, .dead])) (xf_of (sto := (fun (q : OZ) => [.dead, ow (q : OZ), vl (x3 : Int), .dead, .dead, .dead, .dead, .dead, .dead, .dead, .dead, .dead, .dead])) xe_int) (fun q10 => (xaf_cons (sto := (fun (q : OZ) => [.dead, ow (q : OZ), vl (x3 : Int), .dead, .dead, .dead, .dead, .dead, .dead, .dead, .dead, .dead, .dead])) (sto1 := (fun (q : OZ) => [.dead, ow (q : OZ), vl (x3 : Int), .dead, .dead, .dead, .dead, .dead, .dead, .dead, .dead, .dead, .dead])) (xf_of (sto := (fun (q : OZ) => [.dead, ow (q : OZ), vl (x3 : Int), .dead, .dead, .dead, .dead, .dead, .dead, .dead, .dead, .dead, .dead])) xe_int) (fun q11 => (xaf_nil (sto := (fun (q : OZ) => [.dead, ow (q : OZ), vl (x3 : Int), .dead, .dead, .dead, .dead, .dead, .dead, .dead, .dead, .dead, .dead])))))))) rfl) rfl (.inl rfl)) (fun z4 => (xb_pseq (sto1 := fun (z12 : (T3 (List Tt) (List Tt) (List (Tt × Tt)))) => [.dead, ow (z4.2 : OZ), vl (x3 : Int), vl (z4.1 : (T3 (List Tt) (List Tt) (List (Tt × Tt)))), .dead, .dead, .dead, .dead, .dead, .dead, vl (z12.a : (List Tt)), vl (z12.b : (List Tt)), vl (z12.c : (List (Tt × Tt)))]) (xp_unp3 d 10 11 12 (xe_eq (xe_var d.toCok 3 rfl rfl (.inl rfl)) rfl) rfl rfl rfl (.inl rfl) (.inl rfl) (.inl rfl)) (fun z12 => (xb_pseq (sto1 := fun (z13 : Tt) => [.dead, ow (z4.2 : OZ), vl (x3 : Int), vl (z4.1 : (T3 (List Tt) (List Tt) (List (Tt × Tt)))), vl (z13 : Tt), .dead, .dead, .dead, .dead, .dead, vl (z12.a : (List Tt)), vl (z12.b : (List Tt)), vl (z12.c : (List (Tt × Tt)))]) (xp_set d 4 (xe_eq (xe_call d.toCok (c__law_text T) (by decide) rfl (xa_cons (xe_call d.toCok (c__law_lines T) (by decide) rfl (xa_cons (xe_var d.toCok 3 rfl rfl (.inl rfl)) xa_nil)) xa_nil)) rfl) rfl (.inl rfl)) (fun z13 => (xb_pseq (sto1 := fun (z14 : ((T3 (List Tt) (List Tt) (List (Tt × Tt))) × OZ)) => [.dead, ow (z14.2 : OZ), vl (x3 : Int), vl (z4.1 : (T3 (List Tt) (List Tt) (List (Tt × Tt)))), vl (z13 : Tt), vl (z14.1 : (T3 (List Tt) (List Tt) (List (Tt × Tt)))), .dead, .dead, .dead, .dead, vl (z12.a : (List Tt)), vl (z12.b : (List Tt)), vl (z12.c : (List (Tt × Tt)))]) (xp_setF d 5 (sto := (fun (q : OZ) => [.dead, ow (q : OZ), vl (x3 : Int), vl (z4.1 : (T3 (List Tt) (List Tt) (List (Tt × Tt)))), vl (z13 : Tt), .dead, .dead, .dead, .dead, .dead, vl (z12.a : (List Tt)), vl (z12.b : (List Tt)), vl (z12.c : (List (Tt × Tt)))])) (xf_eq (xf_tup3 (sto := (fun (q : OZ) => [.dead, ow (q : OZ), vl (x3 : Int), vl (z4.1 : (T3 (List Tt) (List Tt) (List (Tt × Tt)))), vl (z13 : Tt), .dead, .dead, .dead, .dead, .dead, vl (z12.a : (List Tt)), vl (z12.b : (List Tt)), vl (z12.c : (List (Tt × Tt)))])) (sto1 := (fun (q : OZ) => [.dead, ow (q : OZ), vl (x3 : Int), vl (z4.1 : (T3 (List Tt) (List Tt) (List (Tt × Tt)))), vl (z13 : Tt), .dead, .dead, .dead, .dead, .dead, vl (z12.a : (List Tt)), vl (z12.b : (List Tt)), vl (z12.c : (List (Tt × Tt)))])) (sto3 := (fun (q : OZ) => [.dead, ow (q : OZ), vl (x3 : Int), vl (z4.1 : (T3 (List Tt) (List Tt) (List (Tt × Tt)))), vl (z13 : Tt), .dead, .dead, .dead, .dead, .dead, vl (z12.a : (List Tt)), vl (z12.b : (List Tt)), vl (z12.c : (List (Tt × Tt)))])) (xf_of (sto := (fun (q : OZ) => [.dead, ow (q : OZ), vl (x3 : Int), vl (z4.1 : (T3 (List Tt) (List Tt) (List (Tt × Tt)))), vl (z13 : Tt), .dead, .dead, .dead, .dead, .dead, vl (z12.a : (List Tt)), vl (z12.b : (List Tt)), vl (z12.c : (List (Tt × Tt)))])) (xe_ofN (xn_listOf d.toCok (xr_of (xe_var d.toCok 10 rfl rfl (.inl rfl))) rfl T.b_list))) (fun q24 => (xf_callZ (stz := (fun (q : OZ) => [.dead, ow (q : OZ), vl (x3 : Int), vl (z4.1 : (T3 (List Tt) (List Tt) (List (Tt × Tt)))), vl (z13 : Tt), .dead, .dead, .dead, .dead, .dead, vl (z12.a : (List Tt)), vl (z12.b : (List Tt)), vl (z12.c : (List (Tt × Tt)))])) d.toCok 1 (c__law_turned T) (by decide) rfl (fun _ => rfl) (fun _ _ => rfl) rfl (.inl rfl) (xaf_cons (sto := (fun (q : OZ) => [.dead, ow (q : OZ), vl (x3 : Int), vl (z4.1 : (T3 (List Tt) (List Tt) (List (Tt × Tt)))), vl (z13 : Tt), .dead, .dead, .dead, .dead, .dead, vl (z12.a : (List Tt)), vl (z12.b : (List Tt)), vl (z12.c : (List (Tt × Tt)))])) (sto1 := (fun (q : OZ) => [.dead, ow (q : OZ), vl (x3 : Int), vl (z4.1 : (T3 (List Tt) (List Tt) (List (Tt × Tt)))), vl (z13 : Tt), .dead, .dead, .dead, .dead, .dead, vl (z12.a : (List Tt)), vl (z12.b : (List Tt)), vl (z12.c : (List (Tt × Tt)))])) (xf_of (sto := (fun (q : OZ) => [.dead, ow (q : OZ), vl (x3 : Int), vl (z4.1 : (T3 (List Tt) (List Tt) (List (Tt × Tt)))), vl (z13 : Tt), .dead, .dead, .dead, .dead, .dead, vl (z12.a : (List Tt)), vl (z12.b : (List Tt)), vl (z12.c : (List (Tt × Tt)))])) (xe_var d.toCok 11 rfl rfl (.inl rfl))) (fun q26 => (xaf_nil (sto := (fun (q : OZ) => [.dead, ow (q : OZ), vl (x3 : Int), vl (z4.1 : (T3 (List Tt) (List Tt) (List (Tt × Tt)))), vl (z13 : Tt), .dead, .dead, .dead, .dead, .dead, vl (z12.a : (List Tt)), vl (z12.b : (List Tt)), vl (z12.c : (List (Tt × Tt)))]))))))) (fun q25 => (xf_callZ (stz := (fun (q : OZ) => [.dead, ow (q : OZ), vl (x3 : Int), vl (z4.1 : (T3 (List Tt) (List Tt) (List (Tt × Tt)))), vl (z13 : Tt), .dead, .dead, .dead, .dead, .dead, vl (z12.a : (List Tt)), vl (z12.b : (List Tt)), vl (z12.c : (List (Tt × Tt)))])) d.toCok 1 (c__law_turnedP T) (by decide) rfl (fun _ => rfl) (fun _ _ => rfl) rfl (.inl rfl) (xaf_cons (sto := (fun (q : OZ) => [.dead, ow (q : OZ), vl (x3 : Int), vl (z4.1 : (T3 (List Tt) (List Tt) (List (Tt × Tt)))), vl (z13 : Tt), .dead, .dead, .dead, .dead, .dead, vl (z12.a : (List Tt)), vl (z12.b : (List Tt)), vl (z12.c : (List (Tt × Tt)))])) (sto1 := (fun (q : OZ) => [.dead, ow (q : OZ), vl (x3 : Int), vl (z4.1 : (T3 (List Tt) (List Tt) (List (Tt × Tt)))), vl (z13 : Tt), .dead, .dead, .dead, .dead, .dead, vl (z12.a : (List Tt)), vl (z12.b : (List Tt)), vl (z12.c : (List (Tt × Tt)))])) (xf_of (sto := (fun (q : OZ) => [.dead, ow (q : OZ), vl (x3 : Int), vl (z4.1 : (T3 (List Tt) (List Tt) (List (Tt × Tt)))), vl (z13 : Tt), .dead, .dead, .dead, .dead, .dead, vl (z12.a : (List Tt)), vl (z12.b : (List Tt)), vl (z12.c : (List (Tt × Tt)))])) (xe_var d.toCok 12 rfl rfl (.inl rfl))) (fun q27 => (xaf_nil (sto := (fun (q : OZ) => [.dead, ow (q : OZ), vl (x3 : Int), vl (z4.1 : (T3 (List Tt) (List Tt) (List (Tt × Tt)))), vl (z13 : Tt), .dead, .dead, .dead, .dead, .dead, vl (z12.a : (List Tt)), vl (z12.b : (List Tt)), vl (z12.c : (List (Tt × Tt)))])))))))) rfl) rfl (.inl rfl)) (fun z14 => (xb_pseq (sto1 := fun (z28 : (T3 (List Tt) (List Tt) (List (Tt × Tt)))) => [.dead, ow (z14.2 : OZ), vl (x3 : Int), vl (z4.1 : (T3 (List Tt) (List Tt) (List (Tt × Tt)))), vl (z13 : Tt), vl (z14.1 : (T3 (List Tt) (List Tt) (List (Tt × Tt)))), vl (z28 : (T3 (List Tt) (List Tt) (List (Tt × Tt)))), .dead, .dead, .dead, vl (z12.a : (List Tt)), vl (z12.b : (List Tt)), vl (z12.c : (List (Tt × Tt)))]) (xp_set d 6 (xe_eq (xe_tup3 (xe_ofN (xn_listOf d.toCok (xr_of (xe_t3a (xe_var d.toCok 5 rfl rfl (.inl rfl)))) rfl T.b_list)) (xe_ofN (xn_listOf d.toCok (xr_of (xe_t3b (xe_var d.toCok 5 rfl rfl (.inl rfl)))) rfl T.b_list)) (xe_ofN (xn_listOf d.toCok (xr_of (xe_t3c (xe_var d.toCok 5 rfl rfl (.inl rfl)))) rfl T.b_list))) rfl) rfl (.inl rfl)) (fun z28 => (xb_pseq (sto1 := fun (z29 : WebD) => [.dead, ow (z14.2 : OZ), vl (x3 : Int), vl (z4.1 : (T3 (List Tt) (List Tt) (List (Tt × Tt)))), vl (z13 : Tt), vl (z14.1 : (T3 (List Tt) (List Tt) (List (Tt × Tt)))), vl (z28 : (T3 (List Tt) (List Tt) (List (Tt × Tt)))), vl (z29 : WebD), .dead, .dead, vl (z12.a : (List Tt)), vl (z12.b : (List Tt)), vl (z12.c : (List (Tt × Tt)))]) (xp_set d 7 (xe_eq (xe_make d.toCok (c_Web___init__ T) (by decide) rfl (xa_cons (xe_t3a (xe_var d.toCok 5 rfl rfl (.inl rfl))) (xa_cons (xe_t3b (xe_var d.toCok 5 rfl rfl (.inl rfl))) (xa_cons (xe_t3c (xe_var d.toCok 5 rfl rfl (.inl rfl))) xa_nil)))) rfl) rfl (.inl rfl)) (fun z29 => (xb_seq (S1 := Unit) (sto1 := (fun (_ : Unit) => [.dead, ow (z14.2 : OZ), vl (x3 : Int), vl (z4.1 : (T3 (List Tt) (List Tt) (List (Tt × Tt)))), vl (z13 : Tt), vl (z14.1 : (T3 (List Tt) (List Tt) (List (Tt × Tt)))), vl (z28 : (T3 (List Tt) (List Tt) (List (Tt × Tt)))), vl (z29 : WebD), .dead, .dead, vl (z12.a : (List Tt)), vl (z12.b : (List Tt)), vl (z12.c : (List (Tt × Tt)))])) (xb_if (S := Unit) (sto := (fun (_ : Unit) => [.dead, ow (z14.2 : OZ), vl (x3 : Int), vl (z4.1 : (T3 (List Tt) (List Tt) (List (Tt × Tt)))), vl (z13 : Tt), vl (z14.1 : (T3 (List Tt) (List Tt) (List (Tt × Tt)))), vl (z28 : (T3 (List Tt) (List Tt) (List (Tt × Tt)))), vl (z29 : WebD), .dead, .dead, vl (z12.a : (List Tt)), vl (z12.b : (List Tt)), vl (z12.c : (List (Tt × Tt)))])) (xt_eq (xt_w (xw_or (xt_ofC (xc_op2 op_ne o_neS (xe_call d.toCok (c_format_web T) (by decide) rfl (xa_cons (xe_var d.toCok 7 rfl rfl (.inl rfl)) xa_nil)) (xe_var d.toCok 4 rfl rfl (.inl rfl)))) (xw_or1 (xt_ofC (xc_neD d.toCok (xe_var d.toCok 5 rfl rfl (.inl rfl)) (xe_var d.toCok 6 rfl rfl (.inl rfl))))))) rfl) (xb_one (xb_ret (c := ()) (xe_eq xe_bl rfl) rfl [(1, false), (2, false), (3, false), (4, false), (5, false), (6, false), (7, false), (10, false), (11, false), (12, false)] rfl rfl)) (xb_end [] () rfl)) (fun _ => (xb_pseq (sto1 := fun (z32 : WebD) => [.dead, ow (z14.2 : OZ), vl (x3 : Int), vl (z4.1 : (T3 (List Tt) (List Tt) (List (Tt × Tt)))), vl (z13 : Tt), vl (z14.1 : (T3 (List Tt) (List Tt) (List (Tt × Tt)))), vl (z28 : (T3 (List Tt) (List Tt) (List (Tt × Tt)))), vl (z29 : WebD), vl (z32 : WebD), .dead, vl (z12.a : (List Tt)), vl (z12.b : (List Tt)), vl (z12.c : (List (Tt × Tt)))]) (xp_set d 8 (xe_eq (xe_call d.toCok (c_parse_web T) (by decide) rfl (xa_cons (xe_var d.toCok 4 rfl rfl (.inl rfl)) xa_nil)) rfl) rfl (.inl rfl)) (fun z32 => (xb_seq (S1 := OZ) (sto1 := (fun (s33 : OZ) => [.dead, ow (s33 : OZ), .dead, vl (z4.1 : (T3 (List Tt) (List Tt) (List (Tt × Tt)))), vl (z13 : Tt), .dead, .dead, vl (z29 : WebD), vl (z32 : WebD), .dead, .dead, .dead, .dead])) (xb1_pre [(2, false), (5, false), (6, false), (10, false), (11, false), (12, false)] (xb_for (S := OZ) (sto := (fun (s33 : OZ) => [.dead, ow (s33 : OZ), .dead, vl (z4.1 : (T3 (List Tt) (List Tt) (List (Tt × Tt)))), vl (z13 : Tt), .dead, .dead, vl (z29 : WebD), vl (z32 : WebD), .dead, .dead, .dead, .dead])) d z14.2 (xi_eq (xi_list (xe_ofN (xn_list (xl_cons (xe_var d.toCok 8 rfl rfl (.inl rfl)) (xl_cons (xe_var d.toCok 7 rfl rfl (.inl rfl)) xl_nil))))) rfl) (fun B d => xg_name d 9 rfl (.inl rfl)) (fun B d s33 x34 => (xb_seq (S1 := OZ) (sto1 := (fun (s56 : OZ) => [.dead, ow (s56 : OZ), .dead, vl (z4.1 : (T3 (List Tt) (List Tt) (List (Tt × Tt)))), vl (z13 : Tt), .dead, .dead, vl (z29 : WebD), vl (z32 : WebD), vl (x34 : WebD), .dead, .dead, .dead])) (xb_ifF (S := OZ) (sto := (fun (s56 : OZ) => [.dead, ow (s56 : OZ), .dead, vl (z4.1 : (T3 (List Tt) (List Tt) (List (Tt × Tt)))), vl (z13 : Tt), .dead, .dead, vl (z29 : WebD), vl (z32 : WebD), vl (x34 : WebD), .dead, .dead, .dead])) (m1 := fun q55 => (some false).bind fun b => some (Fl.ret b ())) (m2 := fun q55 => (some (Fl.nx q55))) (xtf_eq (xtf_w (xwf_or (sto := (fun (q : OZ) => [.dead, ow (q : OZ), .dead, vl (z4.1 : (T3 (List Tt) (List Tt) (List (Tt × Tt)))), vl (z13 : Tt), .dead, .dead, vl (z29 : WebD), vl (z32 : WebD), vl (x34 : WebD), .dead, .dead, .dead])) (xtf_not (xtf_val (xf_callZ (stz := (fun (q : OZ) => [.dead, ow (q : OZ), .dead, vl (z4.1 : (T3 (List Tt) (List Tt) (List (Tt × Tt)))), vl (z13 : Tt), .dead, .dead, vl (z29 : WebD), vl (z32 : WebD), vl (x34 : WebD), .dead, .dead, .dead])) d.toCok 1 (c__law_web_right T) (by decide) rfl (fun _ => rfl) (fun _ _ => rfl) rfl (.inl rfl) (xaf_cons (sto := (fun (q : OZ) => [.dead, ow (q : OZ), .dead, vl (z4.1 : (T3 (List Tt) (List Tt) (List (Tt × Tt)))), vl (z13 : Tt), .dead, .dead, vl (z29 : WebD), vl (z32 : WebD), vl (x34 : WebD), .dead, .dead, .dead])) (sto1 := (fun (q : OZ) => [.dead, ow (q : OZ), .dead, vl (z4.1 : (T3 (List Tt) (List Tt) (List (Tt × Tt)))), vl (z13 : Tt), .dead, .dead, vl (z29 : WebD), vl (z32 : WebD), vl (x34 : WebD), .dead, .dead, .dead])) (xf_of (sto := (fun (q : OZ) => [.dead, ow (q : OZ), .dead, vl (z4.1 : (T3 (List Tt) (List Tt) (List (Tt × Tt)))), vl (z13 : Tt), .dead, .dead, vl (z29 : WebD), vl (z32 : WebD), vl (x34 : WebD), .dead, .dead, .dead])) (xe_var d.toCok 9 rfl rfl (.inl rfl))) (fun q36 => (xaf_cons (sto := (fun (q : OZ) => [.dead, ow (q : OZ), .dead, vl (z4.1 : (T3 (List Tt) (List Tt) (List (Tt × Tt)))), vl (z13 : Tt), .dead, .dead, vl (z29 : WebD), vl (z32 : WebD), vl (x34 : WebD), .dead, .dead, .dead])) (sto1 := (fun (q : OZ) => [.dead, ow (q : OZ), .dead, vl (z4.1 : (T3 (List Tt) (List Tt) (List (Tt × Tt)))), vl (z13 : Tt), .dead, .dead, vl (z29 : WebD), vl (z32 : WebD), vl (x34 : WebD), .dead, .dead, .dead])) (xf_of (sto := (fun (q : OZ) => [.dead, ow (q : OZ), .dead, vl (z4.1 : (T3 (List Tt) (List Tt) (List (Tt × Tt)))), vl (z13 : Tt), .dead, .dead, vl (z29 : WebD), vl (z32 : WebD), vl (x34 : WebD), .dead, .dead, .dead])) (xe_var d.toCok 3 rfl rfl (.inl rfl))) (fun q37 => (xaf_nil (sto := (fun (q : OZ) => [.dead, ow (q : OZ), .dead, vl (z4.1 : (T3 (List Tt) (List Tt) (List (Tt × Tt)))), vl (z13 : Tt), .dead, .dead, vl (z29 : WebD), vl (z32 : WebD), vl (x34 : WebD), .dead, .dead, .dead])))))))))) (fun q35 => (xwf_or (sto := (fun (q : OZ) => [.dead, ow (q : OZ), .dead, vl (z4.1 : (T3 (List Tt) (List Tt) (List (Tt × Tt)))), vl (z13 : Tt), .dead, .dead, vl (z29 : WebD), vl (z32 : WebD), vl (x34 : WebD), .dead, .dead, .dead])) (xtf_ofT (sto := (fun (q : OZ) => [.dead, ow (q : OZ), .dead, vl (z4.1 : (T3 (List Tt) (List Tt) (List (Tt × Tt)))), vl (z13 : Tt), .dead, .dead, vl (z29 : WebD), vl (z32 : WebD), vl (x34 : WebD), .dead, .dead, .dead])) (xt_eq (xt_ofC (xc_op2 op_ne o_neS (xe_call d.toCok (c_format_web T) (by decide) rfl (xa_cons (xe_var d.toCok 9 rfl rfl (.inl rfl)) xa_nil)) (xe_var d.toCok 4 rfl rfl (.inl rfl)))) rfl)) (fun q38 => (xwf_or1 (xtf_not (xtf_val (xf_callZ (stz := (fun (q : OZ) => [.dead, ow (q : OZ), .dead, vl (z4.1 : (T3 (List Tt) (List Tt) (List (Tt × Tt)))), vl (z13 : Tt), .dead, .dead, vl (z29 : WebD), vl (z32 : WebD), vl (x34 : WebD), .dead, .dead, .dead])) d.toCok 1 (c__law_web_right T) (by decide) rfl (fun _ => rfl) (fun _ _ => rfl) rfl (.inl rfl) (xaf_cons (sto := (fun (q : OZ) => [.dead, ow (q : OZ), .dead, vl (z4.1 : (T3 (List Tt) (List Tt) (List (Tt × Tt)))), vl (z13 : Tt), .dead, .dead, vl (z29 : WebD), vl (z32 : WebD), vl (x34 : WebD), .dead, .dead, .dead])) (sto1 := (fun (q : OZ) => [.dead, ow (q : OZ), .dead, vl (z4.1 : (T3 (List Tt) (List Tt) (List (Tt × Tt)))), vl (z13 : Tt), .dead, .dead, vl (z29 : WebD), vl (z32 : WebD), vl (x34 : WebD), .dead, .dead, .dead])) (xf_of (sto := (fun (q : OZ) => [.dead, ow (q : OZ), .dead, vl (z4.1 : (T3 (List Tt) (List Tt) (List (Tt × Tt)))), vl (z13 : Tt), .dead, .dead, vl (z29 : WebD), vl (z32 : WebD), vl (x34 : WebD), .dead, .dead, .dead])) (xe_var d.toCok 9 rfl rfl (.inl rfl))) (fun q40 => (xaf_cons (sto := (fun (q : OZ) => [.dead, ow (q : OZ), .dead, vl (z4.1 : (T3 (List Tt) (List Tt) (List (Tt × Tt)))), vl (z13 : Tt), .dead, .dead, vl (z29 : WebD), vl (z32 : WebD), vl (x34 : WebD), .dead, .dead, .dead])) (sto1 := (fun (q : OZ) => [.dead, ow (q : OZ), .dead, vl (z4.1 : (T3 (List Tt) (List Tt) (List (Tt × Tt)))), vl (z13 : Tt), .dead, .dead, vl (z29 : WebD), vl (z32 : WebD), vl (x34 : WebD), .dead, .dead, .dead])) (xf_of (sto := (fun (q : OZ) => [.dead, ow (q : OZ), .dead, vl (z4.1 : (T3 (List Tt) (List Tt) (List (Tt × Tt)))), vl (z13 : Tt), .dead, .dead, vl (z29 : WebD), vl (z32 : WebD), vl (x34 : WebD), .dead, .dead, .dead])) (xe_var d.toCok 3 rfl rfl (.inl rfl))) (fun q41 => (xaf_nil (sto := (fun (q : OZ) => [.dead, ow (q : OZ), .dead, vl (z4.1 : (T3 (List Tt) (List Tt) (List (Tt × Tt)))), vl (z13 : Tt), .dead, .dead, vl (z29 : WebD), vl (z32 : WebD), vl (x34 : WebD), .dead, .dead, .dead])))))))))))))))) rfl) (fun q55 => (xb_one (xb_ret (c := ()) (xe_eq xe_bl rfl) rfl [(1, false), (3, false), (4, false), (7, false), (8, false), (9, false)] rfl rfl))) (fun q55 => (xb_end [] q55 rfl))) (fun s56 => (xb_seq (S1 := Unit) (sto1 := (fun (_ : Unit) => [.dead, ow (s56 : OZ), .dead, vl (z4.1 : (T3 (List Tt) (List Tt) (List (Tt × Tt)))), vl (z13 : Tt), .dead, .dead, vl (z29 : WebD), vl (z32 : WebD), vl (x34 : WebD), .dead, .dead, .dead])) (xb_if (S := Unit) (sto := (fun (_ : Unit) => [.dead, ow (s56 : OZ), .dead, vl (z4.1 : (T3 (List Tt) (List Tt) (List (Tt × Tt)))), vl (z13 : Tt), .dead, .dead, vl (z29 : WebD), vl (z32 : WebD), vl (x34 : WebD), .dead, .dead, .dead])) (xt_eq (xt_ofC (xc_op2 op_ne o_neS (xe_call d.toCok (c_format_web T) (by decide) rfl (xa_cons (xe_var d.toCok 9 rfl rfl (.inl rfl)) xa_nil)) (xe_var d.toCok 4 rfl rfl (.inl rfl)))) rfl) (xb_one (xb_ret (c := ()) (xe_eq xe_bl rfl) rfl [(1, false), (3, false), (4, false), (7, false), (8, false), (9, false)] rfl rfl)) (xb_end [] () rfl)) (fun _ => (xb_end [(9, false)] s56 rfl))))))) rfl) (fun s33 => (xb_end [(3, false), (4, false), (7, false), (8, false)] s33 rfl))))))))))))))))))))) rfl) (fun s2 => (xb_one (xb_ret (c := ()) (xe_eq (xe_ofC (xc_op2 op_eq o_eqS (xe_call d.toCok (c_format_web T) (by decide) rfl (xa_cons (xe_call d.toCok (c_parse_web T) (by decide) rfl (xa_cons xe_str xa_nil)) xa_nil)) xe_str)) rfl) rfl [(1, false)] rfl rfl))))))
def Cn (K : PySem.W.Frag) : Nat → Addr
  | 0 => He.ga K "SwapError"
  | 1 => He.ga K "InvalidWeb"
  | 2 => He.ga K "DuplicateName"
  | 3 => He.ga K "UnknownName"
  | 4 => He.ga K "InvalidSuit"
  | 20 => He.ga K "Web"
  | _ => 0
theorem tx_ok {P : Program} {w : World} {K : PySem.W.Frag} {h base : Heap} {mg : Str → Option Value} (X : K.In h) (G : h.Ns mainGlobals mg) (c : He.SaysD HeadT.fa HeadT.fn K) (cr : He.SaysR HeadT.fa HeadT.fn HeadT.exB HeadT.ts w K) : Tx ⟨P, w, K, mg, base, Cn K⟩ where
  xs := exs_ok (Γ := ⟨P, w, K, mg, base, Cn K⟩) (xs := exn) (He.ba cr.q.e).1 (by decide) fun p hp => by
    rcases List.mem_cons.mp hp with rfl | hp
    · rfl
    rcases List.mem_cons.mp hp with rfl | hp
    · rfl
    rcases List.mem_cons.mp hp with rfl | hp
    · rfl
    rcases List.mem_cons.mp hp with rfl | hp
    · rfl
    rcases List.mem_cons.mp hp with rfl | hp
    · rfl
    exact absurd hp (by simp)
  wb := wb_ok (Γ := ⟨P, w, K, mg, base, Cn K⟩) (y := "Web") rfl (c.fact 15 (f := .cls "Web") rfl) (c.fact 16 (f := .noat "Web" "pairs") rfl) (c.fact 17 (f := .noat "Web" "givers") rfl) (c.fact 18 (f := .noat "Web" "_suits") rfl)
  d_is_name := def_ok (st := HeadT.top 10) (c.def_ 0 (d := HeadT.D_is_name) rfl).choose_spec (He.glo_ok X G (c.fact 13 (f := .glo "is_name") rfl)) fun _ _ _ _ _ _ us hl => match us, hl with | [_], _ => rfl
  d_Web__add_suit := defM_ok (Γ := ⟨P, w, K, mg, base, Cn K⟩) (y := "Web") (st := HeadT.mth 11 1) (c.def_ 2 (d := HeadT.D_Web__add_suit) rfl).choose_spec rfl rfl (c.fact 21 (f := .meth "Web" "_add_suit") rfl) fun _ _ _ _ _ _ us hl => match us, hl with | [_, _, _], _ => rfl
  d_Web___init__ := defC_ok (Γ := ⟨P, w, K, mg, base, Cn K⟩) (st := HeadT.mth 11 0) (c.def_ 1 (d := HeadT.D_Web___init__) rfl).choose_spec rfl rfl (c.fact 19 (f := .mkr "Web") rfl) (He.glo_ok X G (c.fact 14 (f := .glo "Web") rfl)) fun _ _ _ _ _ _ us hl => match us, hl with | [_, _, _, _], _ => rfl
  d_Web_names := defM_ok (Γ := ⟨P, w, K, mg, base, Cn K⟩) (y := "Web") (st := HeadT.mth 11 2) (c.def_ 3 (d := HeadT.D_Web_names) rfl).choose_spec rfl rfl (c.fact 22 (f := .meth "Web" "names") rfl) fun _ _ _ _ _ _ us hl => match us, hl with | [_], _ => rfl
  d_Web_suits := defM_ok (Γ := ⟨P, w, K, mg, base, Cn K⟩) (y := "Web") (st := HeadT.mth 11 3) (c.def_ 4 (d := HeadT.D_Web_suits) rfl).choose_spec rfl rfl (c.fact 23 (f := .meth "Web" "suits") rfl) fun _ _ _ _ _ _ us hl => match us, hl with | [_], _ => rfl
  d_Web_does_suit := defM_ok (Γ := ⟨P, w, K, mg, base, Cn K⟩) (y := "Web") (st := HeadT.mth 11 4) (c.def_ 5 (d := HeadT.D_Web_does_suit) rfl).choose_spec rfl rfl (c.fact 24 (f := .meth "Web" "does_suit") rfl) fun _ _ _ _ _ _ us hl => match us, hl with | [_, _, _], _ => rfl
  d_Web_may_meet := defM_ok (Γ := ⟨P, w, K, mg, base, Cn K⟩) (y := "Web") (st := HeadT.mth 11 5) (c.def_ 6 (d := HeadT.D_Web_may_meet) rfl).choose_spec rfl rfl (c.fact 25 (f := .meth "Web" "may_meet") rfl) fun _ _ _ _ _ _ us hl => match us, hl with | [_, _, _], _ => rfl
  d_Web_edges := defM_ok (Γ := ⟨P, w, K, mg, base, Cn K⟩) (y := "Web") (st := HeadT.mth 11 6) (c.def_ 7 (d := HeadT.D_Web_edges) rfl).choose_spec rfl rfl (c.fact 26 (f := .meth "Web" "edges") rfl) fun _ _ _ _ _ _ us hl => match us, hl with | [_], _ => rfl
  d__law_mixed := def_ok (st := HeadT.top 19) (c.def_ 12 (d := HeadT.D__law_mixed) rfl).choose_spec (He.glo_ok X G (c.fact 32 (f := .glo "_law_mixed") rfl)) fun _ _ _ _ _ _ us hl => match us, hl with | [_], _ => rfl
  d__law_take := def_ok (st := HeadT.top 20) (c.def_ 13 (d := HeadT.D__law_take) rfl).choose_spec (He.glo_ok X G (c.fact 33 (f := .glo "_law_take") rfl)) fun _ _ _ _ _ _ us hl => match us, hl with | [_, _], _ => rfl
  d__law_state := def_ok (st := HeadT.top 21) (c.def_ 14 (d := HeadT.D__law_state) rfl).choose_spec (He.glo_ok X G (c.fact 34 (f := .glo "_law_state") rfl)) fun _ _ _ _ _ _ us hl => match us, hl with | [_], _ => rfl
  d__law_name := def_ok (st := HeadT.top 22) (c.def_ 15 (d := HeadT.D__law_name) rfl).choose_spec (He.glo_ok X G (c.fact 35 (f := .glo "_law_name") rfl)) fun _ _ _ _ _ _ us hl => match us, hl with | [_], _ => rfl
  d__law_names := def_ok (st := HeadT.top 23) (c.def_ 16 (d := HeadT.D__law_names) rfl).choose_spec (He.glo_ok X G (c.fact 36 (f := .glo "_law_names") rfl)) fun _ _ _ _ _ _ us hl => match us, hl with | [_, _], _ => rfl
  d__law_drawn := def_ok (st := HeadT.top 24) (c.def_ 17 (d := HeadT.D__law_drawn) rfl).choose_spec (He.glo_ok X G (c.fact 37 (f := .glo "_law_drawn") rfl)) fun _ _ _ _ _ _ us hl => match us, hl with | [_, _, _], _ => rfl
  d__law_lines := def_ok (st := HeadT.top 25) (c.def_ 18 (d := HeadT.D__law_lines) rfl).choose_spec (He.glo_ok X G (c.fact 38 (f := .glo "_law_lines") rfl)) fun _ _ _ _ _ _ us hl => match us, hl with | [_], _ => rfl
  d__law_text := def_ok (st := HeadT.top 26) (c.def_ 19 (d := HeadT.D__law_text) rfl).choose_spec (He.glo_ok X G (c.fact 39 (f := .glo "_law_text") rfl)) fun _ _ _ _ _ _ us hl => match us, hl with | [_], _ => rfl
  d__law_turned := def_ok (st := HeadT.top 27) (c.def_ 20 (d := HeadT.D__law_turned) rfl).choose_spec (He.glo_ok X G (c.fact 40 (f := .glo "_law_turned") rfl)) fun _ _ _ _ _ _ us hl => match us, hl with | [_, _], _ => rfl
  d_format_web := def_ok (st := HeadT.top 15) (c.def_ 9 (d := HeadT.D_format_web) rfl).choose_spec (He.glo_ok X G (c.fact 29 (f := .glo "format_web") rfl)) fun _ _ _ _ _ _ us hl => match us, hl with | [_], _ => rfl
  d__law_meet := def_ok (st := HeadT.top 28) (c.def_ 21 (d := HeadT.D__law_meet) rfl).choose_spec (He.glo_ok X G (c.fact 41 (f := .glo "_law_meet") rfl)) fun _ _ _ _ _ _ us hl => match us, hl with | [_, _, _], _ => rfl
  d__law_web_right := def_ok (st := HeadT.top 29) (c.def_ 22 (d := HeadT.D__law_web_right) rfl).choose_spec (He.glo_ok X G (c.fact 42 (f := .glo "_law_web_right") rfl)) fun _ _ _ _ _ _ us hl => match us, hl with | [_, _, _], _ => rfl
  d_require := def_ok (st := HeadT.top 14) (c.def_ 8 (d := HeadT.D_require) rfl).choose_spec (He.glo_ok X G (c.fact 28 (f := .glo "require") rfl)) fun _ _ _ _ _ _ us hl => match us, hl with | [_, _], _ => rfl
  d_words_of := def_ok (st := HeadT.top 16) (c.def_ 10 (d := HeadT.D_words_of) rfl).choose_spec (He.glo_ok X G (c.fact 30 (f := .glo "words_of") rfl)) fun _ _ _ _ _ _ us hl => match us, hl with | [_, _], _ => rfl
  d_parse_web := def_ok (st := HeadT.top 17) (c.def_ 11 (d := HeadT.D_parse_web) rfl).choose_spec (He.glo_ok X G (c.fact 31 (f := .glo "parse_web") rfl)) fun _ _ _ _ _ _ us hl => match us, hl with | [_], _ => rfl
  g_MOST_NAMES := He.int_ok X G (c.fact 11 (f := .int "MOST_NAMES" 16) rfl)
  g_LETTERS := He.str_ok X G (c.fact 12 (f := .str "LETTERS" "abcdefghijklmnopqrstuvwxyz") rfl)
  x_SwapError := ext_ok (h := h) X G rfl (c.fact 0 (f := .glo "SwapError") rfl) (c.fact 1 (f := .exc "SwapError") rfl)
  x_InvalidWeb := ext_ok (h := h) X G rfl (c.fact 2 (f := .glo "InvalidWeb") rfl) (c.fact 3 (f := .exc "InvalidWeb") rfl)
  x_DuplicateName := ext_ok (h := h) X G rfl (c.fact 4 (f := .glo "DuplicateName") rfl) (c.fact 5 (f := .exc "DuplicateName") rfl)
  x_UnknownName := ext_ok (h := h) X G rfl (c.fact 6 (f := .glo "UnknownName") rfl) (c.fact 7 (f := .exc "UnknownName") rfl)
  x_InvalidSuit := ext_ok (h := h) X G rfl (c.fact 8 (f := .glo "InvalidSuit") rfl) (c.fact 9 (f := .exc "InvalidSuit") rfl)
  t_COUNTS := tbl_ok (Γ := ⟨P, w, K, mg, base, Cn K⟩) (He.glo_ok X G (c.fact 27 (f := .glo "COUNTS") rfl)) (cr.tab 0) (He.ba cr.q.e).2
  b_bool := He.free_ok X G (c.fact 44 (f := .free "bool") rfl)
  b_len := He.free_ok X G (c.fact 45 (f := .free "len") rfl)
  b_range := He.free_ok X G (c.fact 46 (f := .free "range") rfl)
  b_list := He.free_ok X G (c.fact 47 (f := .free "list") rfl)
  b_int := He.free_ok X G (c.fact 48 (f := .free "int") rfl)
  b_sorted := He.free_ok X G (c.fact 49 (f := .free "sorted") rfl)
  b_enumerate := He.free_ok X G (c.fact 50 (f := .free "enumerate") rfl)
  b_isinstance := He.free_ok X G (c.fact 51 (f := .free "isinstance") rfl)
  b_min := He.free_ok X G (c.fact 52 (f := .free "min") rfl)
  b_max := He.free_ok X G (c.fact 53 (f := .free "max") rfl)
  b_abs := He.free_ok X G (c.fact 54 (f := .free "abs") rfl)
  b_reversed := He.free_ok X G (c.fact 55 (f := .free "reversed") rfl)
  b_str := He.free_ok X G (c.fact 56 (f := .free "str") rfl)
  b_tuple := He.free_ok X G (c.fact 57 (f := .free "tuple") rfl)
  b_repr := He.free_ok X G (c.fact 58 (f := .free "repr") rfl)
  b_ValueError := He.free_ok X G (c.fact 59 (f := .free "ValueError") rfl)
  b_all := He.free_ok X G (c.fact 60 (f := .free "all") rfl)
end Sim

namespace Sim
abbrev TT := Tt
end Sim

set_option autoImplicit false
set_option linter.all false
set_option maxRecDepth 100000
namespace Sim
open PySem L2
/-! ### the mirrors' pieces, where they have a value -/
theorem look_put {κ α : Type} [DecidableEq κ] (d : List (κ × α)) (k : κ) (v : α) (x : κ) : look (put d k v) x = if x = k then some v else look d x := by
  induction d with
  | nil =>
    by_cases e : x = k
    · subst e; simp [put, look]
    · simp [put, look, e, Ne.symm e]
  | cons q r ih =>
    have hput : put (q :: r) k v = if q.1 = k then (q.1, v) :: (if (r.any fun kv => decide (kv.1 = k)) = true then put r k v else r) else q :: put r k v := by
      unfold put
      by_cases e : q.1 = k
      · simp only [List.any_cons, e, decide_true, Bool.true_or, if_true, List.map_cons]
        by_cases a : (r.any fun kv => decide (kv.1 = k)) = true
        · simp [a]
        · simp only [a]
          simp only [Bool.false_eq_true, if_false, List.cons.injEq, true_and]
          rw [List.map_congr_left (g := id)]
          · simp
          · intro kv hkv
            rw [if_neg]
            · rfl
            · intro z
              exact a (List.any_eq_true.mpr ⟨kv, hkv, by simp [z]⟩)
      · simp only [List.any_cons, e, decide_false, Bool.false_or, if_false, List.map_cons]
        split <;> simp_all
    rw [hput]
    by_cases e : q.1 = k
    · rw [if_pos e]
      by_cases z : x = k
      · rw [if_pos z, look_pos (by rw [e, z])]
      · rw [if_neg z, look_neg (by rw [e]; exact Ne.symm z), look_neg (by rw [e]; exact Ne.symm z)]
        split
        · rw [ih, if_neg z]
        · rfl
    · rw [if_neg e]
      by_cases z : q.1 = x
      · rw [look_pos z, look_pos z, if_neg (by rw [← z]; exact e)]
      · rw [look_neg z, look_neg z, ih]
theorem look_some_mem {κ α : Type} [DecidableEq κ] {d : List (κ × α)} {x : κ} : (look d x).isSome = true ↔ x ∈ d.map (·.1) := by
  induction d with
  | nil => simp [look]
  | cons q r ih =>
    by_cases e : q.1 = x
    · rw [look_pos e]; simp [e]
    · rw [look_neg e, ih]; simp [Ne.symm e]
theorem look_none_mem {κ α : Type} [DecidableEq κ] {d : List (κ × α)} {x : κ} : look d x = none ↔ x ∉ d.map (·.1) := by
  rw [← look_some_mem]
  cases look d x <;> simp
theorem put_keys' {κ α : Type} [DecidableEq κ] (d : List (κ × α)) (k : κ) (v : α) : (put d k v).map (·.1) = if k ∈ d.map (·.1) then d.map (·.1) else d.map (·.1) ++ [k] := by
  unfold put
  have e : (d.any fun kv => decide (kv.1 = k)) = true ↔ k ∈ d.map (·.1) := by
    simp [List.any_eq_true]
  by_cases h : k ∈ d.map (·.1)
  · rw [if_pos (e.mpr h), if_pos h, List.map_map]
    refine List.map_congr_left fun kv _ => ?_
    simp only [Function.comp]
    split <;> rfl
  · rw [if_neg (fun z => h (e.mp z)), if_neg h]; simp
theorem put_nodup {κ α : Type} [DecidableEq κ] {d : List (κ × α)} {k : κ} {v : α} (h : (d.map (·.1)).Nodup) : ((put d k v).map (·.1)).Nodup := by
  rw [put_keys']
  split
  · exact h
  · rw [List.nodup_append]
    exact ⟨h, by simp, fun a ha b hb e => by simp at hb; subst hb; subst e; contradiction⟩
theorem put_mem {κ α : Type} [DecidableEq κ] {d : List (κ × α)} {k : κ} {v : α} {x : κ} : x ∈ (put d k v).map (·.1) ↔ x = k ∨ x ∈ d.map (·.1) := by
  rw [put_keys']
  split
  · constructor
    · exact .inr
    · rintro (h | h)
      · rw [h]; assumption
      · exact h
  · simp [or_comm]
theorem dput_ok {κ α : Type} [DecidableEq κ] {d : List (κ × α)} {k : κ} {v : α} (h : d.length + 1 ≤ BIG) : dput d k v = some (put d k v) := by unfold dput; rw [if_pos h]
theorem push_ok {α : Type} {xs : List α} {x : α} (h : xs.length + 1 ≤ BIG) : push xs x = some (xs ++ [x]) := by unfold push; rw [if_pos h]
theorem pcat_ok {α : Type} {xs ys : List α} (h : xs.length + ys.length ≤ BIG) : pcat xs ys = some (xs ++ ys) := by unfold pcat; rw [if_pos h]
theorem pmod_ok {i j : Int} (h : 0 < j) : pmod i j = some (i % j) := by unfold pmod; rw [if_pos h]
theorem pdiv_ok {i j : Int} (h : 0 < j) (h2 : j.natAbs < 1073741824) : pdiv i j = some (i / j) := by unfold pdiv; rw [if_pos ⟨h, h2⟩]
theorem pmul_ok {i j : Int} (h : i.natAbs < 2 ^ 64 ∨ j.natAbs < 2 ^ 64) : pmul i j = some (i * j) := by unfold pmul; rw [if_pos h]
theorem prange_ok {i j : Int} (h : i.natAbs < 2 ^ 62) (h2 : j.natAbs < 2 ^ 62) : prange i j = some (rangeL i j) := by unfold prange; rw [if_pos ⟨h, h2⟩]
theorem ppopAt_ok {α : Type} {xs : List α} {i : Nat} {y : α} (h : xs.length ≤ BIG) (e : xs[i]? = some y) : ppopAt xs (i : Int) = some (y, xs.eraseIdx i) := by
  unfold ppopAt
  rw [if_pos ⟨by omega, h⟩, Int.toNat_natCast, e]
  rfl
theorem pindex_ok {α : Type} [DecidableEq α] {xs ys : List α} {x : α} (h : x ∉ xs) : pindex (xs ++ x :: ys) x = some (xs.length : Int) := by
  unfold pindex
  rw [if_pos (by simp)]
  congr 1
  congr 1
  induction xs with
  | nil => simp [List.findIdx_cons]
  | cons a r ih =>
    have h1 : a ≠ x := fun e => h (by simp [e])
    have h2 : x ∉ r := fun e => h (by simp [e])
    simp [List.findIdx_cons, h1, ih h2]
theorem isIn_iff {α : Type} [DecidableEq α] {x : α} {xs : List α} : isIn x xs = true ↔ x ∈ xs := by simp [isIn]
/-! loops -/
theorem forP_inv {S α : Type} {f : S → α → Option S} {xs : List α} (I : List α → S → Prop) (hs : ∀ dn x rs s, xs = dn ++ x :: rs → I dn s → ∃ s', f s x = some s' ∧ I (dn ++ [x]) s') {s0 : S} (h0 : I [] s0) : ∃ s', forP f s0 xs = some s' ∧ I xs s' := by
  have : ∀ (rs dn : List α) (s : S), xs = dn ++ rs → I dn s → ∃ s', forP f s rs = some s' ∧ I xs s' := by
    intro rs
    induction rs with
    | nil => intro dn s e h; rw [List.append_nil] at e; subst e; exact ⟨s, rfl, h⟩
    | cons x r ih =>
      intro dn s e h
      obtain ⟨s1, e1, h1⟩ := hs dn x r s e h
      obtain ⟨s2, e2, h2⟩ := ih (dn ++ [x]) s1 (by rw [e]; simp) h1
      exact ⟨s2, by show (f s x).bind _ = _; rw [e1]; exact e2, h2⟩
  exact this xs [] s0 rfl h0
/-- a loop that may be left: by a return alone -/
theorem forF_inv {S α L β C : Type} {f : S → α → Option (Fl S S β C)} {xs : List α} (I : List α → S → Prop) (R : β → C → Prop)
    (hs : ∀ dn x rs s, xs = dn ++ x :: rs → I dn s → (∃ s', f s x = some (.nx s') ∧ I (dn ++ [x]) s') ∨ ∃ b c, f s x = some (.ret b c) ∧ R b c) {s0 : S} (h0 : I [] s0) :
    (∃ s', forF (L := L) f s0 xs = some (.nx s') ∧ I xs s') ∨ ∃ b c, forF (L := L) f s0 xs = some (.ret b c) ∧ R b c := by
  have : ∀ (rs dn : List α) (s : S), xs = dn ++ rs → I dn s → (∃ s', forF (L := L) f s rs = some (.nx s') ∧ I xs s') ∨ ∃ b c, forF (L := L) f s rs = some (.ret b c) ∧ R b c := by
    intro rs
    induction rs with
    | nil => intro dn s e h; rw [List.append_nil] at e; subst e; exact .inl ⟨s, rfl, h⟩
    | cons x r ih =>
      intro dn s e h
      rcases hs dn x r s e h with ⟨s1, e1, h1⟩ | ⟨b, c, e1, h1⟩
      · rcases ih (dn ++ [x]) s1 (by rw [e]; simp) h1 with ⟨s2, e2, h2⟩ | ⟨b, c, e2, h2⟩
        · exact .inl ⟨s2, by show (f s x).bind _ = _; rw [e1]; exact e2, h2⟩
        · exact .inr ⟨b, c, by show (f s x).bind _ = _; rw [e1]; exact e2, h2⟩
      · exact .inr ⟨b, c, by show (f s x).bind _ = _; rw [e1]; rfl, h1⟩
  exact this xs [] s0 rfl h0
theorem whileP_inv {S : Type} {c : S → Option Bool} {f : S → Option S} (I : S → Prop) (μ : S → Nat) (h : ∀ s, I s → ∃ b, c s = some b ∧ (b = true → ∃ s', f s = some s' ∧ I s' ∧ μ s' < μ s)) :
    ∀ n s, I s → μ s < n → ∃ s', whileP c f n s = some s' ∧ I s' ∧ c s' = some false
  | 0, s, _, hn => absurd hn (Nat.not_lt_zero _)
  | n + 1, s, hi, hn => by
    obtain ⟨b, e, hb⟩ := h s hi
    unfold whileP
    rw [e]
    cases b with
    | false => exact ⟨s, rfl, hi, e⟩
    | true =>
      obtain ⟨s1, e1, h1, h2⟩ := hb rfl
      show ∃ s', ((f s).bind fun s' => whileP c f n s') = some s' ∧ _
      rw [e1]
      exact whileP_inv I μ h n s1 h1 (by omega)
theorem whileF_inv {S L β C : Type} {c : S → Option Bool} {f : S → Option (Fl S S β C)} (I : S → Prop) (R : β → C → Prop) (μ : S → Nat)
    (h : ∀ s, I s → ∃ b, c s = some b ∧ (b = true → (∃ s', f s = some (.nx s') ∧ I s' ∧ μ s' < μ s) ∨ ∃ b c, f s = some (.ret b c) ∧ R b c)) :
    ∀ n s, I s → μ s < n → (∃ s', whileF (L := L) c f n s = some (.nx s') ∧ I s' ∧ c s' = some false) ∨ ∃ b c', whileF (L := L) c f n s = some (.ret b c') ∧ R b c'
  | 0, s, _, hn => absurd hn (Nat.not_lt_zero _)
  | n + 1, s, hi, hn => by
    obtain ⟨b, e, hb⟩ := h s hi
    unfold whileF
    rw [e]
    cases b with
    | false => exact .inl ⟨s, rfl, hi, e⟩
    | true =>
      show (∃ s', ((f s).bind (flNext fun s' => whileF c f n s')) = some (.nx s') ∧ _) ∨ ∃ b c', ((f s).bind (flNext fun s' => whileF c f n s')) = some (.ret b c') ∧ _
      rcases hb rfl with ⟨s1, e1, h1, h2⟩ | ⟨b, c', e1, h1⟩
      · rw [e1]
        exact whileF_inv I R μ h n s1 h1 (by omega)
      · rw [e1]
        exact .inr ⟨b, c', rfl, h1⟩
theorem lcM_ok {α γ : Type} {t : α → Option Bool} {f : α → Option γ} {t' : α → Bool} {f' : α → γ} : ∀ {xs : List α}, (∀ x ∈ xs, t x = some (t' x)) → (∀ x ∈ xs, t' x = true → f x = some (f' x)) → lcM t f xs = some ((xs.filter t').map f')
  | [], _, _ => rfl
  | x :: r, ht, hf => by
    have ih := lcM_ok (xs := r) (fun y hy => ht y (by simp [hy])) (fun y hy => hf y (by simp [hy]))
    unfold lcM
    rw [ht x (by simp)]
    show (if t' x = true then _ else _) = _
    by_cases h : t' x = true
    · rw [if_pos h, hf x (by simp) h, ih]
      simp [h]
    · rw [if_neg h, ih]
      simp [h]
theorem lcB_ok {α γ : Type} {t : α → Option Bool} {f : α → Option γ} {xs : List α} (t' : α → Bool) (f' : α → γ) (hl : xs.length ≤ BIG) (ht : ∀ x ∈ xs, t x = some (t' x)) (hf : ∀ x ∈ xs, t' x = true → f x = some (f' x)) : lcB t f xs = some ((xs.filter t').map f') := by
  unfold lcB
  rw [if_pos hl]
  exact lcM_ok ht hf
theorem dcM_ok {α κ γ : Type} [DecidableEq κ] {t : α → Option Bool} {fk : α → Option κ} {fv : α → Option γ} {t' : α → Bool} {k' : α → κ} {v' : α → γ} : ∀ {xs : List α} (d : List (κ × γ)), (∀ x ∈ xs, t x = some (t' x)) → (∀ x ∈ xs, t' x = true → fk x = some (k' x) ∧ fv x = some (v' x)) →
    dcM t fk fv d xs = some ((xs.filter t').foldl (fun d x => put d (k' x) (v' x)) d)
  | [], _, _, _ => rfl
  | x :: r, d, ht, hf => by
    have ih := fun d => dcM_ok (xs := r) (k' := k') (v' := v') d (fun y hy => ht y (by simp [hy])) (fun y hy => hf y (by simp [hy]))
    unfold dcM
    rw [ht x (by simp)]
    show (if t' x = true then _ else _) = _
    by_cases h : t' x = true
    · obtain ⟨h1, h2⟩ := hf x (by simp) h
      rw [if_pos h, h1, h2]
      simp [h, ih]
    · rw [if_neg h, ih]
      simp [h]
theorem foldl_put_nodup {α κ γ : Type} [DecidableEq κ] {k' : α → κ} {v' : α → γ} : ∀ {xs : List α} {d : List (κ × γ)}, (d.map (·.1)).Nodup → (xs.map k').Nodup → (∀ x ∈ xs, k' x ∉ d.map (·.1)) → xs.foldl (fun d x => put d (k' x) (v' x)) d = d ++ xs.map fun x => (k' x, v' x)
  | [], d, _, _, _ => by simp
  | x :: r, d, h1, h2, h3 => by
    have hx := h3 x (by simp)
    have e : put d (k' x) (v' x) = d ++ [(k' x, v' x)] := by
      unfold put
      rw [if_neg]
      intro z
      obtain ⟨kv, q1, q2⟩ := List.any_eq_true.mp z
      exact hx (by simp at q2; rw [← q2]; exact List.mem_map_of_mem q1)
    have h2' := List.nodup_cons.mp h2
    rw [List.foldl_cons, foldl_put_nodup (put_nodup h1) h2'.2 fun y hy hm => ?_, e]
    · simp
    · rcases put_mem.mp hm with q | q
      · exact h2'.1 (List.mem_map.mpr ⟨y, hy, q⟩)
      · exact h3 y (by simp [hy]) q
/-- a dict of what is all different -/
theorem dcB_ok {α κ γ : Type} [DecidableEq κ] {t : α → Option Bool} {fk : α → Option κ} {fv : α → Option γ} {xs : List α} (t' : α → Bool) (k' : α → κ) (v' : α → γ) (hl : xs.length ≤ BIG) (ht : ∀ x ∈ xs, t x = some (t' x)) (hf : ∀ x ∈ xs, t' x = true → fk x = some (k' x) ∧ fv x = some (v' x)) (nd : ((xs.filter t').map k').Nodup) :
    dcB t fk fv xs = some ((xs.filter t').map fun x => (k' x, v' x)) := by
  unfold dcB
  rw [if_pos hl, dcM_ok [] ht hf, foldl_put_nodup (d := []) List.nodup_nil nd (by simp)]
  rfl
theorem look_map {α κ γ : Type} [DecidableEq κ] {k' : α → κ} {v' : α → γ} {xs : List α} (inj : ∀ x ∈ xs, ∀ y ∈ xs, k' x = k' y → x = y) {x : α} (hx : x ∈ xs) : look (xs.map fun x => (k' x, v' x)) (k' x) = some (v' x) := by
  induction xs with
  | nil => simp at hx
  | cons y r ih =>
    rw [List.map_cons]
    by_cases e : k' y = k' x
    · rw [look_pos e, inj y (by simp) x hx e]
    · rw [look_neg e]
      refine ih (fun a ha b hb => inj a (by simp [ha]) b (by simp [hb])) ?_
      rcases List.mem_cons.mp hx with q | q
      · exact absurd (by rw [q]) e
      · exact q
theorem look_map_self {γ : Type} {v' : Int → γ} {xs : List Int} {x : Int} : look (xs.map fun x => (x, v' x)) x = if x ∈ xs then some (v' x) else none := by
  by_cases h : x ∈ xs
  · rw [if_pos h]
    exact look_map (k' := fun x => x) (fun a _ b _ e => e) h
  · rw [if_neg h, look_none_mem]
    simpa using h
/-! items and slices -/
theorem atI_nat {α : Type} {xs : List α} {i : Nat} {x : α} (e : xs[i]? = some x) : atI xs (i : Int) = some x := by
  have h : i < xs.length := (List.getElem?_eq_some_iff.mp e).1
  unfold atI ixN
  rw [if_pos (by omega)]
  simp only [Int.toNat_natCast]
  rw [if_pos (by omega)]
  exact e
theorem atI_zero {α : Type} {x : α} {r : List α} : atI (x :: r) (0 : Int) = some x := atI_nat (i := 0) rfl
theorem atI_last {α : Type} {xs : List α} {x : α} : atI (xs ++ [x]) (-(1 : Int)) = some x := by
  unfold atI ixN
  rw [if_neg (by omega)]
  have hl : (xs ++ [x]).length = xs.length + 1 := by simp
  rw [if_pos (by rw [hl]; omega)]
  have e : (-(1 : Int) + ((xs ++ [x]).length : Int)).toNat = xs.length := by rw [hl]; omega
  show (xs ++ [x])[_]? = some x
  rw [e]
  simp
theorem cut_pre {α : Type} {xs ys : List α} : cut (xs ++ ys) none (some (xs.length : Int)) = xs := by
  unfold cut
  rw [show HT.sIx (xs ++ ys).length 0 none = 0 from rfl, HT.sIx_nat]
  rw [Nat.min_eq_left (by simp)]
  simp
theorem cut_suf {α : Type} {xs ys : List α} : cut (xs ++ ys) (some (xs.length : Int)) none = ys := by
  unfold cut
  rw [show HT.sIx (xs ++ ys).length (xs ++ ys).length none = (xs ++ ys).length from rfl, HT.sIx_nat]
  rw [Nat.min_eq_left (by simp)]
  simp
end Sim

set_option autoImplicit false
set_option linter.all false
set_option maxRecDepth 100000
namespace Sim
open PySem L2
/-! ### the mirrors' outcomes, from the end backwards -/
/-- o has a value, and Q holds of it -/
def Gets {α : Type} (o : Option α) (Q : α → Prop) : Prop := ∃ r, o = some r ∧ Q r
def FQ {S S' L β C : Type} (N : S → Prop) (Q : Fl S' L β C → Prop) : Fl S L β C → Prop
  | .nx s => N s
  | .bk l => Q (.bk l)
  | .ct l => Q (.ct l)
  | .ret b c => Q (.ret b c)
  | .err e c => Q (.err e c)
def LQ {S L β C : Type} (N : S → Prop) (Q : Fl S L β C → Prop) : Fl S S β C → Prop
  | .nx s => N s
  | .ct s => N s
  | .bk s => Q (.nx s)
  | .ret b c => Q (.ret b c)
  | .err e c => Q (.err e c)
section
variable {α β γ S S1 S2 L C : Type}
theorem gets_some {x : α} {Q : α → Prop} (q : Q x) : Gets (some x) Q := ⟨x, rfl, q⟩
theorem gets_eq {o : Option α} {x : α} {Q : α → Prop} (e : o = some x) (q : Q x) : Gets o Q := ⟨x, e, q⟩
theorem gets_mono {o : Option α} {Q Q' : α → Prop} (h : Gets o Q) (k : ∀ x, Q x → Q' x) : Gets o Q' := by
  obtain ⟨x, e, q⟩ := h
  exact ⟨x, e, k x q⟩
theorem gets_bind {o : Option α} {k : α → Option β} {Q : β → Prop} (h : Gets o fun x => Gets (k x) Q) : Gets (o.bind k) Q := by
  obtain ⟨x, e, y, e2, q⟩ := h
  exact ⟨y, by rw [e]; exact e2, q⟩
/-- a step whose value is known -/
theorem gets_step {o : Option α} {x : α} {k : α → Option β} {Q : β → Prop} (e : o = some x) (h : Gets (k x) Q) : Gets (o.bind k) Q := by
  rw [e]; exact h
theorem gets_flb {m1 : Option (Fl S1 L β C)} {m2 : S1 → Option (Fl S2 L β C)} {Q : Fl S2 L β C → Prop} (h : Gets m1 (FQ (fun s => Gets (m2 s) Q) Q)) : Gets (flb m1 m2) Q := by
  obtain ⟨x, e, q⟩ := h
  unfold flb
  rw [e]
  cases x with
  | nx s => exact q
  | bk l => exact ⟨_, rfl, q⟩
  | ct l => exact ⟨_, rfl, q⟩
  | ret b c => exact ⟨_, rfl, q⟩
  | err e c => exact ⟨_, rfl, q⟩
theorem gets_if {b : Bool} {x y : Option α} {Q : α → Prop} (h1 : b = true → Gets x Q) (h2 : b = false → Gets y Q) : Gets (if b = true then x else y) Q := by
  cases b with
  | true => exact h1 rfl
  | false => exact h2 rfl
theorem gets_forP {f : S → α → Option S} {xs : List α} {s0 : S} {Q : S → Prop} (I : List α → S → Prop) (h0 : I [] s0) (hs : ∀ dn x rs s, xs = dn ++ x :: rs → I dn s → Gets (f s x) (I (dn ++ [x]))) (hq : ∀ s, I xs s → Q s) : Gets (forP f s0 xs) Q := by
  obtain ⟨s, e, q⟩ := forP_inv (xs := xs) I hs h0
  exact ⟨s, e, hq s q⟩
theorem gets_forF {f : S → α → Option (Fl S S β C)} {xs : List α} {s0 : S} {Q : Fl S L β C → Prop} (I : List α → S → Prop) (h0 : I [] s0) (hs : ∀ dn x rs s, xs = dn ++ x :: rs → I dn s → Gets (f s x) (LQ (I (dn ++ [x])) Q)) (hq : ∀ s, I xs s → Q (.nx s)) : Gets (forF f s0 xs) Q := by
  have : ∀ (rs dn : List α) (s : S), xs = dn ++ rs → I dn s → Gets (forF (L := L) f s rs) Q := by
    intro rs
    induction rs with
    | nil => intro dn s e h; rw [List.append_nil] at e; subst e; exact ⟨_, rfl, hq s h⟩
    | cons x r ih =>
      intro dn s e h
      obtain ⟨o, e1, h1⟩ := hs dn x r s e h
      show Gets ((f s x).bind _) Q
      rw [e1]
      cases o with
      | nx s1 => exact ih (dn ++ [x]) s1 (by rw [e]; simp) h1
      | ct s1 => exact ih (dn ++ [x]) s1 (by rw [e]; simp) h1
      | bk s1 => exact ⟨_, rfl, h1⟩
      | ret b c => exact ⟨_, rfl, h1⟩
      | err e c => exact ⟨_, rfl, h1⟩
  exact this xs [] s0 rfl h0
theorem gets_whileP {c : S → Option Bool} {f : S → Option S} {Q : S → Prop} (I : S → Prop) (μ : S → Nat) {n : Nat} {s0 : S} (h0 : I s0) (hn : μ s0 < n) (h : ∀ s, I s → Gets (c s) fun b => (b = true → Gets (f s) fun s' => I s' ∧ μ s' < μ s) ∧ (b = false → Q s)) : Gets (whileP c f n s0) Q := by
  induction n generalizing s0 with
  | zero => exact absurd hn (Nat.not_lt_zero _)
  | succ n ih =>
    obtain ⟨b, e, hb, hq⟩ := h s0 h0
    unfold whileP
    rw [e]
    cases b with
    | false => exact ⟨s0, rfl, hq rfl⟩
    | true =>
      obtain ⟨s1, e1, h1, h2⟩ := hb rfl
      show Gets ((f s0).bind fun s' => whileP c f n s') Q
      rw [e1]
      exact ih h1 (by omega)
theorem gets_whileF {c : S → Option Bool} {f : S → Option (Fl S S β C)} {Q : Fl S L β C → Prop} (I : S → Prop) (μ : S → Nat) {n : Nat} {s0 : S} (h0 : I s0) (hn : μ s0 < n)
    (h : ∀ s, I s → Gets (c s) fun b => (b = true → Gets (f s) (LQ (fun s' => I s' ∧ μ s' < μ s) Q)) ∧ (b = false → Q (.nx s))) : Gets (whileF c f n s0) Q := by
  induction n generalizing s0 with
  | zero => exact absurd hn (Nat.not_lt_zero _)
  | succ n ih =>
    obtain ⟨b, e, hb, hq⟩ := h s0 h0
    unfold whileF
    rw [e]
    cases b with
    | false => exact ⟨_, rfl, hq rfl⟩
    | true =>
      obtain ⟨o, e1, h1⟩ := hb rfl
      show Gets ((f s0).bind (flNext fun s' => whileF c f n s')) Q
      rw [e1]
      cases o with
      | nx s1 => exact ih h1.1 (by have := h1.2; omega)
      | ct s1 => exact ih h1.1 (by have := h1.2; omega)
      | bk s1 => exact ⟨_, rfl, h1⟩
      | ret b c => exact ⟨_, rfl, h1⟩
      | err e c => exact ⟨_, rfl, h1⟩
theorem gets_and {a b : Option Bool} {Q : Bool → Prop} (h : Gets a fun x => (x = true → Gets b Q) ∧ (x = false → Q false)) : Gets (andM a b) Q := by
  obtain ⟨x, e, h1, h2⟩ := h
  unfold andM
  rw [e]
  cases x with
  | true => exact h1 rfl
  | false => exact ⟨_, rfl, h2 rfl⟩
theorem gets_or {a b : Option Bool} {Q : Bool → Prop} (h : Gets a fun x => (x = true → Q true) ∧ (x = false → Gets b Q)) : Gets (orM a b) Q := by
  obtain ⟨x, e, h1, h2⟩ := h
  unfold orM
  rw [e]
  cases x with
  | true => exact ⟨_, rfl, h1 rfl⟩
  | false => exact h2 rfl
end
end Sim

set_option Elab.async false
set_option autoImplicit false
set_option linter.all false
set_option maxRecDepth 100000
set_option maxHeartbeats 1000000
/-! the draws of a state -/
namespace Sim
open PySem
theorem pmodK {i j : Int} (h : 0 < j) : pmod i j = some (i % j) := by unfold pmod; rw [if_pos h]
theorem pdivK {i j : Int} (h : 0 < j) (h2 : j < 1000000) : pdiv i j = some (i / j) := by unfold pdiv; rw [if_pos ⟨h, by omega⟩]
theorem mixed_ok (c : Int) : Gets (m__law_mixed (c, ())) fun _ => True := by
  unfold m__law_mixed mb__law_mixed
  refine gets_bind (gets_bind (gets_eq (pmodK (by decide)) (gets_step rfl (gets_bind (gets_bind (gets_eq (prange_ok (by decide) (by decide)) ?_))))))
  obtain ⟨s, e, _⟩ := forP_inv (f := fun (s3 : Int × Int) (x4 : Int) =>
    ((((pmul s3.1 (48271 : Int)).bind fun w6 => some (w6 + (12820163 : Int))).bind fun w7 => (pmul (7 : Int) x4).bind fun w8 => some (w7 + w8)).bind fun w9 => pmod w9 (1000000007 : Int)).bind fun (z5 : Int) =>
    ((pmul s3.2 (1000000007 : Int)).bind fun w11 => some (w11 + z5)).bind fun (z10 : Int) =>
    (some (z5, z10))) (xs := rangeL 0 6) (fun _ _ => True) (fun dn x rs s _ _ => by
      rw [pmul_ok (.inr (by decide)), pmul_ok (.inl (by decide)), pmul_ok (.inr (by decide))]
      simp only [Option.bind_some]
      rw [pmodK (by decide)]
      exact ⟨_, rfl, trivial⟩) (s0 := (c % 1000000007, 0)) trivial
  exact ⟨s, e, _, rfl, _, rfl, trivial⟩
/-- a draw below a limit -/
def TakeQ (n : Int) (z : OZ) (r : Int × OZ) : Prop := (0 ≤ r.1 ∧ r.1 < n) ∧ r.2.l.length ≤ z.l.length
theorem take_ok {n : Int} {z : OZ} (h0 : 0 < n) (h1 : n < 1000000) (hz : z.l.length ≤ 63) : Gets (m__law_take (n, ()) z) (TakeQ n z) := by
  unfold m__law_take mb__law_take
  have fin : ∀ s1 : OZ, s1.l.length ≤ z.l.length → Gets ((pmod (s1).n n).bind fun (z7 : Int) =>
      (pdiv (s1).n n).bind fun (z8 : Int) =>
      ((some z7).bind fun x => some (x, (OZ.mk (s1).l z8))).bind fun b => some (Fl.ret (S := Empty) (L := Empty) b.1 b.2)) fun r => Gets (retI r) (TakeQ n z) := fun s1 hs => by
    refine gets_step (pmodK h0) (gets_step (pdivK h0 h1) (gets_some (gets_some ⟨⟨Int.emod_nonneg _ (by omega), Int.emod_lt_of_pos _ h0⟩, hs⟩)))
  refine gets_bind (gets_bind (gets_mono (Q := fun s1 : OZ => s1.l.length ≤ z.l.length) ?_ fun s1 q => fin s1 q))
  refine gets_bind ?_
  rcases z with ⟨l, m⟩
  cases l with
  | nil =>
    have : ∃ b : Bool, (andM (some (decide (m < n))) (some (decide ((0 : Int) < (([] : List Int).length : Int))))) = some false := ⟨false, by cases decide (m < n) <;> rfl⟩
    obtain ⟨_, e⟩ := this
    exact gets_eq e (gets_some (Nat.le_refl _))
  | cons y r =>
    have hl : (y :: r).length ≤ 63 := hz
    have : ∃ b : Bool, (andM (some (decide (m < n))) (some (decide ((0 : Int) < ((y :: r).length : Int))))) = some b := by cases decide (m < n) <;> exact ⟨_, rfl⟩
    obtain ⟨b, e⟩ := this
    refine gets_eq e (gets_if (fun _ => ?_) fun _ => gets_some (Nat.le_refl _))
    have ep : ozPop ⟨y :: r, m⟩ = some (y, ⟨r, m⟩) := by
      show (if (y :: r).length ≤ BIG then some (y, (⟨r, m⟩ : OZ)) else none) = _
      rw [if_pos (Nat.le_trans hl (by decide))]
    refine gets_bind (gets_bind (gets_eq ep (gets_some ?_)))
    have epw : ppow (10 : Int) (18 : Int) = some ((10 : Int) ^ 18) := by unfold ppow; rw [if_pos (by decide)]; rfl
    refine gets_bind (gets_mono (Q := fun _ => True) ?_ fun s4 _ => gets_some (by show r.length ≤ (y :: r).length; simp))
    refine gets_bind (gets_bind (gets_eq epw (gets_some (gets_if (fun _ => ?_) fun _ => gets_some trivial))))
    obtain ⟨v, ev, _⟩ := mixed_ok (absI y)
    exact gets_bind (gets_eq ev (gets_some trivial))
end Sim

set_option autoImplicit false
set_option linter.all false
set_option maxRecDepth 100000
namespace Sim
open PySem L2
/-! ### texts as lists of numbers -/
def tl (z : Tt) : List Nat := z.s.cps.toList
theorem tl_inj {x y : Tt} (h : tl x = tl y) : x = y := Tt.ext' (by
  obtain ⟨⟨a⟩, ha⟩ := x
  obtain ⟨⟨b⟩, hb⟩ := y
  have : a = b := Array.ext' h
  subst this
  rfl)
theorem tl_len (z : Tt) : z.s.length = (tl z).length := by simp [tl, Str.length]
theorem slen_ok {z : Tt} (h : (tl z).length ≤ 1000000) : slen z = some ((tl z).length : Int) := by
  have big : BIG = 1000000 := rfl
  unfold slen
  rw [tl_len, if_pos (by omega)]
theorem sadd_ok {x y : Tt} (h : (tl x).length + (tl y).length ≤ 1000000) : ∃ z, sadd x y = some z ∧ tl z = tl x ++ tl y := by
  have big : BIG = 1000000 := rfl
  unfold sadd
  rw [if_pos (by rw [tl_len, tl_len]; omega)]
  refine ⟨_, rfl, ?_⟩
  show (x.s.cps ++ y.s.cps).toList = _
  simp [tl]
theorem scut_eq {x : Tt} {lo hi : Option Int} (h : (tl x).length ≤ 1000000) : ∃ z, scut x lo hi = some z ∧ tl z = cut (tl x) lo hi := by
  have big : BIG = 1000000 := rfl
  unfold scut
  rw [if_pos (by rw [tl_len]; omega)]
  refine ⟨_, rfl, ?_⟩
  have e : x.s.length = (tl x).length := tl_len x
  show (cutS x.s lo hi).cps.toList = _
  unfold cut cutS
  rw [e]
  show (List.toArray _).toList = _
  simp [tl]
theorem cut_to {α : Type} {xs : List α} {i : Nat} : cut xs none (some (i : Int)) = xs.take i := by
  unfold cut
  rw [show HT.sIx xs.length 0 none = 0 from rfl, HT.sIx_nat]
  simp only [List.drop_zero, Nat.sub_zero]
  rw [List.take_eq_take_iff]
  omega
theorem cut_from {α : Type} {xs : List α} {i : Nat} : cut xs (some (i : Int)) none = xs.drop i := by
  unfold cut
  rw [show HT.sIx xs.length xs.length none = xs.length from rfl, HT.sIx_nat]
  rw [List.take_of_length_le (by rw [List.length_drop]; omega)]
  by_cases h : i ≤ xs.length
  · rw [Nat.min_eq_left h]
  · rw [Nat.min_eq_right (by omega), List.drop_of_length_le (Nat.le_refl _), List.drop_of_length_le (by omega)]
theorem scut_to {x : Tt} {i : Nat} (h : (tl x).length ≤ 1000000) : ∃ z, scut x none (some (i : Int)) = some z ∧ tl z = (tl x).take i := by
  obtain ⟨z, e, q⟩ := scut_eq (lo := none) (hi := some (i : Int)) h
  exact ⟨z, e, by rw [q, cut_to]⟩
theorem scut_from {x : Tt} {i : Nat} (h : (tl x).length ≤ 1000000) : ∃ z, scut x (some (i : Int)) none = some z ∧ tl z = (tl x).drop i := by
  obtain ⟨z, e, q⟩ := scut_eq (lo := some (i : Int)) (hi := none) h
  exact ⟨z, e, by rw [q, cut_from]⟩
theorem foldl_flat (x : Array Nat) : ∀ (n : Nat) (z : Array Nat), ((List.replicate n x).foldl (· ++ ·) z).toList = z.toList ++ (List.replicate n x.toList).flatten
  | 0, z => by simp
  | n + 1, z => by
    rw [List.replicate_succ, List.foldl_cons, foldl_flat x n, List.replicate_succ]
    simp
theorem srep_ok {x : Tt} {n : Nat} (h : n ≤ 1000) (hl : (tl x).length ≤ 1000) : ∃ z, srep x (n : Int) = some z ∧ tl z = (List.replicate n (tl x)).flatten := by
  unfold srep
  rw [if_pos ⟨by omega, by omega, by rw [tl_len]; omega⟩]
  refine ⟨_, rfl, ?_⟩
  show (Txt.mul x.s (n : Int)).cps.toList = _
  unfold Txt.mul
  by_cases c : (n : Int) < 1
  · have : n = 0 := by omega
    subst this
    rw [if_pos c]; rfl
  · rw [if_neg c]
    by_cases d : ((n : Int) == 1 || x.s.length == 0) = true
    · rw [if_pos d]
      rw [Bool.or_eq_true] at d
      rcases d with d | d
      · have : n = 1 := by
          have : (n : Int) = 1 := by simpa using d
          omega
        subst this
        simp [tl]
      · have d : x.s.length = 0 := by simpa using d
        rw [tl_len] at d
        have : tl x = [] := List.length_eq_zero_iff.mp d
        rw [this]
        have : x.s.cps.toList = [] := this
        rw [this]
        simp
    · rw [if_neg d]
      show ((List.replicate ((n : Int)).toNat x.s.cps).foldl (· ++ ·) #[]).toList = _
      rw [Int.toNat_natCast, foldl_flat]
      simp [tl]
theorem tl_chS (c : Ch) : tl (chS c) = [c.c] := rfl
theorem signs_eq (z : Tt) : (signs z).map (·.c) = tl z := by
  unfold signs tl
  rw [List.map_pmap]
  simp
theorem atS_nat {z : Tt} {i : Nat} {c : Nat} (hl : (tl z).length ≤ 1000000) (h : (tl z)[i]? = some c) : ∃ x : Ch, atS z (i : Int) = some x ∧ x.c = c := by
  have big : BIG = 1000000 := rfl
  unfold atS
  rw [tl_len, if_pos (by omega)]
  have h2 : ((signs z).map (·.c))[i]? = some c := by rw [signs_eq]; exact h
  rw [List.getElem?_map] at h2
  cases e : (signs z)[i]? with
  | none => rw [e] at h2; cases h2
  | some x =>
    rw [e] at h2
    exact ⟨x, atI_nat e, by simpa using h2⟩
/-- the small letters -/
def abc : Tt := Tt.mk "abcdefghijklmnopqrstuvwxyz" (by decide +kernel)
theorem tl_abc : tl abc = (List.range 26).map (97 + ·) := by decide +kernel
theorem abc_get {i : Nat} (h : i < 26) : (tl abc)[i]? = some (97 + i) := by
  rw [tl_abc, List.getElem?_map, List.getElem?_range h]
  rfl
theorem mem_abc {c : Nat} : c ∈ tl abc ↔ 97 ≤ c ∧ c < 123 := by
  rw [tl_abc, List.mem_map]
  constructor
  · rintro ⟨i, h, e⟩
    rw [List.mem_range] at h
    omega
  · rintro ⟨h1, h2⟩
    exact ⟨c - 97, List.mem_range.mpr (by omega), by omega⟩
/-- a letter at a place -/
theorem atS_abc {i : Int} (h0 : 0 ≤ i) (h : i < 26) : ∃ x : Ch, atS abc i = some x ∧ x.c = 97 + i.toNat := by
  have := atS_nat (z := abc) (i := i.toNat) (by rw [tl_abc]; simp) (abc_get (by omega))
  rwa [Int.toNat_of_nonneg h0] at this
/-- what makes a name -/
def NameT (z : Tt) : Prop := (1 ≤ (tl z).length ∧ (tl z).length ≤ 12) ∧ ∀ c ∈ tl z, 97 ≤ c ∧ c < 123
end Sim

set_option autoImplicit false
set_option linter.all false
set_option maxRecDepth 100000
namespace Sim
open PySem L2
instance (z : Tt) : Decidable (NameT z) := by unfold NameT; infer_instance
theorem inS_abc {c : Ch} : inS c k_LETTERS = true ↔ 97 ≤ c.c ∧ c.c < 123 := by
  unfold inS
  rw [decide_eq_true_iff]
  exact mem_abc
theorem is_name_ok {z : Tt} (hl : (tl z).length ≤ 1000000) : m_is_name (z, ()) = some (decide (NameT z)) := by
  have key : Gets (mb_is_name (z, ())) fun r => r = .ret (decide (NameT z)) () := by
    unfold mb_is_name
    refine gets_flb (gets_step (x := signs z) rfl ?_)
    refine gets_forF (fun dn _ => ∀ x ∈ dn, 97 ≤ x.c ∧ x.c < 123) (by simp) ?_ ?_
    · rintro dn x rs _ e h
      refine gets_flb ?_
      show Gets (if (!inS x k_LETTERS) = true then _ else _) _
      by_cases hx : inS x k_LETTERS = true
      · rw [hx]
        refine gets_some (gets_some fun y hy => ?_)
        rcases List.mem_append.mp hy with q | q
        · exact h y q
        · rw [List.mem_singleton.mp q]; exact inS_abc.mp hx
      · have hx' : inS x k_LETTERS = false := by simpa using hx
        rw [hx']
        refine gets_some ?_
        show Fl.ret false () = Fl.ret (decide (NameT z)) ()
        rw [decide_eq_false]
        rintro ⟨_, q⟩
        refine hx (inS_abc.mpr (q x.c ?_))
        rw [← signs_eq, e]
        simp
    · rintro _ h
      have h' : ∀ c ∈ tl z, 97 ≤ c ∧ c < 123 := fun c hc => by
        rw [← signs_eq] at hc
        obtain ⟨x, hx, q⟩ := List.mem_map.mp hc
        rw [← q]; exact h x hx
      show Gets (Option.bind (Option.bind (slen z) _) _) _
      rw [slen_ok hl]
      by_cases c1 : 1 ≤ (tl z).length
      · show Gets (Option.bind (if decide ((1 : Int) ≤ ((tl z).length : Int)) = true then _ else _) _) _
        rw [if_pos (by simp; omega)]
        refine gets_some ?_
        show Fl.ret (decide (((tl z).length : Int) ≤ 12)) () = _
        congr 1
        exact decide_eq_decide.mpr ⟨fun q => ⟨⟨c1, by omega⟩, h'⟩, fun q => by have := q.1.2; omega⟩
      · show Gets (Option.bind (if decide ((1 : Int) ≤ ((tl z).length : Int)) = true then _ else _) _) _
        rw [if_neg (by simp; omega)]
        refine gets_some ?_
        show Fl.ret false () = _
        rw [decide_eq_false]
        exact fun q => c1 q.1.1
  obtain ⟨r, e, q⟩ := key
  unfold m_is_name
  rw [e, q]
  rfl
end Sim

set_option autoImplicit false
set_option linter.all false
set_option maxRecDepth 100000
namespace Sim
open PySem L2
theorem nd_map {α β : Type} {g : α → β} : ∀ {xs : List α}, xs.Nodup → (∀ x ∈ xs, ∀ y ∈ xs, g x = g y → x = y) → (xs.map g).Nodup
  | [], _, _ => List.nodup_nil
  | a :: r, h, inj => by
    have h := List.nodup_cons.mp h
    rw [List.map_cons, List.nodup_cons]
    refine ⟨fun q => ?_, nd_map h.2 fun x hx y hy e => inj x (by simp [hx]) y (by simp [hy]) e⟩
    obtain ⟨y, hy, e⟩ := List.mem_map.mp q
    have := inj y (by simp [hy]) a (by simp) e
    exact h.1 (this ▸ hy)
theorem lcM_all {α γ : Type} {f : α → Option γ} (d : γ) : ∀ {xs : List α}, (∀ x ∈ xs, ∃ y, f x = some y) → lcM (fun _ => some true) f xs = some (xs.map fun x => (f x).getD d)
  | [], _ => rfl
  | x :: r, h => by
    obtain ⟨y, e⟩ := h x (by simp)
    have ih := lcM_all (f := f) d (xs := r) fun z hz => h z (by simp [hz])
    unfold lcM
    show Option.bind (f x) _ = _
    rw [List.map_cons, e]
    show Option.bind (lcM _ f r) _ = _
    rw [ih]
    rfl
theorem lcB_all {α γ : Type} {f : α → Option γ} (d : γ) {xs : List α} (hl : xs.length ≤ 1000000) (h : ∀ x ∈ xs, ∃ y, f x = some y) : lcB (fun _ => some true) f xs = some (xs.map fun x => (f x).getD d) := by
  have big : BIG = 1000000 := rfl
  unfold lcB
  rw [if_pos (by omega), lcM_all d h]
theorem get_erase_perm {α : Type} : ∀ {l : List α} {j : Nat} (h : j < l.length), (l[j] :: l.eraseIdx j).Perm l
  | [], _, h => absurd h (Nat.not_lt_zero _)
  | a :: r, 0, h => .refl _
  | a :: r, j + 1, h => by
    have hj : j < r.length := by simpa using h
    have ih := get_erase_perm (l := r) (j := j) hj
    show (r[j] :: a :: r.eraseIdx j).Perm (a :: r)
    exact (List.Perm.swap _ _ _).trans (List.Perm.cons a ih)
def LetT (z : Tt) : Prop := ∀ c ∈ tl z, 97 ≤ c ∧ c < 123
theorem mod26 (z : Int) : 0 ≤ z % 26 ∧ z % 26 < 26 := ⟨Int.emod_nonneg _ (by omega), Int.emod_lt_of_pos _ (by omega)⟩
/-- the words of the first kind -/
theorem wordA {base : Tt} {at' k st : Nat} (hb : (tl base).length ≤ 11) (hl : LetT base) :
    ∃ z, ((((scut base none (some (at' : Int))).bind fun w23 => (((pmod ((st : Int) + (k : Int)) (26 : Int)).bind fun w21 => atS abc w21).bind fun w22 => some (chS w22)).bind fun w24 => sadd w23 w24).bind fun w25 => (scut base (some (at' : Int)) none).bind fun w26 => sadd w25 w26)) = some z ∧
      tl z = (tl base).take at' ++ [97 + (st + k) % 26] ++ (tl base).drop at' := by
  obtain ⟨z1, e1, q1⟩ := scut_to (x := base) (i := at') (by omega)
  obtain ⟨z2, e2, q2⟩ := scut_from (x := base) (i := at') (by omega)
  have m := mod26 ((st : Int) + (k : Int))
  obtain ⟨c, e3, q3⟩ := atS_abc m.1 m.2
  have h1 : (tl z1).length ≤ 11 := by rw [q1, List.length_take]; omega
  have h2 : (tl z2).length ≤ 11 := by rw [q2, List.length_drop]; omega
  obtain ⟨z3, e4, q4⟩ := sadd_ok (x := z1) (y := chS c) (by rw [tl_chS]; simp; omega)
  have h3 : (tl z3).length ≤ 12 := by rw [q4, List.length_append, tl_chS]; simp; omega
  obtain ⟨z4, e5, q5⟩ := sadd_ok (x := z3) (y := z2) (by omega)
  refine ⟨z4, ?_, ?_⟩
  · rw [e1, pmod_ok (by omega)]
    show Option.bind (Option.bind (Option.bind (atS abc _) _) _) _ = _
    rw [e3]
    show Option.bind (sadd z1 (chS c)) _ = _
    rw [e4]
    show Option.bind (scut base _ none) _ = _
    rw [e2]
    exact e5
  · rw [q5, q4, q1, q2, tl_chS, q3]
    congr 3
/-- the words of the second kind -/
theorem wordB {k st : Nat} (hk : k < 16) (hs : st < 26) :
    ∃ z, ((((((atS abc (st : Int)).bind fun w35 => some (chS w35)).bind fun w36 => ((pdiv (k : Int) (2 : Int)).bind fun w34 => some ((1 : Int) + w34)).bind fun w37 => srep w36 w37).bind fun w42 => ((((pmod (((st : Int) + (1 : Int)) + (k : Int)) (26 : Int)).bind fun w38 => atS abc w38).bind fun w39 => some (chS w39)).bind fun w40 => (pmod (k : Int) (2 : Int)).bind fun w41 => srep w40 w41).bind fun w43 => sadd w42 w43).bind fun w44 => scut w44 none (some (12 : Int)))) = some z ∧
      tl z = List.replicate (1 + k / 2) (97 + st) ++ List.replicate (k % 2) (97 + (st + 1 + k) % 26) := by
  obtain ⟨c, e1, q1⟩ := atS_abc (i := (st : Int)) (by omega) (by omega)
  have m := mod26 (((st : Int) + 1) + (k : Int))
  obtain ⟨d, e2, q2⟩ := atS_abc m.1 m.2
  obtain ⟨z1, e3, q3⟩ := srep_ok (x := chS c) (n := 1 + k / 2) (by omega) (by rw [tl_chS]; simp)
  obtain ⟨z2, e4, q4⟩ := srep_ok (x := chS d) (n := k % 2) (by omega) (by rw [tl_chS]; simp)
  have fl : ∀ (n a : Nat), (List.replicate n [a]).flatten = List.replicate n a := fun n a => by simp
  rw [tl_chS, fl] at q3 q4
  obtain ⟨z3, e5, q5⟩ := sadd_ok (x := z1) (y := z2) (by rw [q3, q4]; simp; omega)
  obtain ⟨z4, e6, q6⟩ := scut_to (x := z3) (i := 12) (by rw [q5, q3, q4]; simp; omega)
  have n1 : (1 : Int) + (k : Int) / 2 = ((1 + k / 2 : Nat) : Int) := by omega
  have n2 : (k : Int) % 2 = ((k % 2 : Nat) : Int) := by omega
  refine ⟨z4, ?_, ?_⟩
  · rw [e1, pdiv_ok (by omega) (by omega), pmod_ok (by omega), pmod_ok (by omega)]
    show Option.bind (Option.bind (srep (chS c) ((1 : Int) + (k : Int) / 2)) _) _ = _
    rw [n1, e3]
    show Option.bind (Option.bind (Option.bind (Option.bind (atS abc _) _) _) _) _ = _
    rw [e2]
    show Option.bind (Option.bind (srep (chS d) ((k : Int) % 2)) _) _ = _
    rw [n2, e4]
    show Option.bind (sadd z1 z2) _ = _
    rw [e5]
    exact e6
  · rw [q6, q5, q3, q4, q1, q2]
    rw [List.take_of_length_le (by simp; omega)]
    congr 2
end Sim

set_option Elab.async false
set_option autoImplicit false
set_option linter.all false
set_option maxRecDepth 100000
set_option maxHeartbeats 1000000
/-! names that are drawn -/
namespace Sim
open PySem L2
theorem gets_lcFM {α γ S : Type} {f : α → S → Option (γ × S)} {P : γ → Prop} {I : S → Prop} (h : ∀ x s, I s → Gets (f x s) fun r => P r.1 ∧ I r.2) : ∀ (xs : List α) (s : S), I s → Gets (lcFM f xs s) fun r => r.1.length = xs.length ∧ (∀ y ∈ r.1, P y) ∧ I r.2
  | [], s, hs => ⟨([], s), rfl, rfl, fun y m => absurd m (List.not_mem_nil), hs⟩
  | x :: t, s, hs => by
    obtain ⟨r, e, p, i⟩ := h x s hs
    obtain ⟨u, e2, l, p2, i2⟩ := gets_lcFM h t r.2 i
    refine ⟨(r.1 :: u.1, u.2), ?_, by simp [l], fun y m => ?_, i2⟩
    · show (f x s).bind (fun q => (lcFM f t q.2).bind fun t => some (q.1 :: t.1, t.2)) = _
      rw [e]
      show (lcFM f t r.2).bind (fun t => some (r.1 :: t.1, t.2)) = _
      rw [e2]
      rfl
    · rcases List.mem_cons.mp m with z | z
      · subst z; exact p
      · exact p2 y z
theorem gets_lcF {α γ S : Type} {f : α → S → Option (γ × S)} {P : γ → Prop} {I : S → Prop} {xs : List α} {s : S} (hl : xs.length ≤ BIG) (hs : I s) (h : ∀ x s, I s → Gets (f x s) fun r => P r.1 ∧ I r.2) : Gets (lcF f xs s) fun r => r.1.length = xs.length ∧ (∀ y ∈ r.1, P y) ∧ I r.2 := by
  unfold lcF
  rw [if_pos hl]
  exact gets_lcFM h xs s hs
end Sim

set_option Elab.async false
set_option autoImplicit false
set_option linter.all false
set_option maxRecDepth 100000
set_option maxHeartbeats 1000000
/-! names that are drawn, again -/
namespace Sim
open PySem L2
theorem joinL_nil : ∀ ps : List (List Nat), TL.joinL [] ps = ps.flatten
  | [] => rfl
  | [p] => by simp [TL.joinL]
  | p :: q :: r => by
    show p ++ ([] ++ TL.joinL [] (q :: r)) = _
    rw [joinL_nil (q :: r)]
    simp
theorem sjoin0 {xs : List Tt} (h : (xs.map fun x => (tl x).length).sum ≤ 1000000) : ∃ z, sjoin (Tt.mk "" (by decide +kernel)) xs = some z ∧ tl z = (xs.map tl).flatten := by
  unfold sjoin
  have e : (xs.map fun x => x.s.length).sum + xs.length * (Tt.mk "" (by decide +kernel)).s.length ≤ BIG := by
    have e1 : (Tt.mk "" (by decide +kernel)).s.length = 0 := rfl
    have e2 : (xs.map fun x => x.s.length) = xs.map fun x => (tl x).length := List.map_congr_left fun x _ => tl_len x
    rw [e1, e2, Nat.mul_zero, Nat.add_zero]
    exact Nat.le_trans h (by decide)
  rw [if_pos e]
  refine ⟨_, rfl, ?_⟩
  show TL.joinL [] (xs.map cps) = _
  rw [joinL_nil]
  rfl
theorem flat_one : ∀ {xs : List Tt}, (∀ x ∈ xs, ∃ c, tl x = [c] ∧ 97 ≤ c ∧ c < 123) → ((xs.map tl).flatten.length = xs.length ∧ ∀ c ∈ (xs.map tl).flatten, 97 ≤ c ∧ c < 123) ∧ (xs.map fun x => (tl x).length).sum = xs.length
  | [], _ => ⟨⟨rfl, fun c m => absurd m (List.not_mem_nil)⟩, rfl⟩
  | x :: r, h => by
    obtain ⟨c, e, h1, h2⟩ := h x (List.mem_cons_self ..)
    obtain ⟨⟨i1, i2⟩, i3⟩ := flat_one (xs := r) fun y m => h y (List.mem_cons_of_mem _ m)
    refine ⟨⟨?_, fun d m => ?_⟩, ?_⟩
    · rw [List.map_cons, List.flatten_cons, List.length_append, i1, e, List.length_cons]
      simp; omega
    · rw [List.map_cons, List.flatten_cons, e] at m
      rcases List.mem_append.mp m with z | z
      · have z : d = c := by simpa using z
        subst z; exact ⟨h1, h2⟩
      · exact i2 d z
    · rw [List.map_cons, List.sum_cons, i3, e, List.length_cons]
      simp; omega
theorem letter_ok {z : OZ} {N : Nat} (hz : z.l.length ≤ N) (hN : N ≤ 63) : Gets (((m__law_take (26, ()) z).bind fun w34 => (atS abc w34.1).bind fun y => some (y, w34.2)).bind fun q => some (chS q.1, q.2)) fun r => (∃ c, tl r.1 = [c] ∧ 97 ≤ c ∧ c < 123) ∧ r.2.l.length ≤ N := by
  obtain ⟨r, e, ⟨h0, h1⟩, h2⟩ := take_ok (n := 26) (z := z) (by decide) (by decide) (by omega)
  obtain ⟨x, ex, hx⟩ := atS_abc (i := r.1) h0 h1
  rw [e]
  show Gets (((atS abc r.1).bind fun y => some (y, r.2)).bind fun q => some (chS q.1, q.2)) _
  rw [ex]
  exact gets_some ⟨⟨x.c, tl_chS x, by omega, by omega⟩, by show r.2.l.length ≤ N; omega⟩
theorem name_ok {z : OZ} (hz : z.l.length ≤ 63) : Gets (m__law_name () z) fun r => NameT r.1 ∧ r.2.l.length ≤ z.l.length := by
  unfold m__law_name mb__law_name
  refine gets_bind (gets_step rfl (gets_bind (gets_mono (Q := fun z2 : Int × OZ => (1 ≤ z2.1 ∧ z2.1 ≤ 12) ∧ z2.2.l.length ≤ z.l.length) ?_ fun z2 q => ?_)))
  · obtain ⟨r1, e1, ⟨a0, a1⟩, a2⟩ := take_ok (n := 12) (z := z) (by decide) (by decide) hz
    obtain ⟨r2, e2, ⟨b0, b1⟩, b2⟩ := take_ok (n := 4) (z := r1.2) (by decide) (by decide) (by omega)
    simp only [lseq, Option.bind_some, e1, e2]
    have hm : maxI 0 (r2.1 - 2) = 0 ∨ maxI 0 (r2.1 - 2) = 1 := by unfold maxI; split <;> omega
    rcases hm with hm | hm <;> rw [hm]
    · exact ⟨(1 + r1.1, r2.2), by rfl, ⟨by show 1 ≤ 1 + r1.1; omega, by show 1 + r1.1 ≤ 12; omega⟩, by show r2.2.l.length ≤ _; omega⟩
    · exact ⟨(1, r2.2), by rfl, ⟨by show (1 : Int) ≤ 1; omega, by show (1 : Int) ≤ 12; omega⟩, by show r2.2.l.length ≤ _; omega⟩
  · obtain ⟨⟨q0, q1⟩, q2⟩ := q
    have L := gets_lcF (f := fun (x29 : Int) (q32 : OZ) => ((m__law_take (26, ()) q32).bind fun w34 => (atS abc w34.1).bind fun y => some (y, w34.2)).bind fun q => some (chS q.1, q.2)) (P := fun r => ∃ c, tl r = [c] ∧ 97 ≤ c ∧ c < 123) (I := fun s => s.l.length ≤ z.l.length) (xs := rangeL 0 z2.1) (s := z2.2) (by rw [rangeL_length]; exact Nat.le_trans (by omega : _ ≤ 12) (by decide)) q2 fun x s hs => letter_ok hs hz
    obtain ⟨r, e, hl, hp, hi⟩ := L
    have hl' : r.1.length = z2.1.toNat := by rw [hl, rangeL_length]; omega
    obtain ⟨⟨f1, f2⟩, f3⟩ := flat_one hp
    obtain ⟨w, ew, hw⟩ := sjoin0 (xs := r.1) (by rw [f3]; omega)
    refine gets_bind (gets_bind (gets_eq (x := (Tt.mk "" (by decide +kernel), z2.2)) rfl (gets_bind (gets_eq (x := (r.1, r.2)) ?_ ?_))))
    · show (prange 0 z2.1).bind _ = _
      rw [prange_ok (by decide) (by omega)]
      exact e
    · refine gets_bind (gets_eq ew (gets_some (gets_some (gets_some ⟨⟨⟨?_, ?_⟩, ?_⟩, hi⟩))))
      · rw [hw, f1]; omega
      · rw [hw, f1]; omega
      · intro c m; rw [hw] at m; exact f2 c m
end Sim

set_option Elab.async false
set_option autoImplicit false
set_option linter.all false
set_option maxRecDepth 100000
set_option maxHeartbeats 1000000
/-! lists of names that are drawn -/
namespace Sim
open PySem L2
def NmsZ (n : Int) (ws : List Tt) : Prop := (ws.length : Int) ≤ n ∧ ws.Nodup ∧ ∀ x ∈ ws, NameT x
theorem isIn_no {α : Type} [DecidableEq α] {x : α} {xs : List α} (h : isIn x xs = false) : x ∉ xs := by
  unfold isIn at h
  intro m
  simp_all
theorem names_ok {z : OZ} {n : Int} (h0 : 0 ≤ n) (h1 : n ≤ 1000) (hz : z.l.length ≤ 63) : Gets (m__law_names (n, ()) z) fun r => NmsZ n r.1 ∧ r.2.l.length ≤ z.l.length := by
  unfold m__law_names mb__law_names
  refine gets_bind (gets_step rfl (gets_bind (gets_bind (gets_eq (prange_ok (by decide) (by omega)) ?_))))
  refine gets_forP (fun dn (s : OZ × List Tt) => s.1.l.length ≤ z.l.length ∧ NmsZ (dn.length : Int) s.2) ⟨Nat.le_refl _, by simp, List.nodup_nil, fun x m => absurd m (List.not_mem_nil)⟩ (fun dn x rs s e ⟨i1, i2, i3, i4⟩ => ?_) fun s ⟨i1, i2, i3, i4⟩ => ?_
  · have hd : dn.length ≤ 1000 := by
      have := congrArg List.length e
      rw [rangeL_length, List.length_append] at this
      omega
    obtain ⟨r, er, q1, q2⟩ := name_ok (z := s.1) (by omega)
    refine gets_bind (gets_eq (x := r) er (gets_bind (gets_mono (Q := fun ws => NmsZ ((dn ++ [x]).length : Int) ws) ?_ fun ws q => gets_some ⟨Nat.le_trans q2 i1, q⟩)))
    have hl : ((dn ++ [x]).length : Int) = (dn.length : Int) + 1 := by simp
    refine gets_step rfl (gets_if (fun hb => ?_) fun hb => gets_some ⟨by omega, i3, i4⟩)
    have hn : r.1 ∉ s.2 := isIn_no (by simpa using hb)
    refine gets_step (push_ok (Nat.le_trans (by omega : _ ≤ 1001) (by decide))) (gets_some ⟨by rw [List.length_append, hl]; simp; omega, ?_, fun y m => ?_⟩)
    · exact List.nodup_append.mpr ⟨i3, by simp, fun a ha b hb => by
        have : b = r.1 := by simpa using hb
        subst this
        exact fun z => hn (z ▸ ha)⟩
    · rcases List.mem_append.mp m with z | z
      · exact i4 y z
      · have : y = r.1 := by simpa using z
        subst this; exact q1
  · refine gets_some (gets_some ⟨⟨?_, i3, i4⟩, i1⟩)
    rw [rangeL_length] at i2
    show (s.2.length : Int) ≤ n
    omega
end Sim

set_option Elab.async false
set_option autoImplicit false
set_option linter.all false
set_option maxRecDepth 100000
set_option maxHeartbeats 1000000
/-! webs that are drawn -/
namespace Sim
open PySem L2
/-- rows of suits: the giver among the names, the taker among the pairs -/
def RowsZ (A N : List Tt) (c : List (Tt × Tt)) : Prop := c.Nodup ∧ ∀ g t, (g, t) ∈ c → g ∈ N ∧ t ∈ A ∧ g ≠ t
theorem rows_loop {A N : List Tt} {sh : Int} {z : OZ} {B : Nat} (hA : A.length ≤ 16) (hN : N.length ≤ 16) (ndA : A.Nodup) (ndN : N.Nodup) (hz : z.l.length ≤ B) (hB : B ≤ 63)
    {f : OZ × List (Tt × Tt) → Tt → Tt → Option (OZ × List (Tt × Tt))}
    (hf : ∀ (s : OZ × List (Tt × Tt)) (x y : Tt), s.1.l.length ≤ B → s.2.length ≤ 1000 → Gets (f s x y) fun r => r.1.l.length ≤ B ∧ (r.2 = s.2 ∨ (x ≠ y ∧ r.2 = s.2 ++ [(x, y)]))) :
    Gets (forP (fun (s39 : OZ × (List (Tt × Tt))) (x40 : Tt) => ((some A).bind fun xs => forP (fun (s41 : OZ × (List (Tt × Tt))) (x42 : Tt) => f s41 x40 x42) (s39.1, s39.2) xs).bind fun (s41 : OZ × (List (Tt × Tt))) => (some (s41.1, s41.2))) (z, []) N)
      fun r => r.1.l.length ≤ B ∧ RowsZ A N r.2 ∧ r.2.length ≤ 256 := by
  refine gets_forP (fun dn s => s.1.l.length ≤ B ∧ RowsZ A dn s.2 ∧ s.2.length ≤ 16 * dn.length) ⟨hz, ⟨List.nodup_nil, fun g t m => absurd m (List.not_mem_nil)⟩, by simp⟩ (fun dn x rs s e ⟨i1, ⟨i2, i3⟩, i4⟩ => ?_) fun s ⟨i1, i2, i4⟩ => ⟨i1, i2, by omega⟩
  have hdn : dn.length + 1 ≤ 16 := by
    have := congrArg List.length e
    rw [List.length_append, List.length_cons] at this
    omega
  have hx : x ∉ dn := fun m => by
    rw [e] at ndN
    exact (List.nodup_append.mp ndN).2.2 x m x (List.mem_cons_self ..) rfl
  refine gets_bind (gets_mono (Q := fun r : OZ × List (Tt × Tt) => r.1.l.length ≤ B ∧ RowsZ A (dn ++ [x]) r.2 ∧ r.2.length ≤ 16 * (dn ++ [x]).length) ?_ fun r q => gets_some q)
  refine gets_step rfl (gets_forP (fun d2 s => s.1.l.length ≤ B ∧ (s.2.Nodup ∧ ∀ g t, (g, t) ∈ s.2 → (g ∈ dn ∨ (g = x ∧ t ∈ d2)) ∧ t ∈ A ∧ g ≠ t) ∧ s.2.length ≤ 16 * dn.length + d2.length)
    ⟨i1, ⟨i2, fun g t m => ⟨.inl (i3 g t m).1, (i3 g t m).2⟩⟩, by simpa using i4⟩ (fun d2 y r2 u e2 ⟨j1, ⟨j2, j3⟩, j4⟩ => ?_) fun u ⟨j1, ⟨j2, j3⟩, j4⟩ => ?_)
  · have hd2 : d2.length + 1 ≤ 16 := by
      have := congrArg List.length e2
      rw [List.length_append, List.length_cons] at this
      omega
    have hy : y ∉ d2 := fun m => by
      rw [e2] at ndA
      exact (List.nodup_append.mp ndA).2.2 y m y (List.mem_cons_self ..) rfl
    have hyA : y ∈ A := by rw [e2]; simp
    refine gets_mono (hf u x y j1 (by omega)) fun r ⟨k1, k2⟩ => ?_
    rcases k2 with k2 | ⟨k3, k2⟩
    · rw [k2]
      refine ⟨k1, ⟨j2, fun g t m => ⟨?_, (j3 g t m).2⟩⟩, by simp; omega⟩
      rcases (j3 g t m).1 with h | h
      · exact .inl h
      · exact .inr ⟨h.1, List.mem_append_left _ h.2⟩
    · rw [k2]
      refine ⟨k1, ⟨List.nodup_append.mpr ⟨j2, by simp, fun a ha b hb => ?_⟩, fun g t m => ?_⟩, by simp; omega⟩
      · have hb : b = (x, y) := by simpa using hb
        subst hb
        intro h
        subst h
        rcases (j3 x y ha).1 with h | h
        · exact hx h
        · exact hy h.2
      · rcases List.mem_append.mp m with h | h
        · refine ⟨?_, (j3 g t h).2⟩
          rcases (j3 g t h).1 with h | h
          · exact .inl h
          · exact .inr ⟨h.1, List.mem_append_left _ h.2⟩
        · have h : g = x ∧ t = y := by simpa using h
          obtain ⟨rfl, rfl⟩ := h
          exact ⟨.inr ⟨rfl, by simp⟩, hyA, k3⟩
  · refine ⟨j1, ⟨j2, fun g t m => ⟨?_, (j3 g t m).2⟩⟩, by simp; omega⟩
    rcases (j3 g t m).1 with h | h
    · exact List.mem_append_left _ h
    · rw [h.1]; simp
end Sim

set_option Elab.async false
set_option autoImplicit false
set_option linter.all false
set_option maxRecDepth 100000
set_option maxHeartbeats 1000000
/-! a web that is drawn -/
namespace Sim
open PySem L2
def WebZ (w : T3 (List Tt) (List Tt) (List (Tt × Tt))) : Prop := w.a.length + w.b.length ≤ 16 ∧ (w.a ++ w.b).Nodup ∧ (∀ x ∈ w.a ++ w.b, NameT x) ∧ w.b.Pairwise (fun a b => Tot.le a b = true) ∧ w.c.Pairwise (fun a b => Tot.le a b = true) ∧ RowsZ w.a (w.a ++ w.b) w.c ∧ w.c.length ≤ 256
theorem drawn_ok {z : OZ} (hz : z.l.length ≤ 63) : Gets (m__law_drawn (11, 5, ()) z) fun r => WebZ r.1 ∧ r.2.l.length ≤ z.l.length := by
  unfold m__law_drawn mb__law_drawn
  obtain ⟨r1, e1, ⟨a0, a1⟩, a2⟩ := take_ok (n := 11 + 1) (z := z) (by decide) (by decide) hz
  obtain ⟨r2, e2, ⟨b0, b1⟩, b2⟩ := take_ok (n := 5 + 1) (z := r1.2) (by decide) (by decide) (by omega)
  obtain ⟨r3, e3, ⟨n1, n2, n3⟩, n4⟩ := names_ok (n := r1.1 + r2.1) (z := r2.2) (by omega) (by omega) (by omega)
  obtain ⟨r4, e4, ⟨c0, c1⟩, c2⟩ := take_ok (n := 5 + 1) (z := r3.2) (by decide) (by decide) (by omega)
  obtain ⟨r5, e5, ⟨d0, d1⟩, d2⟩ := take_ok (n := 3) (z := r4.2) (by decide) (by decide) (by omega)
  have hk : ∃ k : Nat, maxI 0 ((r3.1.length : Int) - r4.1) = (k : Int) := ⟨(maxI 0 ((r3.1.length : Int) - r4.1)).toNat, by
    have : 0 ≤ maxI 0 ((r3.1.length : Int) - r4.1) := by unfold maxI; split <;> omega
    omega⟩
  obtain ⟨k, hk⟩ := hk
  refine gets_bind (gets_bind (gets_eq (x := r3) (by simp only [Option.bind_some, e1, e2]; exact e3) (gets_bind (gets_eq (x := ((k : Int), r4.2)) (by simp only [Option.bind_some, e4]; rw [hk]) (gets_step rfl (gets_step rfl (gets_step rfl (gets_bind (gets_eq (x := (1 + r5.1, r5.2)) (by simp only [Option.bind_some, e5]) ?_)))))))))
  have hp : (r3.1.take k ++ r3.1.drop k) = r3.1 := List.take_append_drop k r3.1
  refine gets_bind (gets_step rfl (gets_mono (rows_loop (A := cut r3.1 none (some (k : Int))) (N := r3.1) (z := r5.2) (B := z.l.length) (sh := 0) ?_ (by omega) ?_ n2 (by omega) hz fun s x y hs hl => ?_) fun s q => ?_))
  · rw [cut_to, List.length_take]; omega
  · rw [cut_to]; exact n2.sublist (List.take_sublist ..)
  · refine gets_bind (gets_mono (Q := fun r : OZ × List (Tt × Tt) => r.1.l.length ≤ z.l.length ∧ (r.2 = s.2 ∨ (x ≠ y ∧ r.2 = s.2 ++ [(x, y)]))) (gets_bind ?_) fun r q => gets_some q)
    by_cases h : x = y
    · exact gets_eq (x := (false, s.1)) (by simp [h]) (gets_if (fun h => absurd (show false = true from h) (by decide)) fun _ => gets_some ⟨hs, .inl rfl⟩)
    · obtain ⟨r, e, _, t2⟩ := take_ok (n := 4) (z := s.1) (by decide) (by decide) (by omega)
      refine gets_eq (x := (decide (1 + r5.1 ≤ r.1), r.2)) (by simp [h, e]) (gets_if (fun _ => gets_step (push_ok (Nat.le_trans (by omega : _ ≤ 1001) (by decide))) (gets_some ⟨?_, .inr ⟨h, rfl⟩⟩)) fun _ => gets_some ⟨?_, .inl rfl⟩)
      · exact Nat.le_trans t2 hs
      · exact Nat.le_trans t2 hs
  · obtain ⟨q1, ⟨q2, q3⟩, q4⟩ := q
    rw [cut_to] at q3
    refine gets_some (gets_some ⟨?_, q1⟩)
    show WebZ ⟨cut r3.1 none (some (k : Int)), srt (cut r3.1 (some (k : Int)) none), srt s.2⟩
    rw [cut_to, cut_from]
    have pm : (r3.1.take k ++ srt (r3.1.drop k)).Perm r3.1 := by
      have := List.Perm.append_left (r3.1.take k) (srt_perm (r3.1.drop k))
      rw [hp] at this
      exact this
    refine ⟨?_, pm.symm.nodup n2, fun x m => n3 x (pm.mem_iff.mp m), srt_pair _, srt_pair _, ⟨(srt_perm s.2).symm.nodup q2, fun g t m => ?_⟩, ?_⟩
    · have := pm.length_eq
      rw [List.length_append] at this
      show (r3.1.take k).length + (srt (r3.1.drop k)).length ≤ 16
      omega
    · have h := q3 g t ((srt_perm s.2).mem_iff.mp m)
      exact ⟨pm.mem_iff.mpr h.1, h.2⟩
    · show (srt s.2).length ≤ 256
      rw [(srt_perm s.2).length_eq]; exact q4
end Sim

set_option Elab.async false
set_option autoImplicit false
set_option linter.all false
set_option maxRecDepth 100000
set_option maxHeartbeats 1000000
/-! rows in another order -/
namespace Sim
open PySem L2
theorem turn_loop {α : Type} {rows : List α} {z : OZ} (hl : rows.length ≤ 1000) (hz : z.l.length ≤ 63) :
    Gets (forP (fun (s3 : OZ × (List α) × (List α)) (x4 : Int) =>
  (((((((some ((s3.2.1).length : Int)).bind fun x => some (x, s3.1)).bind fun w8 => (some ((), w8.2)).bind fun w9 => some ((w8.1, w9.1), w9.2)).bind fun w7 => m__law_take w7.1 w7.2).bind fun w5 => (ppopAt s3.2.1 w5.1).bind fun w6 => some (w6.1, (w5.2, w6.2)))).bind fun q => (push s3.2.2 q.1).bind fun ys => some (q.2, ys)).bind fun (z11 : ((OZ × (List α)) × (List α))) =>
  (some (z11.1.1, z11.1.2, z11.2))) (z, rows, []) (rangeL 0 (rows.length : Int))) fun s => s.2.2.Perm rows ∧ s.1.l.length ≤ z.l.length := by
  refine gets_forP (fun dn s => s.1.l.length ≤ z.l.length ∧ (s.2.2 ++ s.2.1).Perm rows ∧ s.2.1.length + dn.length = rows.length) ⟨Nat.le_refl _, by simp, by simp⟩ (fun dn x rs s e ⟨i1, i2, i3⟩ => ?_) fun s ⟨i1, i2, i3⟩ => ?_
  · have hd : dn.length < rows.length := by
      have := congrArg List.length e
      rw [rangeL_length, List.length_append, List.length_cons] at this
      omega
    obtain ⟨r, er, ⟨t0, t1⟩, t2⟩ := take_ok (n := (s.2.1.length : Int)) (z := s.1) (by omega) (by omega) (by omega)
    have hj : r.1.toNat < s.2.1.length := by omega
    have er1 : r.1 = (r.1.toNat : Int) := by omega
    have ep : ppopAt s.2.1 r.1 = some (s.2.1[r.1.toNat], s.2.1.eraseIdx r.1.toNat) := 
      (congrArg (ppopAt s.2.1) er1).trans (ppopAt_ok (Nat.le_trans (by omega : _ ≤ 1000) (by decide)) (List.getElem?_eq_getElem hj))
    have hp := get_erase_perm hj
    have hlen : s.2.2.length ≤ 1000 := by
      have := i2.length_eq
      rw [List.length_append] at this
      omega
    refine gets_eq (x := (r.2, s.2.1.eraseIdx r.1.toNat, s.2.2 ++ [s.2.1[r.1.toNat]])) ?_ ⟨Nat.le_trans t2 i1, ?_, ?_⟩
    · simp only [Option.bind_some, er, ep, push_ok (Nat.le_trans (by omega : s.2.2.length + 1 ≤ 1001) (by decide))]
    · show ((s.2.2 ++ [s.2.1[r.1.toNat]]) ++ s.2.1.eraseIdx r.1.toNat).Perm rows
      rw [List.append_assoc]
      exact (List.Perm.append_left s.2.2 hp).trans i2
    · show (s.2.1.eraseIdx r.1.toNat).length + (dn ++ [x]).length = rows.length
      rw [List.length_eraseIdx_of_lt hj, List.length_append]
      simp; omega
  · rw [rangeL_length] at i3
    have h0 : s.2.1 = [] := List.eq_nil_of_length_eq_zero (by omega)
    rw [h0, List.append_nil] at i2
    exact ⟨i2, i1⟩
theorem turned_ok {rows : List Tt} {z : OZ} (hl : rows.length ≤ 1000) (hz : z.l.length ≤ 63) : Gets (m__law_turned (rows, ()) z) fun r => r.1.Perm rows ∧ r.2.l.length ≤ z.l.length := by
  unfold m__law_turned mb__law_turned
  exact gets_bind (gets_step rfl (gets_step rfl (gets_bind (gets_bind (gets_eq (prange_ok (by decide) (by show Int.natAbs (rows.length : Int) < _; omega)) (gets_mono (turn_loop hl hz) fun s q => gets_some (gets_some q)))))))
theorem turnedP_ok {rows : List (Tt × Tt)} {z : OZ} (hl : rows.length ≤ 1000) (hz : z.l.length ≤ 63) : Gets (m__law_turnedP (rows, ()) z) fun r => r.1.Perm rows ∧ r.2.l.length ≤ z.l.length := by
  unfold m__law_turnedP mb__law_turnedP
  exact gets_bind (gets_step rfl (gets_step rfl (gets_bind (gets_bind (gets_eq (prange_ok (by decide) (by show Int.natAbs (rows.length : Int) < _; omega)) (gets_mono (turn_loop hl hz) fun s q => gets_some (gets_some q)))))))
end Sim

set_option Elab.async false
set_option autoImplicit false
set_option linter.all false
set_option maxRecDepth 100000
/-! lemmas of Pl6, Pl7 that need no blossom -/
namespace Sim
open PySem L2
theorem mem_rangeL {lo hi x : Int} : x ∈ rangeL lo hi ↔ lo ≤ x ∧ x < hi := by
  unfold rangeL
  rw [List.mem_map]
  constructor
  · rintro ⟨i, h1, h2⟩
    have := List.mem_range.mp h1
    omega
  · rintro ⟨h1, h2⟩
    exact ⟨(x - lo).toNat, List.mem_range.mpr (by omega), by omega⟩
theorem rangeL_nodup (lo hi : Int) : (rangeL lo hi).Nodup := by
  unfold rangeL
  have : ∀ L : List Nat, L.Nodup → (L.map fun (i : Nat) => lo + (i : Int)).Nodup := by
    intro L
    induction L with
    | nil => intro _; exact List.nodup_nil
    | cons a r ih =>
      intro h
      rw [List.map_cons, List.nodup_cons]
      refine ⟨fun hm => ?_, ih (List.nodup_cons.mp h).2⟩
      obtain ⟨b, hb, e⟩ := List.mem_map.mp hm
      have : b = a := by omega
      exact (List.nodup_cons.mp h).1 (this ▸ hb)
  exact this _ List.nodup_range
structure EdOk (n : Int) (es : List (Int × Int)) : Prop where
  nd : es.Nodup
  ok : ∀ e ∈ es, 0 ≤ e.1 ∧ e.1 < e.2 ∧ e.2 < n
theorem range_at {lo hi x : Int} {dn rs : List Int} (h : rangeL lo hi = dn ++ x :: rs) : x = lo + (dn.length : Int) ∧ dn.length < (hi - lo).toNat := by
  have hl := congrArg List.length h
  rw [rangeL_length] at hl
  simp at hl
  have e : (rangeL lo hi)[dn.length]? = some x := by rw [h]; simp
  unfold rangeL at e
  rw [List.getElem?_map, List.getElem?_range (by omega)] at e
  exact ⟨(Option.some.inj e).symm, by omega⟩
end Sim

set_option autoImplicit false
set_option linter.all false
set_option maxRecDepth 100000
namespace Sim
open PySem L2
/-! ### webs: names, who may meet, the edges -/
abbrev WebD.nms (w : WebD) : List Tt := w.pairs ++ w.givers
def doesB (w : WebD) (a b : Tt) : Bool := (look w.suits (a, b)).isSome
def meetB (w : WebD) (a b : Tt) : Bool := if isIn a w.givers = true then doesB w a b else if isIn b w.givers = true then doesB w b a else doesB w a b && doesB w b a
def meetI (w : WebD) (a b : Int) : Bool := match atI w.nms a, atI w.nms b with
  | some x, some y => meetB w x y
  | _, _ => false
theorem web_names_ok {w : WebD} (h : w.nms.length ≤ 1000) : m_Web_names (w, ()) = some w.nms := by
  unfold m_Web_names mb_Web_names
  have big : BIG = 1000000 := rfl
  have h' : (w.pairs ++ w.givers).length ≤ 1000 := h
  rw [List.length_append] at h'
  show Option.bind (Option.bind (pcat w.pairs w.givers) _) _ = _
  rw [pcat_ok (by omega)]
  rfl
theorem web_does_ok {w : WebD} {a b : Tt} : m_Web_does_suit (w, a, b, ()) = some (doesB w a b) := rfl
theorem web_meet_ok {w : WebD} {a b : Tt} : m_Web_may_meet (w, a, b, ()) = some (meetB w a b) := by
  unfold m_Web_may_meet mb_Web_may_meet meetB
  by_cases h1 : isIn a w.givers = true
  · rw [if_pos h1]
    show Option.bind (flb (if isIn a w.givers = true then _ else _) _) _ = _
    rw [if_pos h1]; rfl
  · rw [if_neg h1]
    show Option.bind (flb (if isIn a w.givers = true then _ else _) _) _ = _
    rw [if_neg h1]
    by_cases h2 : isIn b w.givers = true
    · rw [if_pos h2]
      show Option.bind (flb (if isIn b w.givers = true then _ else _) _) _ = _
      rw [if_pos h2]; rfl
    · rw [if_neg h2]
      show Option.bind (flb (if isIn b w.givers = true then _ else _) _) _ = _
      rw [if_neg h2]
      show Option.bind (Option.bind (andM (some (doesB w a b)) (some (doesB w b a))) _) _ = _
      cases doesB w a b <;> rfl
theorem atI_range {α : Type} {xs : List α} {x : Int} (h : 0 ≤ x ∧ x < (xs.length : Int)) : ∃ a, atI xs x = some a := by
  have e := atI_nat (xs := xs) (i := x.toNat) (List.getElem?_eq_getElem (by omega))
  rw [Int.toNat_of_nonneg h.1] at e
  exact ⟨_, e⟩
theorem pairs_nd {es : List (Int × Int)} {n : Int} (nd : es.Nodup) (h : ∀ e ∈ es, 0 ≤ e.1 ∧ e.1 < n ∧ 0 ≤ e.2 ∧ e.2 < n) (hn : n ≤ 200) : es.length ≤ 40000 := by
  have hm : (es.map fun e => e.1 * 200 + e.2).Nodup := by
    have : ∀ L : List (Int × Int), (∀ e ∈ L, e ∈ es) → L.Nodup → (L.map fun e => e.1 * 200 + e.2).Nodup := by
      intro L
      induction L with
      | nil => intro _ _; exact List.nodup_nil
      | cons a r ih =>
        intro h1 h2
        rw [List.map_cons, List.nodup_cons]
        refine ⟨fun hx => ?_, ih (fun e he => h1 e (by simp [he])) (List.nodup_cons.mp h2).2⟩
        obtain ⟨b, hb, q⟩ := List.mem_map.mp hx
        have ha := h a (h1 a (by simp))
        have hb2 := h b (h1 b (by simp [hb]))
        have e1 : a.1 = b.1 := by omega
        have e2 : a.2 = b.2 := by omega
        exact (List.nodup_cons.mp h2).1 (by rw [show a = b from Prod.ext e1 e2]; exact hb)
    exact this es (fun _ h => h) nd
  have := hm.length_le_of_subset (l₂ := rangeL 0 40000) fun x hx => by
    obtain ⟨e, he, q⟩ := List.mem_map.mp hx
    have := h e he
    rw [mem_rangeL]
    omega
  rw [rangeL_length] at this
  simpa using this
theorem edges_ok {w : WebD} (h : w.nms.length ≤ 20) : Gets (m_Web_edges (w, ())) fun es => EdOk (w.nms.length : Int) es ∧ ∀ a b, (a, b) ∈ es ↔ (0 ≤ a ∧ a < b ∧ b < (w.nms.length : Int)) ∧ meetI w a b = true := by
  have big : BIG = 1000000 := rfl
  unfold m_Web_edges mb_Web_edges
  refine gets_bind (gets_step (web_names_ok (w := w) (by omega)) (gets_step rfl (gets_bind ?_)))
  have e1 : prange 0 (w.nms.length : Int) = some (rangeL 0 (w.nms.length : Int)) := prange_ok (by omega) (by omega)
  refine gets_step e1 ?_
  refine gets_forP (fun done es => es.Nodup ∧ ∀ a b, (a, b) ∈ es ↔ a ∈ done ∧ (0 ≤ a ∧ a < b ∧ b < (w.nms.length : Int)) ∧ meetI w a b = true) ⟨List.nodup_nil, by simp⟩ ?_ ?_
  · rintro done x rs es hs ⟨i1, i2⟩
    obtain ⟨hx, hx2⟩ := range_at hs
    have nr := rangeL_nodup 0 (w.nms.length : Int)
    rw [hs] at nr
    have xd : x ∉ done := fun q => (List.nodup_append.mp nr).2.2 x q x (by simp) rfl
    have hxn : 0 ≤ x ∧ x < (w.nms.length : Int) := by omega
    obtain ⟨A, hA⟩ := atI_range hxn
    have e2 : prange (x + 1) (w.nms.length : Int) = some (rangeL (x + 1) (w.nms.length : Int)) := prange_ok (by omega) (by omega)
    refine gets_bind (gets_step e2 ?_)
    refine gets_forP (fun done2 es => es.Nodup ∧ ∀ a b, (a, b) ∈ es ↔ (a ∈ done ∨ (a = x ∧ b ∈ done2)) ∧ (0 ≤ a ∧ a < b ∧ b < (w.nms.length : Int)) ∧ meetI w a b = true) ⟨i1, fun a b => by rw [i2]; simp⟩ ?_ ?_
    · rintro done2 y rs2 es2 hs2 ⟨j1, j2⟩
      obtain ⟨hy, hy2⟩ := range_at hs2
      have nr2 := rangeL_nodup (x + 1) (w.nms.length : Int)
      rw [hs2] at nr2
      have yd : y ∉ done2 := fun q => (List.nodup_append.mp nr2).2.2 y q y (by simp) rfl
      have hyn : 0 ≤ y ∧ y < (w.nms.length : Int) := by omega
      have hxy : x < y := by omega
      obtain ⟨B, hB⟩ := atI_range hyn
      have mI : meetI w x y = meetB w A B := by unfold meetI; rw [hA, hB]
      have ll : es2.length ≤ 40000 := pairs_nd j1 (n := (w.nms.length : Int)) (fun e he => by have := ((j2 e.1 e.2).mp he).2.1; omega) (by omega)
      show Gets (Option.bind (Option.bind (Option.bind (b2 (atI w.nms x) (b2 (atI w.nms y) (some ()) _) _) _) _) _) _
      rw [hA, hB]
      show Gets (Option.bind (Option.bind (m_Web_may_meet (w, A, B, ())) _) _) _
      rw [web_meet_ok]
      show Gets (Option.bind (if meetB w A B = true then _ else _) _) _
      by_cases hm : meetB w A B = true
      · rw [if_pos hm, push_ok (by omega)]
        refine gets_some ⟨?_, fun a b => ?_⟩
        · rw [List.nodup_append]
          refine ⟨j1, by simp, fun p hp q hq e => ?_⟩
          rw [List.mem_singleton.mp hq] at e
          subst e
          rcases ((j2 x y).mp hp).1 with z | z
          · exact xd z
          · exact yd z.2
        · rw [List.mem_append, j2]
          constructor
          · rintro (q | q)
            · exact ⟨q.1.imp_right fun z => ⟨z.1, by simp [z.2]⟩, q.2⟩
            · have := List.mem_singleton.mp q
              rw [Prod.mk.injEq] at this
              obtain ⟨ea, eb⟩ := this
              subst ea eb
              exact ⟨.inr ⟨rfl, by simp⟩, ⟨hxn.1, hxy, hyn.2⟩, by rw [mI]; exact hm⟩
          · rintro ⟨q | q, q2⟩
            · exact .inl ⟨.inl q, q2⟩
            · rcases List.mem_append.mp q.2 with z | z
              · exact .inl ⟨.inr ⟨q.1, z⟩, q2⟩
              · exact .inr (by rw [q.1, List.mem_singleton.mp z]; simp)
      · rw [if_neg hm]
        refine gets_some ⟨j1, fun a b => ?_⟩
        rw [j2]
        constructor
        · rintro ⟨q, q2⟩
          exact ⟨q.imp_right fun z => ⟨z.1, by simp [z.2]⟩, q2⟩
        · rintro ⟨q | q, q2⟩
          · exact ⟨.inl q, q2⟩
          · rcases List.mem_append.mp q.2 with z | z
            · exact ⟨.inr ⟨q.1, z⟩, q2⟩
            · rw [q.1, List.mem_singleton.mp z, mI] at q2
              exact absurd q2.2 hm
    · rintro es2 ⟨j1, j2⟩
      refine gets_some ⟨j1, fun a b => ?_⟩
      rw [j2]
      constructor
      · rintro ⟨q | q, q2⟩
        · exact ⟨by simp [q], q2⟩
        · exact ⟨by simp [q.1], q2⟩
      · rintro ⟨q, q2⟩
        refine ⟨?_, q2⟩
        rcases List.mem_append.mp q with z | z
        · exact .inl z
        · exact .inr ⟨List.mem_singleton.mp z, by rw [List.mem_singleton.mp z] at q2; rw [mem_rangeL]; omega⟩
  · rintro es ⟨i1, i2⟩
    refine gets_some (gets_some ⟨⟨i1, fun e he => ((i2 e.1 e.2).mp he).2.1⟩, fun a b => ?_⟩)
    rw [i2]
    constructor
    · exact fun q => q.2
    · exact fun q => ⟨by rw [mem_rangeL]; omega, q⟩
end Sim

set_option autoImplicit false
set_option linter.all false
set_option maxRecDepth 100000
namespace Sim
open PySem L2
/-! ### a web is made -/
theorem isIn_f {α : Type} [DecidableEq α] {x : α} {xs : List α} (h : x ∉ xs) : isIn x xs = false := by
  cases z : isIn x xs with
  | false => rfl
  | true => exact absurd (isIn_iff.mp z) h
theorem add_suit_ok {p g : List Tt} {s : SU} {a b : Tt} (h1 : a ∈ p ∨ a ∈ g) (h2 : b ∈ p) (h3 : b ∉ g) (h4 : a ≠ b) (h5 : (a, b) ∉ s.map (·.1)) (hl : s.length + 1 ≤ BIG) :
    m_Web__add_suit (a, b, ()) p g s = some (.ok (put s (a, b) true)) := by
  have c1 : andM (some (!isIn a p)) (some (!isIn a g)) = some false := by
    rcases h1 with h | h
    · rw [isIn_iff.mpr h]; rfl
    · rw [isIn_iff.mpr h]; cases isIn a p <;> rfl
  have c2 : andM (some (!isIn b p)) (some (!isIn b g)) = some false := by rw [isIn_iff.mpr h2]; rfl
  have c3 : orM (some (isIn b g)) (orM (some (decide (a = b))) (some ((look s (a, b)).isSome))) = some false := by
    rw [isIn_f h3, decide_eq_false h4, look_none_mem.mpr h5]; rfl
  unfold m_Web__add_suit mb_Web__add_suit
  show Option.bind (flb (Option.bind (andM (some (!isIn a p)) (some (!isIn a g))) _) _) _ = _
  rw [c1]
  show Option.bind (flb (Option.bind (andM (some (!isIn b p)) (some (!isIn b g))) _) _) _ = _
  rw [c2]
  show Option.bind (flb (Option.bind (orM (some (isIn b g)) (orM (some (decide (a = b))) (some ((look s (a, b)).isSome)))) _) _) _ = _
  rw [c3]
  show Option.bind (Option.bind (dput s (a, b) true) _) _ = _
  rw [dput_ok hl]
  rfl
end Sim

set_option autoImplicit false
set_option linter.all false
set_option maxRecDepth 100000
namespace Sim
open PySem L2
theorem web_okK {ps gs : List Tt} {ss : List (Tt × Tt)} (hn : ps.length + gs.length ≤ 16) (nd : (ps ++ gs).Nodup) (nm : ∀ x ∈ ps ++ gs, m_is_name (x, ()) = some true)
    (hs : ∀ r ∈ ss, (r.1 ∈ ps ∨ r.1 ∈ gs) ∧ r.2 ∈ ps ∧ r.1 ≠ r.2) (ns : ss.Nodup) (hl : ss.length ≤ 1000) :
    Gets (m_Web___init__ (ps, gs, ss, ())) fun r => ∃ w, r = .ok w ∧ w.pairs = ps ∧ w.givers = srt gs ∧ w.suits.map (·.1) = ss := by
  have big : BIG = 1000000 := rfl
  have nd' := List.nodup_append.mp nd
  unfold m_Web___init__ mb_Web___init__
  have c1 : decide (k_MOST_NAMES < ((ps.length : Int) + (gs.length : Int))) = false := decide_eq_false (by show ¬ (16 : Int) < _; omega)
  refine gets_bind (gets_flb ?_)
  refine gets_step (x := decide (k_MOST_NAMES < ((ps.length : Int) + (gs.length : Int)))) rfl ?_
  rw [c1]
  refine gets_some ?_
  refine gets_step (x := ()) rfl (gets_flb ?_)
  refine gets_step (pcat_ok (by show ps.length + gs.length ≤ BIG; omega)) ?_
  refine gets_forF (fun dn s => s.map (·.1) = dn) rfl ?_ ?_
  · rintro dn x rs s e i
    refine gets_flb ?_
    have hx : x ∈ ps ++ gs := by rw [e]; simp
    show Gets (Option.bind (Option.bind (m_is_name (x, ())) _) _) _
    rw [nm x hx]
    refine gets_some ?_
    refine gets_flb ?_
    have hnd : x ∉ s.map (·.1) := by
      rw [i]
      have := e ▸ nd
      exact fun z => (List.nodup_append.mp this).2.2 x z x (by simp) rfl
    show Gets (if (look s x).isSome = true then _ else _) _
    rw [look_none_mem.mpr hnd]
    refine gets_some ?_
    have ll : s.length ≤ 16 := by
      have a := congrArg List.length e
      have b := congrArg List.length i
      simp only [List.length_append, List.length_cons, List.length_map] at a b
      omega
    refine gets_step (dput_ok (by omega)) (gets_some ?_)
    show (put s x true).map (·.1) = dn ++ [x]
    rw [put_keys', if_neg hnd, i]
  · rintro s i
    refine gets_step rfl (gets_step rfl (gets_step rfl (gets_flb (gets_step (x := ss) rfl ?_))))
    refine gets_forF (fun dn s => s.map (·.1) = dn) rfl ?_ ?_
    · rintro dn ⟨a, b⟩ rs s2 e j
      have hr := hs (a, b) (by rw [e]; simp)
      have h5 : (a, b) ∉ s2.map (·.1) := by
        rw [j]
        have := e ▸ ns
        exact fun z => (List.nodup_append.mp this).2.2 _ z _ (by simp) rfl
      have ll : s2.length ≤ 1000 := by
        have a := congrArg List.length e
        have b := congrArg List.length j
        simp only [List.length_append, List.length_cons, List.length_map] at a b
        omega
      have hg : b ∉ srt gs := fun z => nd'.2.2 b hr.2.1 b ((srt_perm gs).mem_iff.mp z) rfl
      refine gets_flb ?_
      have ad := add_suit_ok (p := ps) (g := srt gs) (s := s2) (a := a) (b := b) (hr.1.imp_right fun z => (srt_perm gs).mem_iff.mpr z) hr.2.1 hg hr.2.2 h5 (by omega)
      show Gets (Option.bind (Option.bind (m_Web__add_suit (a, b, ()) ps (srt gs) s2) _) _) _
      rw [ad]
      refine gets_some (gets_some ?_)
      show (put s2 (a, b) true).map (·.1) = dn ++ [(a, b)]
      rw [put_keys', if_neg h5, j]
    · rintro s2 j
      exact gets_some (gets_some ⟨⟨ps, srt gs, s2⟩, rfl, rfl, rfl, j⟩)
theorem does_keys {w : WebD} {ss : List (Tt × Tt)} (h : w.suits.map (·.1) = ss) (a b : Tt) : doesB w a b = true ↔ (a, b) ∈ ss := by
  unfold doesB
  rw [look_some_mem, h]
theorem web_ok' {ps gs : List Tt} {ss : List (Tt × Tt)} (hn : ps.length + gs.length ≤ 16) (nd : (ps ++ gs).Nodup) (nm : ∀ x ∈ ps ++ gs, m_is_name (x, ()) = some true)
    (hs : ∀ r ∈ ss, (r.1 ∈ ps ∨ r.1 ∈ gs) ∧ r.2 ∈ ps ∧ r.1 ≠ r.2) (ns : ss.Nodup) (hl : ss.length ≤ 1000) :
    Gets (m_Web___init__ (ps, gs, ss, ())) fun r => ∃ w, r = .ok w ∧ w.pairs = ps ∧ w.givers = srt gs ∧ ∀ a b, doesB w a b = true ↔ (a, b) ∈ ss :=
  gets_mono (web_okK hn nd nm hs ns hl) fun r ⟨w, h1, h2, h3, h4⟩ => ⟨w, h1, h2, h3, does_keys h4⟩
end Sim

set_option Elab.async false
set_option autoImplicit false
set_option linter.all false
set_option maxRecDepth 100000
set_option maxHeartbeats 1000000
/-! the web of a drawn web, its rows in any order -/
namespace Sim
open PySem L2
def WebOf (w : T3 (List Tt) (List Tt) (List (Tt × Tt))) (W : WebD) : Prop := W.pairs = w.a ∧ W.givers = w.b ∧ (W.suits.map (·.1)).Perm w.c
theorem web_of {w : T3 (List Tt) (List Tt) (List (Tt × Tt))} (h : WebZ w) {gs : List Tt} {ss : List (Tt × Tt)} (pg : gs.Perm w.b) (ps : ss.Perm w.c) : Gets (m_Web___init__ (w.a, gs, ss, ())) fun r => ∃ W, r = .ok W ∧ WebOf w W := by
  obtain ⟨h1, h2, h3, h4, h5, ⟨h6, h7⟩, h8⟩ := h
  have pa : (w.a ++ gs).Perm (w.a ++ w.b) := List.Perm.append_left w.a pg
  have hg := pg.length_eq
  have hs := ps.length_eq
  refine gets_mono (web_okK (by omega) (pa.symm.nodup h2) (fun x m => ?_) (fun r m => ?_) (ps.symm.nodup h6) (by omega)) fun r ⟨W, e, q1, q2, q3⟩ => ⟨W, e, q1, ?_, by rw [q3]; exact ps⟩
  · have n := h3 x (pa.mem_iff.mp m)
    rw [is_name_ok (Nat.le_trans n.1.2 (by decide))]
    exact congrArg some (decide_eq_true n)
  · obtain ⟨a1, a2, a3⟩ := h7 r.1 r.2 (ps.mem_iff.mp m)
    refine ⟨?_, a2, a3⟩
    rcases List.mem_append.mp a1 with z | z
    · exact .inl z
    · exact .inr (pg.mem_iff.mpr z)
  · rw [q2]
    exact (srt_uniq pg.symm h4).symm
theorem suits_of {w : T3 (List Tt) (List Tt) (List (Tt × Tt))} {W : WebD} (h : WebZ w) (o : WebOf w W) : m_Web_suits (W, ()) = some w.c := by
  obtain ⟨h1, h2, h3, h4, h5, h6, h8⟩ := h
  obtain ⟨o1, o2, o3⟩ := o
  have hl : W.suits.length ≤ BIG := by
    have := o3.length_eq
    rw [List.length_map] at this
    exact Nat.le_trans (by omega : _ ≤ 256) (by decide)
  unfold m_Web_suits mb_Web_suits
  rw [if_pos hl]
  show some (srt (W.suits.map (·.1))) = some w.c
  rw [srt_uniq o3.symm h5]
theorem names_of {w : T3 (List Tt) (List Tt) (List (Tt × Tt))} {W : WebD} (h : WebZ w) (o : WebOf w W) : m_Web_names (W, ()) = some (w.a ++ w.b) := by
  obtain ⟨o1, o2, o3⟩ := o
  have e : W.nms = w.a ++ w.b := by unfold WebD.nms; rw [o1, o2]
  rw [web_names_ok (by rw [e, List.length_append]; have := h.1; omega), e]
end Sim

set_option Elab.async false
set_option autoImplicit false
set_option linter.all false
set_option maxRecDepth 100000
set_option maxHeartbeats 1000000
/-! lines of a web -/
namespace Sim
open PySem L2
abbrev tSuits : Tt := Tt.mk "suits " (by decide +kernel)
abbrev tBlank : Tt := Tt.mk " " (by decide +kernel)
abbrev tNone : Tt := Tt.mk "" (by decide +kernel)
theorem len_suits : (tl tSuits).length = 6 := by decide +kernel
theorem len_blank : (tl tBlank).length = 1 := by decide +kernel
theorem tl_none : tl tNone = [] := by decide +kernel
theorem line_suit {x y : Tt} (hx : NameT x) (hy : NameT y) : ∃ z, ((sadd tSuits x).bind fun w8 => sadd w8 tBlank).bind (fun w9 => sadd w9 y) = some z ∧ fcat tNone [some tSuits, fmt0 x, some tBlank, fmt0 y] = some z ∧ tl z = tl tSuits ++ tl x ++ tl tBlank ++ tl y := by
  have l1 := hx.1.2
  have l2 := hy.1.2
  have l3 := len_suits
  have l4 := len_blank
  obtain ⟨z1, e1, t1⟩ := sadd_ok (x := tSuits) (y := x) (by omega)
  obtain ⟨z2, e2, t2⟩ := sadd_ok (x := z1) (y := tBlank) (by rw [t1, List.length_append]; omega)
  obtain ⟨z3, e3, t3⟩ := sadd_ok (x := z2) (y := y) (by rw [t2, t1, List.length_append, List.length_append]; omega)
  obtain ⟨y0, f0, u0⟩ := sadd_ok (x := tNone) (y := tSuits) (by rw [tl_none]; simp only [List.length_nil]; omega)
  have : y0 = tSuits := tl_inj (by rw [u0, tl_none]; rfl)
  subst this
  have fx : fmt0 x = some x := by unfold fmt0; rw [if_pos (by rw [tl_len]; exact Nat.le_trans l1 (by decide))]
  have fy : fmt0 y = some y := by unfold fmt0; rw [if_pos (by rw [tl_len]; exact Nat.le_trans l2 (by decide))]
  refine ⟨z3, ?_, ?_, by rw [t3, t2, t1]⟩
  · rw [e1]; simp only [Option.bind_some]; rw [e2]; exact e3
  · rw [fx, fy]
    simp only [fcat, Option.bind_some, f0, e1, e2, e3]
end Sim

set_option Elab.async false
set_option autoImplicit false
set_option linter.all false
set_option maxRecDepth 100000
set_option maxHeartbeats 1000000
/-! the text of a web -/
namespace Sim
open PySem L2
abbrev tPair : Tt := Tt.mk "pair " (by decide +kernel)
abbrev tGiver : Tt := Tt.mk "giver " (by decide +kernel)
abbrev tEnd : Tt := Tt.mk "\n" (by decide +kernel)
def lnP (x : Tt) : Tt := (sadd tPair x).getD tNone
def lnG (x : Tt) : Tt := (sadd tGiver x).getD tNone
def lnS (r : Tt × Tt) : Tt := (((sadd tSuits r.1).bind fun w8 => sadd w8 tBlank).bind fun w9 => sadd w9 r.2).getD tNone
def linesOf (w : T3 (List Tt) (List Tt) (List (Tt × Tt))) : List Tt := w.a.map lnP ++ w.b.map lnG ++ w.c.map lnS
theorem lnP_ok {x : Tt} (h : NameT x) : sadd tPair x = some (lnP x) ∧ tl (lnP x) = tl tPair ++ tl x := by
  have l := h.1.2
  have l5 : (tl tPair).length = 5 := by decide +kernel
  obtain ⟨z, e, t⟩ := sadd_ok (x := tPair) (y := x) (by omega)
  unfold lnP
  rw [e]
  exact ⟨rfl, t⟩
theorem lnG_ok {x : Tt} (h : NameT x) : sadd tGiver x = some (lnG x) ∧ tl (lnG x) = tl tGiver ++ tl x := by
  have l := h.1.2
  have l5 : (tl tGiver).length = 6 := by decide +kernel
  obtain ⟨z, e, t⟩ := sadd_ok (x := tGiver) (y := x) (by omega)
  unfold lnG
  rw [e]
  exact ⟨rfl, t⟩
theorem lnS_ok {x y : Tt} (hx : NameT x) (hy : NameT y) : ((sadd tSuits x).bind fun w8 => sadd w8 tBlank).bind (fun w9 => sadd w9 y) = some (lnS (x, y)) ∧ fcat tNone [some tSuits, fmt0 x, some tBlank, fmt0 y] = some (lnS (x, y)) ∧ tl (lnS (x, y)) = tl tSuits ++ tl x ++ tl tBlank ++ tl y := by
  obtain ⟨z, e1, e2, t⟩ := line_suit hx hy
  have : lnS (x, y) = z := by
    unfold lnS
    rw [e1]; rfl
  rw [this]
  exact ⟨e1, e2, t⟩
theorem lcB_map {α γ : Type} {f : α → Option γ} {g : α → γ} {xs : List α} (hl : xs.length ≤ 1000000) (h : ∀ x ∈ xs, f x = some (g x)) : lcB (fun _ => some true) f xs = some (xs.map g) := by
  rw [lcB_ok (fun _ => true) g (Nat.le_trans hl (by decide)) (fun _ _ => rfl) fun x m _ => h x m]
  rw [List.filter_eq_self.mpr fun _ _ => rfl]
theorem law_lines_ok {w : T3 (List Tt) (List Tt) (List (Tt × Tt))} (h : WebZ w) : m__law_lines (w, ()) = some (linesOf w) := by
  obtain ⟨h1, h2, h3, h4, h5, ⟨h6, h7⟩, h8⟩ := h
  unfold m__law_lines mb__law_lines
  have eA := lcB_map (f := fun x => sadd tPair x) (xs := w.a) (by omega) fun x m => (lnP_ok (h3 x (List.mem_append_left _ m))).1
  have eB := lcB_map (f := fun x => sadd tGiver x) (xs := w.b) (by omega) fun x m => (lnG_ok (h3 x (List.mem_append_right _ m))).1
  have eC := lcB_map (f := fun (r : Tt × Tt) => ((sadd tSuits r.1).bind fun w8 => sadd w8 tBlank).bind fun w9 => sadd w9 r.2) (xs := w.c) (by omega) fun r m => by
    obtain ⟨x, y⟩ := r
    have := h7 x y m
    exact (lnS_ok (h3 x this.1) (h3 y (List.mem_append_left _ this.2.1))).1
  have big : BIG = 1000000 := rfl
  simp only [Option.bind_some, eA, eB, eC]
  rw [pcat_ok (by simp only [List.length_map]; omega)]
  simp only [Option.bind_some]
  rw [pcat_ok (by simp only [List.length_map, List.length_append]; omega)]
  rfl
theorem fmt_eq {w : T3 (List Tt) (List Tt) (List (Tt × Tt))} {W : WebD} (h : WebZ w) (o : WebOf w W) : m_format_web (W, ()) = m__law_text (linesOf w, ()) := by
  have es := suits_of h o
  obtain ⟨h1, h2, h3, h4, h5, ⟨h6, h7⟩, h8⟩ := h
  obtain ⟨o1, o2, o3⟩ := o
  unfold m_format_web mb_format_web m__law_text mb__law_text
  have eA := lcB_map (f := fun x => sadd tPair x) (xs := w.a) (by omega) fun x m => (lnP_ok (h3 x (List.mem_append_left _ m))).1
  have eB := lcB_map (f := fun x => sadd tGiver x) (xs := w.b) (by omega) fun x m => (lnG_ok (h3 x (List.mem_append_right _ m))).1
  have eC := lcB_map (f := fun (r : Tt × Tt) => fcat tNone [some tSuits, fmt0 r.1, some tBlank, fmt0 r.2]) (xs := w.c) (by omega) fun r m => by
    obtain ⟨x, y⟩ := r
    have := h7 x y m
    exact (lnS_ok (h3 x this.1) (h3 y (List.mem_append_left _ this.2.1))).2.1
  have big : BIG = 1000000 := rfl
  simp only [o1, o2, es, Option.bind_some, eA, eB, eC]
  rw [pcat_ok (by simp only [List.length_map]; omega)]
  simp only [Option.bind_some]
  rw [pcat_ok (by simp only [List.length_map, List.length_append]; omega)]
  rfl
end Sim

set_option Elab.async false
set_option autoImplicit false
set_option linter.all false
set_option maxRecDepth 100000
set_option maxHeartbeats 1000000
/-! the text of lines -/
namespace Sim
open PySem L2
theorem sum_le {xs : List Nat} {k : Nat} (h : ∀ x ∈ xs, x ≤ k) : xs.sum ≤ xs.length * k := by
  induction xs with
  | nil => simp
  | cons a r ih =>
    have h1 := h a (List.mem_cons_self ..)
    have h2 := ih fun x m => h x (List.mem_cons_of_mem _ m)
    rw [List.sum_cons, List.length_cons, Nat.add_mul]
    omega
theorem text_ok {ls : List Tt} (hl : ls.length ≤ 1000) (h : ∀ l ∈ ls, (tl l).length ≤ 100) : ∃ T, m__law_text (ls, ()) = some T ∧ tl T = (ls.map fun l => tl l ++ [10]).flatten := by
  have te : tl tEnd = [10] := by decide +kernel
  have hs : ∀ l ∈ ls, sadd l tEnd = some ((sadd l tEnd).getD tNone) ∧ tl ((sadd l tEnd).getD tNone) = tl l ++ [10] := fun l m => by
    have := h l m
    obtain ⟨z, e, t⟩ := sadd_ok (x := l) (y := tEnd) (by rw [te]; simp only [List.length_cons, List.length_nil]; omega)
    rw [e]
    exact ⟨rfl, by rw [← te]; exact t⟩
  have eL := lcB_map (f := fun l => sadd l tEnd) (xs := ls) (by omega) fun l m => (hs l m).1
  have em : (ls.map fun l => (sadd l tEnd).getD tNone).map tl = ls.map fun l => tl l ++ [10] := by
    rw [List.map_map]
    exact List.map_congr_left fun l m => (hs l m).2
  obtain ⟨T, e, t⟩ := sjoin0 (xs := ls.map fun l => (sadd l tEnd).getD tNone) (by
    have := sum_le (xs := (ls.map fun l => (sadd l tEnd).getD tNone).map fun x => (tl x).length) (k := 101) fun n m => by
      obtain ⟨x, mx, rfl⟩ := List.mem_map.mp m
      obtain ⟨l, ml, rfl⟩ := List.mem_map.mp mx
      rw [(hs l ml).2, List.length_append]
      have := h l ml
      simp only [List.length_cons, List.length_nil]; omega
    simp only [List.length_map] at this
    omega)
  refine ⟨T, ?_, by rw [t, em]⟩
  unfold m__law_text mb__law_text
  simp only [eL, Option.bind_some, e]
  rfl
end Sim

set_option Elab.async false
set_option autoImplicit false
set_option linter.all false
set_option maxRecDepth 100000
set_option maxHeartbeats 1000000
/-! the lines of a text -/
namespace Sim
open PySem L2
theorem joinL_end : ∀ (ls : List (List Nat)), TL.joinL [10] (ls ++ [[]]) = (ls.map fun l => l ++ [10]).flatten
  | [] => rfl
  | [p] => by simp [TL.joinL]
  | p :: q :: r => by
    have := joinL_end (q :: r)
    show p ++ ([10] ++ TL.joinL [10] (q :: r ++ [[]])) = _
    rw [this]
    simp
theorem tt_ext {xs ys : List Tt} (h : xs.map tl = ys.map tl) : xs = ys := by
  induction xs generalizing ys with
  | nil =>
    cases ys with
    | nil => rfl
    | cons y r => cases h
  | cons x t ih =>
    cases ys with
    | nil => cases h
    | cons y r =>
      rw [List.map_cons, List.map_cons] at h
      injection h with h1 h2
      rw [tl_inj h1, ih h2]
theorem pmap_tl : ∀ {l : List (List Nat)} (h : ∀ p ∈ l, ∀ c ∈ p, c < 0x110000), (l.pmap mkT h).map tl = l
  | [], _ => rfl
  | p :: r, h => by
    rw [List.pmap_cons, List.map_cons, pmap_tl]
    rfl
/-- a text that is joined of parts is split into them -/
theorem split_ok {T : Tt} {c : Nat} {sep : Tt} {ps : List Tt} (hc : tl sep = [c]) (hc2 : c < 256) (hl : (tl T).length ≤ 1000000) (hne : ps ≠ []) (hT : tl T = TL.joinL [c] (ps.map tl)) (h : ∀ p ∈ ps, c ∉ tl p) : ssplit T sep = some ps := by
  unfold ssplit
  have a1 : sep.s.length = 1 := by rw [tl_len, hc]; rfl
  have a2 : sep.s.cps.all (· < 256) = true := by
    rw [← Array.all_toList]
    show (tl sep).all (· < 256) = true
    rw [hc]; simpa using hc2
  have a3 : T.s.length ≤ BIG := by rw [tl_len]; exact Nat.le_trans hl (by decide)
  rw [if_pos ⟨a1, a2, a3⟩]
  congr 1
  apply tt_ext
  rw [pmap_tl]
  show TL.spl (tl sep) 0 [] (tl T) = _
  rw [hc, hT]
  exact TL.spl_join (by simpa using hne) fun p m => by
    obtain ⟨q, mq, rfl⟩ := List.mem_map.mp m
    exact h q mq
end Sim

set_option Elab.async false
set_option autoImplicit false
set_option linter.all false
set_option maxRecDepth 100000
set_option maxHeartbeats 1000000
/-! the words of a line -/
namespace Sim
open PySem L2
theorem req_ok (n : Int) : m_require (true, n, ()) = some () := rfl
theorem name_no {x : Tt} (h : NameT x) {c : Nat} (hc : c < 97) : c ∉ tl x := fun m => by
  have := h.2 c m
  omega
abbrev wPair : Tt := Tt.mk "pair" (by decide +kernel)
abbrev wGiver : Tt := Tt.mk "giver" (by decide +kernel)
abbrev wSuits : Tt := Tt.mk "suits" (by decide +kernel)
theorem spl_pair {x : Tt} (h : NameT x) : ssplit (lnP x) tBlank = some [wPair, x] := by
  have l := h.1.2
  have e := (lnP_ok h).2
  have l5 : (tl tPair).length = 5 := by decide +kernel
  refine split_ok (c := 32) (by decide +kernel) (by decide) (by rw [e, List.length_append]; omega) (by simp) ?_ fun p m => ?_
  · rw [e]
    have : tl tPair = tl wPair ++ [32] := by decide +kernel
    rw [this]
    simp [TL.joinL]
  · rcases List.mem_cons.mp m with z | m
    · subst z; decide +kernel
    · have : p = x := by simpa using m
      subst this; exact name_no h (by decide)
theorem spl_giver {x : Tt} (h : NameT x) : ssplit (lnG x) tBlank = some [wGiver, x] := by
  have l := h.1.2
  have e := (lnG_ok h).2
  have l5 : (tl tGiver).length = 6 := by decide +kernel
  refine split_ok (c := 32) (by decide +kernel) (by decide) (by rw [e, List.length_append]; omega) (by simp) ?_ fun p m => ?_
  · rw [e]
    have : tl tGiver = tl wGiver ++ [32] := by decide +kernel
    rw [this]
    simp [TL.joinL]
  · rcases List.mem_cons.mp m with z | m
    · subst z; decide +kernel
    · have : p = x := by simpa using m
      subst this; exact name_no h (by decide)
end Sim

set_option Elab.async false
set_option autoImplicit false
set_option linter.all false
set_option maxRecDepth 100000
set_option maxHeartbeats 1000000
/-! the words of a line, again -/
namespace Sim
open PySem L2
theorem spl_suits {x y : Tt} (h : NameT x) (h2 : NameT y) : ssplit (lnS (x, y)) tBlank = some [wSuits, x, y] := by
  have l := h.1.2
  have l2 := h2.1.2
  have e := (lnS_ok h h2).2.2
  have l5 := len_suits
  have l6 := len_blank
  refine split_ok (c := 32) (by decide +kernel) (by decide) (by rw [e]; simp only [List.length_append]; omega) (by simp) ?_ fun p m => ?_
  · rw [e]
    have a1 : tl tSuits = tl wSuits ++ [32] := by decide +kernel
    have a2 : tl tBlank = [32] := by decide +kernel
    rw [a1, a2]
    simp [TL.joinL]
  · rcases List.mem_cons.mp m with z | m
    · subst z; decide +kernel
    · rcases List.mem_cons.mp m with z | m
      · subst z; exact name_no h (by decide)
      · have : p = y := by simpa using m
        subst this; exact name_no h2 (by decide)
theorem name_b {x : Tt} (h : NameT x) : m_is_name (x, ()) = some true := by
  rw [is_name_ok (Nat.le_trans h.1.2 (by decide))]
  exact congrArg some (decide_eq_true h)
end Sim

set_option Elab.async false
set_option autoImplicit false
set_option linter.all false
set_option maxRecDepth 100000
set_option maxHeartbeats 1000000
/-! words_of -/
namespace Sim
open PySem L2
theorem words_ok {l hd : Tt} {xs : List Tt} {n : Int} (e : ssplit l tBlank = some (hd :: xs)) (ht : tget [("pair", 2), ("giver", 2), ("suits", 3)] hd = some ((hd :: xs).length : Int)) (nm : ∀ x ∈ xs, NameT x) (hl : xs.length ≤ 10) : m_words_of (l, n, ()) = some (hd :: xs) := by
  unfold m_words_of mb_words_of
  have eC : cut (hd :: xs) (some (1 : Int)) none = xs := cut_from (i := 1)
  have eL := lcB_map (f := fun x5 : Tt => m_is_name (x5, ())) (g := fun _ => true) (xs := xs) (by omega) fun x m => name_b (nm x m)
  have ea : List.all (xs.map fun _ => true) id = true := by simp
  simp only [e, eC, eL, Option.bind_some, atI_zero, ht, ea, Option.isSome_some, andM, decide_true, b2, req_ok]
  simp only [eL, Option.bind_some, ea, req_ok, if_true, if_pos]
  rfl
end Sim

set_option Elab.async false
set_option autoImplicit false
set_option linter.all false
set_option maxRecDepth 100000
set_option maxHeartbeats 1000000
/-! the loop of parse_web -/
namespace Sim
open PySem L2
def pwF (s6 : (List Tt) × (List Tt) × (List (Tt × Tt))) (x7 : Int × Tt) : Option ((List Tt) × (List Tt) × (List (Tt × Tt))) :=
  ((b2 (some x7.2) (b2 (some x7.1) (some ()) fun x t => some (x, t)) fun x t => some (x, t)).bind m_words_of).bind fun (z8 : (List Tt)) =>
  (((atI z8 (0 : Int)).bind fun w9 => some (decide (w9 = (Tt.mk "pair" (by decide +kernel))))).bind fun t => if t = true then
  (((b2 ((andM (some (List.isEmpty s6.2.1)) (some (List.isEmpty s6.2.2)))) (b2 (some x7.1) (some ()) fun x t => some (x, t)) fun x t => some (x, t)).bind m_require).bind fun _ => some ()).bind fun _ =>
  ((atI z8 (1 : Int)).bind fun w12 => push s6.1 w12).bind fun (z11 : (List Tt)) =>
  (some (z11, s6.2.1, s6.2.2))
 else
  (((atI z8 (0 : Int)).bind fun w13 => some (decide (w13 = (Tt.mk "giver" (by decide +kernel))))).bind fun t => if t = true then
  (((b2 ((andM (some (List.isEmpty s6.2.2)) ((orM (some (List.isEmpty s6.2.1)) ((atI s6.2.1 (-(1 : Int))).bind fun w15 => (atI z8 (1 : Int)).bind fun w16 => some (decide (cps w15 < cps w16))))))) (b2 (some x7.1) (some ()) fun x t => some (x, t)) fun x t => some (x, t)).bind m_require).bind fun _ => some ()).bind fun _ =>
  ((atI z8 (1 : Int)).bind fun w18 => push s6.2.1 w18).bind fun (z17 : (List Tt)) =>
  (some (z17, s6.2.2))
 else
  ((atI z8 (1 : Int)).bind fun w20 => (atI z8 (2 : Int)).bind fun w21 => some (w20, w21)).bind fun (z19 : (Tt × Tt)) =>
  (((b2 ((orM (some (List.isEmpty s6.2.2)) ((atI s6.2.2 (-(1 : Int))).bind fun w22 => some (TP.lexT (tS w22) (tS z19))))) (b2 (some x7.1) (some ()) fun x t => some (x, t)) fun x t => some (x, t)).bind m_require).bind fun _ => some ()).bind fun _ =>
  (push s6.2.2 z19).bind fun (z23 : (List (Tt × Tt))) =>
  (some (s6.2.1, z23))).bind fun (s14 : (List Tt) × (List (Tt × Tt))) =>
  (some (s6.1, s14.1, s14.2))).bind fun (s10 : (List Tt) × (List Tt) × (List (Tt × Tt))) =>
  (some (s10.1, s10.2.1, s10.2.2))
theorem tget_pair : tget [("pair", 2), ("giver", 2), ("suits", 3)] wPair = some 2 := by decide +kernel
theorem tget_giver : tget [("pair", 2), ("giver", 2), ("suits", 3)] wGiver = some 2 := by decide +kernel
theorem tget_suits : tget [("pair", 2), ("giver", 2), ("suits", 3)] wSuits = some 3 := by decide +kernel
theorem step_pair {p : List Tt} {n : Int} {x : Tt} (h : NameT x) (hl : p.length ≤ 1000) : pwF (p, [], []) (n, lnP x) = some (p ++ [x], [], []) := by
  have e := words_ok (n := n) (spl_pair h) tget_pair (fun y m => (List.mem_singleton.mp m) ▸ h) (by simp)
  have e1 : atI [wPair, x] (1 : Int) = some x := atI_nat (i := 1) rfl
  unfold pwF
  simp only [b2, Option.bind_some, e, atI_zero, e1, andM, List.isEmpty_nil, decide_true, if_true, req_ok, push_ok (show p.length + 1 ≤ BIG from Nat.le_trans (by omega : _ ≤ 1001) (by decide))]
end Sim

set_option Elab.async false
set_option autoImplicit false
set_option linter.all false
set_option maxRecDepth 100000
set_option maxHeartbeats 1000000
/-! the loop of parse_web: givers -/
namespace Sim
open PySem L2
theorem step_giver {p g : List Tt} {n : Int} {x : Tt} (h : NameT x) (hl : g.length ≤ 1000) (hg : g = [] ∨ ∃ g' y, g = g' ++ [y] ∧ cps y < cps x) : pwF (p, g, []) (n, lnG x) = some (p, g ++ [x], []) := by
  have e := words_ok (n := n) (spl_giver h) tget_giver (fun y m => (List.mem_singleton.mp m) ▸ h) (by simp)
  have e1 : atI [wGiver, x] (1 : Int) = some x := atI_nat (i := 1) rfl
  have ne : (wGiver = wPair) = False := eq_false (by decide +kernel)
  have pu := push_ok (x := x) (show g.length + 1 ≤ BIG from Nat.le_trans (by omega : _ ≤ 1001) (by decide))
  unfold pwF
  rcases hg with hg | ⟨g', y, hg, hy⟩
  · subst hg
    simp only [b2, Option.bind_some, e, atI_zero, e1, andM, orM, ne, List.isEmpty_nil, decide_true, decide_false, if_true, if_false, Bool.false_eq_true, req_ok, pu]
  · have e2 : atI g (-(1 : Int)) = some y := by rw [hg]; exact atI_last
    have e3 : g.isEmpty = false := by rw [hg]; simp
    simp only [b2, Option.bind_some, e, atI_zero, e1, e2, e3, andM, orM, ne, hy, List.isEmpty_nil, decide_true, decide_false, if_true, if_false, Bool.false_eq_true, req_ok, pu]
end Sim

set_option Elab.async false
set_option autoImplicit false
set_option linter.all false
set_option maxRecDepth 100000
set_option maxHeartbeats 1000000
/-! the loop of parse_web: suits -/
namespace Sim
open PySem L2
theorem step_suits {p g : List Tt} {c : List (Tt × Tt)} {n : Int} {x y : Tt} (h : NameT x) (h2 : NameT y) (hl : c.length ≤ 1000) (hg : c = [] ∨ ∃ c' r, c = c' ++ [r] ∧ TP.lexT (tS r) (tS (x, y)) = true) : pwF (p, g, c) (n, lnS (x, y)) = some (p, g, c ++ [(x, y)]) := by
  have e := words_ok (n := n) (spl_suits h h2) tget_suits (fun z m => by
    rcases List.mem_cons.mp m with q | q
    · exact q ▸ h
    · exact (List.mem_singleton.mp q) ▸ h2) (by simp)
  have e1 : atI [wSuits, x, y] (1 : Int) = some x := atI_nat (i := 1) rfl
  have e1' : atI [wSuits, x, y] (2 : Int) = some y := atI_nat (i := 2) rfl
  have ne : (wSuits = wPair) = False := eq_false (by decide +kernel)
  have ne2 : (wSuits = wGiver) = False := eq_false (by decide +kernel)
  have pu := push_ok (x := (x, y)) (show c.length + 1 ≤ BIG from Nat.le_trans (by omega : _ ≤ 1001) (by decide))
  unfold pwF
  rcases hg with hg | ⟨c', r, hg, hy⟩
  · subst hg
    simp only [b2, Option.bind_some, e, atI_zero, e1, e1', andM, orM, ne, ne2, List.isEmpty_nil, decide_true, decide_false, if_true, if_false, Bool.false_eq_true, req_ok, pu]
  · have e2 : atI c (-(1 : Int)) = some r := by rw [hg]; exact atI_last
    have e3 : c.isEmpty = false := by rw [hg]; simp
    simp only [b2, Option.bind_some, e, atI_zero, e1, e1', e2, e3, andM, orM, ne, ne2, hy, List.isEmpty_nil, decide_true, decide_false, if_true, if_false, Bool.false_eq_true, req_ok, pu]
end Sim

set_option Elab.async false
set_option autoImplicit false
set_option linter.all false
set_option maxRecDepth 100000
set_option maxHeartbeats 1000000
/-! the loop of parse_web: phases -/
namespace Sim
open PySem L2
theorem forP_app {S α : Type} {f : S → α → Option S} : ∀ (xs ys : List α) (s : S), forP f s (xs ++ ys) = (forP f s xs).bind fun s' => forP f s' ys
  | [], ys, s => rfl
  | x :: r, ys, s => by
    show (f s x).bind (fun s' => forP f s' (r ++ ys)) = ((f s x).bind fun s' => forP f s' r).bind fun s' => forP f s' ys
    cases f s x with
    | none => rfl
    | some s' => exact forP_app r ys s'
theorem phase_pairs : ∀ (A : List Tt) (p : List Tt) (rows : List (Int × Tt)), rows.map (·.2) = A.map lnP → (∀ x ∈ A, NameT x) → p.length + A.length ≤ 1000 → forP pwF (p, [], []) rows = some (p ++ A, [], [])
  | [], p, rows, e, _, _ => by
    have : rows = [] := List.map_eq_nil_iff.mp e
    subst this
    simp [forP]
  | x :: r, p, [], e, _, _ => by cases e
  | x :: r, p, (n, l) :: t, e, h, hl => by
    rw [List.map_cons, List.map_cons] at e
    injection e with e1 e2
    have e1 : l = lnP x := e1
    subst e1
    show (pwF (p, [], []) (n, lnP x)).bind (fun s' => forP pwF s' t) = _
    rw [step_pair (h x (List.mem_cons_self ..)) (by rw [List.length_cons] at hl; omega)]
    show forP pwF (p ++ [x], [], []) t = _
    rw [phase_pairs r (p ++ [x]) t e2 (fun y m => h y (List.mem_cons_of_mem _ m)) (by rw [List.length_append]; simp only [List.length_cons, List.length_nil] at *; omega)]
    simp
end Sim

set_option Elab.async false
set_option autoImplicit false
set_option linter.all false
set_option maxRecDepth 100000
set_option maxHeartbeats 1000000
/-! the loop of parse_web: phases of givers and of suits -/
namespace Sim
open PySem L2
theorem last_lt {α : Type} {R : α → α → Prop} {g A : List α} {x : α} (h : (g ++ x :: A).Pairwise R) : g = [] ∨ ∃ g' y, g = g' ++ [y] ∧ R y x := by
  rcases List.eq_nil_or_concat g with e | ⟨L, b, e⟩
  · exact .inl e
  · refine .inr ⟨L, b, by rw [e, List.concat_eq_append], ?_⟩
    exact (List.pairwise_append.mp h).2.2 b (by rw [e]; simp) x (List.mem_cons_self ..)
theorem phase_givers (p : List Tt) : ∀ (A g : List Tt) (rows : List (Int × Tt)), rows.map (·.2) = A.map lnG → (∀ x ∈ A, NameT x) → g.length + A.length ≤ 1000 → (g ++ A).Pairwise (fun a b => cps a < cps b) → forP pwF (p, g, []) rows = some (p, g ++ A, [])
  | [], g, rows, e, _, _, _ => by
    have : rows = [] := List.map_eq_nil_iff.mp e
    subst this
    simp [forP]
  | x :: r, g, [], e, _, _, _ => by cases e
  | x :: r, g, (n, l) :: t, e, h, hl, pw => by
    rw [List.map_cons, List.map_cons] at e
    injection e with e1 e2
    have e1 : l = lnG x := e1
    subst e1
    show (pwF (p, g, []) (n, lnG x)).bind (fun s' => forP pwF s' t) = _
    rw [step_giver (h x (List.mem_cons_self ..)) (by rw [List.length_cons] at hl; omega) (last_lt pw)]
    show forP pwF (p, g ++ [x], []) t = _
    rw [phase_givers p r (g ++ [x]) t e2 (fun y m => h y (List.mem_cons_of_mem _ m)) (by rw [List.length_append]; simp only [List.length_cons, List.length_nil] at *; omega) (by simpa using pw)]
    simp
theorem phase_suits (p g : List Tt) : ∀ (A c : List (Tt × Tt)) (rows : List (Int × Tt)), rows.map (·.2) = A.map lnS → (∀ r ∈ A, NameT r.1 ∧ NameT r.2) → c.length + A.length ≤ 1000 → (c ++ A).Pairwise (fun a b => TP.lexT (tS a) (tS b) = true) → forP pwF (p, g, c) rows = some (p, g, c ++ A)
  | [], c, rows, e, _, _, _ => by
    have : rows = [] := List.map_eq_nil_iff.mp e
    subst this
    simp [forP]
  | x :: r, c, [], e, _, _, _ => by cases e
  | (x, y) :: r, c, (n, l) :: t, e, h, hl, pw => by
    rw [List.map_cons, List.map_cons] at e
    injection e with e1 e2
    have e1 : l = lnS (x, y) := e1
    subst e1
    have hx := h (x, y) (List.mem_cons_self ..)
    show (pwF (p, g, c) (n, lnS (x, y))).bind (fun s' => forP pwF s' t) = _
    rw [step_suits hx.1 hx.2 (by rw [List.length_cons] at hl; omega) (last_lt pw)]
    show forP pwF (p, g, c ++ [(x, y)]) t = _
    rw [phase_suits p g r (c ++ [(x, y)]) t e2 (fun y m => h y (List.mem_cons_of_mem _ m)) (by rw [List.length_append]; simp only [List.length_cons, List.length_nil] at *; omega) (by simpa using pw)]
    simp
/-- in order and apart: rising -/
theorem rising {xs : List Tt} (nd : xs.Nodup) (h : xs.Pairwise (fun a b => Tot.le a b = true)) : xs.Pairwise fun a b => cps a < cps b := by
  have := List.pairwise_and_iff.mpr ⟨nd, h⟩
  refine this.imp fun {a b} ⟨ne, le⟩ => ?_
  have le : (!TP.ltT b.s a.s) = true := le
  rw [Bool.not_eq_true'] at le
  by_cases q : TP.ltT a.s b.s = true
  · exact of_decide_eq_true q
  · exact absurd (Tt.ext' (TP.ltT_tot (by simpa using q) le)) ne
theorem risingP {xs : List (Tt × Tt)} (nd : xs.Nodup) (h : xs.Pairwise (fun a b => Tot.le a b = true)) : xs.Pairwise fun a b => TP.lexT (tS a) (tS b) = true := by
  have := List.pairwise_and_iff.mpr ⟨nd, h⟩
  refine this.imp fun {a b} ⟨ne, le⟩ => ?_
  have le : (!TP.lexT (tS b) (tS a)) = true := le
  rw [Bool.not_eq_true'] at le
  by_cases q : TP.lexT (tS a) (tS b) = true
  · exact q
  · exact absurd (tS_inj (TP.lexT_tot (by simpa using q) le)) ne
end Sim

set_option Elab.async false
set_option autoImplicit false
set_option linter.all false
set_option maxRecDepth 100000
set_option maxHeartbeats 1000000
/-! a web's text is read back -/
namespace Sim
open PySem L2
theorem line_fact {w : T3 (List Tt) (List Tt) (List (Tt × Tt))} (h : WebZ w) : ∀ l ∈ linesOf w, (tl l).length ≤ 100 ∧ 10 ∉ tl l := by
  obtain ⟨h1, h2, h3, h4, h5, ⟨h6, h7⟩, h8⟩ := h
  intro l m
  unfold linesOf at m
  rcases List.mem_append.mp m with m | m
  · rcases List.mem_append.mp m with m | m
    · obtain ⟨x, mx, rfl⟩ := List.mem_map.mp m
      have nx := h3 x (List.mem_append_left _ mx)
      rw [(lnP_ok nx).2]
      have l1 : (tl tPair).length = 5 := by decide +kernel
      have l2 : 10 ∉ tl tPair := by decide +kernel
      have l3 := nx.1.2
      refine ⟨by rw [List.length_append]; omega, fun z => ?_⟩
      rcases List.mem_append.mp z with z | z
      · exact l2 z
      · exact name_no nx (by decide) z
    · obtain ⟨x, mx, rfl⟩ := List.mem_map.mp m
      have nx := h3 x (List.mem_append_right _ mx)
      rw [(lnG_ok nx).2]
      have l1 : (tl tGiver).length = 6 := by decide +kernel
      have l2 : 10 ∉ tl tGiver := by decide +kernel
      have l3 := nx.1.2
      refine ⟨by rw [List.length_append]; omega, fun z => ?_⟩
      rcases List.mem_append.mp z with z | z
      · exact l2 z
      · exact name_no nx (by decide) z
  · obtain ⟨⟨x, y⟩, mx, rfl⟩ := List.mem_map.mp m
    have a := h7 x y mx
    have nx := h3 x a.1
    have ny := h3 y (List.mem_append_left _ a.2.1)
    rw [(lnS_ok nx ny).2.2]
    have l2 : 10 ∉ tl tSuits := by decide +kernel
    have l3 : 10 ∉ tl tBlank := by decide +kernel
    have l4 := nx.1.2
    have l5 := ny.1.2
    have l6 := len_suits
    have l7 := len_blank
    refine ⟨by simp only [List.length_append]; omega, fun z => ?_⟩
    rcases List.mem_append.mp z with z | z
    · rcases List.mem_append.mp z with z | z
      · rcases List.mem_append.mp z with z | z
        · exact l2 z
        · exact name_no nx (by decide) z
      · exact l3 z
    · exact name_no ny (by decide) z
theorem lines_len {w : T3 (List Tt) (List Tt) (List (Tt × Tt))} (h : WebZ w) : (linesOf w).length ≤ 272 := by
  obtain ⟨h1, h2, h3, h4, h5, ⟨h6, h7⟩, h8⟩ := h
  unfold linesOf
  simp only [List.length_append, List.length_map]
  omega
theorem flat_le {ls : List Tt} (h : ∀ l ∈ ls, (tl l).length ≤ 100) : ((ls.map fun l => tl l ++ [10]).flatten).length ≤ ls.length * 101 := by
  induction ls with
  | nil => simp
  | cons l r ih =>
    have h1 := h l (List.mem_cons_self ..)
    have h2 := ih fun x m => h x (List.mem_cons_of_mem _ m)
    simp only [List.map_cons, List.flatten_cons, List.length_append, List.length_cons, List.length_nil]
    rw [Nat.add_mul]
    omega
theorem cut_last {α : Type} {xs : List α} {x : α} : cut (xs ++ [x]) none (some (-(1 : Int))) = xs := by
  have e : HT.sIx (xs ++ [x]).length (xs ++ [x]).length (some (-(1 : Int))) = xs.length := by
    unfold HT.sIx
    simp
    omega
  have e0 : HT.sIx (xs ++ [x]).length 0 none = 0 := rfl
  unfold cut
  rw [e, e0]
  simp
theorem enumFL_snd {α : Type} {k : Int} {xs : List α} : (enumFL k xs).map (·.2) = xs := by
  unfold enumFL
  rw [List.map_map]
  show (xs.zipIdx.map fun q => q.1) = xs
  exact List.zipIdx_map_fst 0 xs
theorem loop_ok {w : T3 (List Tt) (List Tt) (List (Tt × Tt))} (h : WebZ w) {rows : List (Int × Tt)} (e : rows.map (·.2) = linesOf w) : forP pwF ([], [], []) rows = some (w.a, w.b, w.c) := by
  obtain ⟨h1, h2, h3, h4, h5, ⟨h6, h7⟩, h8⟩ := h
  unfold linesOf at e
  obtain ⟨r12, r3, e12, m12, m3⟩ := List.map_eq_append_iff.mp e
  obtain ⟨r1, r2, e1, m1, m2⟩ := List.map_eq_append_iff.mp m12
  rw [e12, e1, forP_app, forP_app]
  rw [phase_pairs w.a [] r1 m1 (fun x m => h3 x (List.mem_append_left _ m)) (by simp only [List.length_nil]; omega)]
  show (forP pwF (w.a, [], []) r2).bind _ = _
  rw [phase_givers w.a w.b [] r2 m2 (fun x m => h3 x (List.mem_append_right _ m)) (by simp only [List.length_nil]; omega) (rising (List.nodup_append.mp h2).2.1 h4)]
  show forP pwF (w.a, w.b, []) r3 = _
  rw [phase_suits w.a w.b w.c [] r3 m3 (fun r m => by
    have := h7 r.1 r.2 m
    exact ⟨h3 _ this.1, h3 _ (List.mem_append_left _ this.2.1)⟩) (by simp only [List.length_nil]; omega) (risingP h6 h5)]
  rfl
theorem lines_split {w : T3 (List Tt) (List Tt) (List (Tt × Tt))} (h : WebZ w) {T : Tt} (hT : tl T = ((linesOf w).map fun l => tl l ++ [10]).flatten) : ssplit T tEnd = some (linesOf w ++ [tNone]) := by
  have hf := line_fact h
  refine split_ok (c := 10) (by decide +kernel) (by decide) ?_ (by simp) ?_ fun p m => ?_
  · rw [hT]
    have := flat_le fun l m => (hf l m).1
    have := lines_len h
    omega
  · rw [hT, List.map_append, List.map_cons, List.map_nil, tl_none, joinL_end, List.map_map]
    rfl
  · rcases List.mem_append.mp m with m | m
    · exact (hf p m).2
    · have : p = tNone := by simpa using m
      subst this
      rw [tl_none]
      exact List.not_mem_nil
theorem parse_ok {w : T3 (List Tt) (List Tt) (List (Tt × Tt))} (h : WebZ w) {T : Tt} (hT : tl T = ((linesOf w).map fun l => tl l ++ [10]).flatten) : Gets (m_parse_web (T, ())) (WebOf w) := by
  have hs := lines_split h hT
  unfold m_parse_web mb_parse_web
  refine gets_bind (gets_step hs (gets_step (x := ()) ?_ (gets_step rfl (gets_step rfl (gets_step rfl (gets_bind (gets_bind (gets_some ?_))))))))
  · rw [atI_last]
    rfl
  · rw [cut_last]
    refine gets_eq (loop_ok h enumFL_snd) (gets_bind (gets_bind (gets_eq (x := (w.a, w.b, w.c, ())) rfl (gets_bind (gets_mono (web_of h (List.Perm.refl _) (List.Perm.refl _)) fun r ⟨W, e, q⟩ => ?_)))))
    rw [e]
    exact gets_some (gets_some (gets_some q))
end Sim

set_option Elab.async false
set_option autoImplicit false
set_option linter.all false
set_option maxRecDepth 100000
set_option maxHeartbeats 1000000
/-! who may meet, and the edges -/
namespace Sim
open PySem L2
section
variable {w : T3 (List Tt) (List Tt) (List (Tt × Tt))} {W : WebD}
theorem webof_does (o : WebOf w W) (a b : Tt) : isIn (a, b) w.c = doesB W a b := by
  have hk := does_keys (w := W) rfl a b
  cases h : doesB W a b with
  | true => exact isIn_iff.mpr (o.2.2.mem_iff.mp (hk.mp h))
  | false => exact isIn_f fun z => by rw [hk.mpr (o.2.2.mem_iff.mpr z)] at h; cases h
theorem meet_ok (h : WebZ w) (o : WebOf w W) (a b : Tt) : m__law_meet (w, a, b, ()) = some (meetB W a b) := by
  unfold m__law_meet mb__law_meet meetB
  have o2 := o.2.1
  simp only [Option.bind_some, webof_does o, o2]
  cases h1 : isIn a w.b <;> cases h2 : isIn b w.b
  · cases doesB W a b <;> cases doesB W b a <;> rfl
  · rfl
  · rfl
  · have : doesB W a b = false := by
      rw [← webof_does o]
      refine isIn_f fun z => ?_
      obtain ⟨h1', hn, h3, h4, h5, ⟨h6, h7⟩, h8⟩ := h
      exact (List.nodup_append.mp hn).2.2 b (h7 a b z).2.1 b (isIn_iff.mp h2) rfl
    rw [this]
    rfl
def rowE (W : WebD) (x : Int) : List (Int × Int) := ((rangeL (x + 1) (W.nms.length : Int)).filter fun y => meetI W x y).map fun y => (x, y)
def edL (W : WebD) : List (Int × Int) := (rangeL 0 (W.nms.length : Int)).flatMap (rowE W)
theorem rowE_len {W : WebD} {x : Int} (h0 : 0 ≤ x) : (rowE W x).length ≤ W.nms.length := by
  unfold rowE
  rw [List.length_map]
  refine Nat.le_trans (List.length_filter_le _ _) ?_
  rw [rangeL_length]
  omega
theorem flat_len {W : WebD} : ∀ {dn : List Int}, (∀ x ∈ dn, 0 ≤ x) → (dn.flatMap (rowE W)).length ≤ dn.length * W.nms.length
  | [], _ => by simp
  | x :: r, h => by
    have h1 := rowE_len (W := W) (h x (List.mem_cons_self ..))
    have h2 := flat_len (W := W) (dn := r) fun y m => h y (List.mem_cons_of_mem _ m)
    rw [List.flatMap_cons, List.length_append, List.length_cons, Nat.add_mul]
    omega
theorem inner_loop {W : WebD} {x : Int} {es0 : List (Int × Int)} {f : List (Int × Int) → Int → Option (List (Int × Int))} (hl : W.nms.length ≤ 20) (h0 : 0 ≤ x) (hn : es0.length ≤ 1000)
    (hf : ∀ es y, es.length ≤ 2000 → 0 ≤ y → y < (W.nms.length : Int) → f es y = some (if meetI W x y = true then es ++ [(x, y)] else es)) :
    forP f es0 (rangeL (x + 1) (W.nms.length : Int)) = some (es0 ++ rowE W x) := by
  have : Gets (forP f es0 (rangeL (x + 1) (W.nms.length : Int))) fun r => r = es0 ++ rowE W x := by
    refine gets_forP (fun dn es => es = es0 ++ (dn.filter fun y => meetI W x y).map fun y => (x, y)) (by simp) (fun dn y rs es e i => ?_) fun es i => i
    obtain ⟨hy, hy2⟩ := range_at e
    have l1 := List.length_filter_le (fun y => meetI W x y) dn
    have hle : es.length ≤ 2000 := by
      rw [i, List.length_append, List.length_map]
      omega
    refine gets_eq (hf es y hle (by omega) (by omega)) ?_
    rw [List.filter_append, List.map_append, ← List.append_assoc, ← i]
    cases hm : meetI W x y <;> simp [hm]
  obtain ⟨r, e, q⟩ := this
  rw [e, q]
theorem outer_loop {W : WebD} {f : List (Int × Int) → Int → Option (List (Int × Int))} (hl : W.nms.length ≤ 20)
    (hf : ∀ es x, es.length ≤ 400 → 0 ≤ x → x < (W.nms.length : Int) → f es x = some (es ++ rowE W x)) :
    forP f [] (rangeL 0 (W.nms.length : Int)) = some (edL W) := by
  have : Gets (forP f [] (rangeL 0 (W.nms.length : Int))) fun r => r = edL W := by
    refine gets_forP (fun dn es => es = dn.flatMap (rowE W)) (by simp) (fun dn x rs es e i => ?_) fun es i => i
    obtain ⟨hx, hx2⟩ := range_at e
    have hle : es.length ≤ 400 := by
      rw [i]
      refine Nat.le_trans (flat_len fun y m => ?_) (Nat.mul_le_mul (by omega : dn.length ≤ 20) hl)
      have : y ∈ rangeL 0 (W.nms.length : Int) := by rw [e]; simp [m]
      exact (mem_rangeL.mp this).1
    refine gets_eq (hf es x hle (by omega) (by omega)) ?_
    rw [i]
    simp
  obtain ⟨r, e, q⟩ := this
  rw [e, q]
theorem meetI_at {W : WebD} {x y : Int} {a b : Tt} (h1 : atI W.nms x = some a) (h2 : atI W.nms y = some b) : meetI W x y = meetB W a b := by unfold meetI; rw [h1, h2]
theorem edges_x {W : WebD} (hl : W.nms.length ≤ 20) : m_Web_edges (W, ()) = some (edL W) := by
  have big : BIG = 1000000 := rfl
  have e1 : prange 0 (W.nms.length : Int) = some (rangeL 0 (W.nms.length : Int)) := prange_ok (by omega) (by omega)
  unfold m_Web_edges mb_Web_edges
  simp only [web_names_ok (w := W) (by omega), Option.bind_some, e1]
  rw [outer_loop hl fun es x hle h0 hx => ?_]
  · rfl
  · have e2 : prange (x + 1) (W.nms.length : Int) = some (rangeL (x + 1) (W.nms.length : Int)) := prange_ok (by omega) (by omega)
    obtain ⟨A, hA⟩ := atI_range ⟨h0, hx⟩
    simp only [e2, Option.bind_some, hA]
    rw [inner_loop hl h0 (by omega) fun es y hle hy hy2 => ?_]
    · rfl
    · obtain ⟨B, hB⟩ := atI_range ⟨hy, hy2⟩
      simp only [hB, b2, Option.bind_some]
      rw [meetI_at hA hB]
      have wm : m_Web_may_meet (W, A, B, ()) = some (meetB W A B) := web_meet_ok
      simp only [wm, Option.bind_some]
      by_cases hm : meetB W A B = true
      · rw [if_pos hm, if_pos hm, push_ok (by omega)]; rfl
      · rw [if_neg hm, if_neg hm]; rfl
end
end Sim

set_option Elab.async false
set_option autoImplicit false
set_option linter.all false
set_option maxRecDepth 100000
set_option maxHeartbeats 1000000
/-! what the law asks of a web -/
namespace Sim
open PySem L2
section
variable {w : T3 (List Tt) (List Tt) (List (Tt × Tt))} {W : WebD}
theorem lc_none {xs : List Bool} (hl : xs.length ≤ 1000) : lcB (fun _ : Bool => some (!true)) (fun x => some x) xs = some [] := by
  rw [lcB_ok (fun _ => !true) id (Nat.le_trans hl (by decide)) (fun _ _ => rfl) fun x _ h => by cases h]
  simp
theorem take_at {N : List Tt} {z : OZ} (hN : 0 < N.length) (hl : N.length ≤ 1000) (hz : z.l.length ≤ 63) : ∃ (a : Tt) (z' : OZ), (((some N).bind fun x => some (x, z)).bind fun w20 => ((((some ((N).length : Int)).bind fun x => some (x, w20.2)).bind fun w23 => (some ((), w23.2)).bind fun w24 => some ((w23.1, w24.1), w24.2)).bind fun w22 => m__law_take w22.1 w22.2).bind fun w21 => (atI w20.1 w21.1).bind fun z => some (z, w21.2)) = some (a, z') ∧ a ∈ N ∧ z'.l.length ≤ z.l.length := by
  obtain ⟨r, e, ⟨h0, h1⟩, h2⟩ := take_ok (n := (N.length : Int)) (z := z) (by omega) (by omega) hz
  obtain ⟨a, ha⟩ := atI_range (xs := N) ⟨h0, h1⟩
  refine ⟨a, r.2, ?_, ?_, h2⟩
  · simp only [Option.bind_some, e, ha]
  · have e1 := atI_nat (xs := N) (i := r.1.toNat) (List.getElem?_eq_getElem (by omega))
    rw [Int.toNat_of_nonneg h0, ha] at e1
    rw [Option.some.inj e1]
    exact List.getElem_mem _
theorem right_ok {z : OZ} (h : WebZ w) (o : WebOf w W) (hz : z.l.length ≤ 63) : Gets (m__law_web_right (W, w, ()) z) fun r => r.1 = true ∧ r.2.l.length ≤ z.l.length := by
  have big : BIG = 1000000 := rfl
  have hl := h.1
  have hn : W.nms = w.a ++ w.b := by unfold WebD.nms; rw [o.1, o.2.1]
  have hnl : W.nms.length ≤ 16 := by rw [hn, List.length_append]; omega
  have e1 : prange 0 (W.nms.length : Int) = some (rangeL 0 (W.nms.length : Int)) := prange_ok (by omega) (by omega)
  unfold m__law_web_right mb__law_web_right
  refine gets_bind (gets_step rfl (gets_step (pcat_ok (show w.a.length + w.b.length ≤ BIG by omega)) (gets_flb (gets_step (x := false) ?_ (gets_some (gets_step rfl (gets_bind ?_)))))))
  · simp only [suits_of h o, names_of h o, Option.bind_some, o.1, o.2.1, orM, decide_true, Bool.not_true]
    rfl
  rw [← hn]
  refine gets_step e1 (gets_eq (outer_loop (W := W) (Nat.le_trans hnl (by decide)) fun es x hle h0 hx => ?_) (gets_flb (gets_step (x := false) ?_ (gets_some (gets_flb ?_)))))
  · have e2 : prange (x + 1) (W.nms.length : Int) = some (rangeL (x + 1) (W.nms.length : Int)) := prange_ok (by omega) (by omega)
    obtain ⟨A, hA⟩ := atI_range ⟨h0, hx⟩
    have eL := lcB_ok (t := fun (x11 : Int) => ((b2 (some w) (b2 (atI W.nms x) (b2 (atI W.nms x11) (some ()) fun x t => some (x, t)) fun x t => some (x, t)) fun x t => some (x, t)).bind m__law_meet)) (f := fun (x11 : Int) => (some (x, x11))) (xs := rangeL (x + 1) (W.nms.length : Int)) (fun y => meetI W x y) (fun y => (x, y)) (by rw [rangeL_length]; omega) (fun y m => by
      have my := mem_rangeL.mp m
      obtain ⟨B, hB⟩ := atI_range (xs := W.nms) (x := y) ⟨by omega, by omega⟩
      simp only [hA, hB, b2, Option.bind_some]
      rw [meet_ok h o, meetI_at hA hB]) (fun _ _ _ => rfl)
    have eL2 : ((prange (x + 1) (W.nms.length : Int)).bind fun w12 => lcB (fun (x11 : Int) => ((b2 (some w) (b2 (atI W.nms x) (b2 (atI W.nms x11) (some ()) fun x t => some (x, t)) fun x t => some (x, t)) fun x t => some (x, t)).bind m__law_meet)) (fun (x11 : Int) => (some (x, x11))) w12) = some (rowE W x) := by
      rw [e2]; exact eL
    have := rowE_len (W := W) h0
    refine (congrArg (fun o => Option.bind (Option.bind o fun w13 => pcat es w13) fun z10 => some z10) eL2).trans ?_
    show (pcat es (rowE W x)).bind _ = _
    rw [pcat_ok (show es.length + (rowE W x).length ≤ BIG by omega)]
    rfl
  · rw [edges_x (W := W) (Nat.le_trans hnl (by decide))]
    simp
  · by_cases hw : W.nms = []
    · rw [hw]
      refine gets_bind (gets_bind (gets_eq (x := 0) (pmul_ok (.inl (by decide))) (gets_eq (prange_ok (by decide) (by decide)) ?_)))
      exact gets_some (gets_some (gets_some ⟨rfl, Nat.le_refl _⟩))
    have hb : bInt (!decide (W.nms = ([] : List Tt))) = 1 := by rw [decide_eq_false hw]; rfl
    have hpos : 0 < W.nms.length := List.length_pos_iff.mpr hw
    rw [hb]
    refine gets_bind (gets_bind (gets_eq (pmul_ok (.inl (by decide))) (gets_eq (prange_ok (by decide) (by decide)) ?_)))
    refine gets_forF (fun _ (s : OZ) => s.l.length ≤ z.l.length) (Nat.le_refl _) (fun dn x rs s e i => ?_) fun s i => gets_some (gets_some ⟨rfl, i⟩)
    obtain ⟨a, z1, ea, ma, la⟩ := take_at hpos (by omega) (Nat.le_trans i hz)
    obtain ⟨b, z2, eb, mb, lb⟩ := take_at (z := z1) hpos (by omega) (Nat.le_trans (Nat.le_trans la i) hz)
    refine gets_step ea (gets_step eb (gets_step (x := [doesB W a b, doesB W b a]) rfl (gets_step (x := [doesB W a b, doesB W b a]) ?_ (gets_bind ?_))))
    · rw [webof_does o, webof_does o]
    refine gets_mono (Q := fun p : List Bool × List Bool => p.1 = p.2 ∧ p.1.length ≤ 3) ?_ ?_
    · refine gets_step rfl (gets_if (fun _ => ?_) fun _ => gets_some ⟨rfl, (by decide : 2 ≤ 3)⟩)
      refine gets_bind (gets_eq (x := [doesB W a b, doesB W b a, meetB W a b]) ?_ (gets_bind (gets_eq (x := [doesB W a b, doesB W b a, meetB W a b]) ?_ (gets_some ⟨rfl, Nat.le_refl 3⟩))))
      · have wm : m_Web_may_meet (W, a, b, ()) = some (meetB W a b) := web_meet_ok
        simp only [b2, Option.bind_some, wm]
        exact push_ok (by show 2 + 1 ≤ BIG; omega)
      · simp only [b2, Option.bind_some, meet_ok h o]
        exact push_ok (by show 2 + 1 ≤ BIG; omega)
    · rintro ⟨p, q⟩ ⟨h1, h2⟩
      have h1 : p = q := h1
      subst h1
      refine gets_flb (gets_step (x := false) ?_ (gets_some (gets_some ?_)))
      · have h2 : p.length ≤ 3 := h2
        have e := lc_none (xs := p) (by omega)
        show (orM (some (!decide (p = p))) ((lcB (fun _ : Bool => some (!true)) (fun x => some x) p).bind fun w43 => some (!decide (w43 = ([] : List Bool))))) = some false
        rw [e, decide_eq_true rfl]
        rfl
      · exact Nat.le_trans (Nat.le_trans lb la) i
end
end Sim

set_option Elab.async false
set_option autoImplicit false
set_option linter.all false
set_option maxRecDepth 100000
set_option maxHeartbeats 1000000
/-! the law -/
namespace Sim
open PySem L2
theorem state_ok (ns : List Int) (hl : ns.length ≤ 63) : Gets (m__law_state (⟨ns⟩, ())) fun z => z.l.length ≤ 63 := by
  have ec : cut ns none (some (63 : Int)) = ns.take 63 := cut_to (i := 63)
  unfold m__law_state
  simp only [ec]
  have e := lcB_map (f := fun x1 : Int => some x1) (g := id) (xs := ns.take 63) (by rw [List.length_take]; omega) fun _ _ => rfl
  rw [e]
  refine gets_some ?_
  show ((ns.take 63).map id).length ≤ 63
  rw [List.length_map, List.length_take]
  omega
theorem webz_nil : WebZ ⟨[], [], []⟩ := ⟨by decide, List.nodup_nil, fun x m => absurd m (List.not_mem_nil), List.Pairwise.nil, List.Pairwise.nil, ⟨List.nodup_nil, fun a b m => absurd m (List.not_mem_nil)⟩, by decide⟩
theorem law_true (ns : List Int) (hl : ns.length ≤ 63) : m_law (⟨ns⟩, ()) = some true := by
  have big : BIG = 1000000 := rfl
  suffices goal : Gets (m_law (⟨ns⟩, ())) fun r => r = true by
    obtain ⟨r, e, h⟩ := goal
    rw [e, h]
  unfold m_law mb_law
  refine gets_bind (gets_bind (gets_mono (state_ok ns hl) fun z hz => gets_flb (gets_bind (gets_eq (prange_ok (by decide) (by decide)) ?_))))
  refine gets_forF (fun _ (s : OZ) => s.l.length ≤ 63) hz (fun dn x rs s e i => ?_) fun s i => ?_
  · refine gets_bind (gets_mono (drawn_ok i) fun r q => ?_)
    obtain ⟨w, z1⟩ := r
    obtain ⟨hw, hz1⟩ := q
    have hw : WebZ w := hw
    have hz1 : z1.l.length ≤ 63 := Nat.le_trans hz1 i
    have lf := line_fact hw
    have ll := lines_len hw
    obtain ⟨T, eT, tT⟩ := text_ok (ls := linesOf w) (by omega) fun l m => (lf l m).1
    have hwl := hw.1
    have hwc := hw.2.2.2.2.2.2
    obtain ⟨r2, e2, p2, l2⟩ := turned_ok (rows := w.b) (z := z1) (by omega) hz1
    obtain ⟨r3, e3, p3, l3⟩ := turnedP_ok (rows := w.c) (z := r2.2) (by omega) (by omega)
    refine gets_step rfl (gets_step (x := T) ?_ (gets_step (x := (T3.mk w.a r2.1 r3.1, r3.2)) ?_ (gets_step rfl ?_)))
    · simp only [b2, Option.bind_some, law_lines_ok hw]
      exact eT
    · simp only [Option.bind_some, e2, e3]
    obtain ⟨rW, eW, W, eqW, oW⟩ := web_of hw p2 p3
    subst eqW
    have fm : ∀ V, WebOf w V → m_format_web (V, ()) = some T := fun V o => (fmt_eq hw o).trans eT
    refine gets_step (x := W) ?_ (gets_flb (gets_step (x := false) ?_ (gets_some ?_)))
    · simp only [b2, Option.bind_some, eW]; rfl
    · simp only [b2, Option.bind_some, fm W oW, orM, decide_true, Bool.not_true]; rfl
    obtain ⟨V, eV, oV⟩ := parse_ok hw tT
    refine gets_step eV (gets_flb (gets_step rfl ?_))
    refine gets_forF (fun _ (s : OZ) => s.l.length ≤ 63) (by show r3.2.l.length ≤ 63; omega) (fun dn x rs s e i => ?_) fun s i => gets_some i
    have ox : WebOf w x := by
      have : x ∈ [V, W] := by rw [e]; simp
      rcases List.mem_cons.mp this with z | z
      · exact z ▸ oV
      · exact (List.mem_singleton.mp z) ▸ oW
    obtain ⟨q1, f1, t1, k1⟩ := right_ok (z := s) hw ox i
    obtain ⟨q2, f2, t2, k2⟩ := right_ok (z := q1.2) hw ox (by omega)
    obtain ⟨b1, y1⟩ := q1
    obtain ⟨b2', y2⟩ := q2
    have t1 : b1 = true := t1
    have t2 : b2' = true := t2
    subst t1 t2
    refine gets_flb (gets_bind (gets_eq (x := (false, y2)) ?_ (gets_some (gets_flb (gets_step (x := false) ?_ (gets_some (gets_some ?_)))))))
    · simp only [b2, Option.bind_some, f1, f2, fm x ox, decide_true, Bool.not_true, Bool.false_eq_true, if_false]
    · simp only [b2, Option.bind_some, fm x ox, decide_true, Bool.not_true]
    · have k1 : y1.l.length ≤ s.l.length := k1
      have k2 : y2.l.length ≤ y1.l.length := k2
      show y2.l.length ≤ 63
      omega
  · obtain ⟨V, eV, oV⟩ := parse_ok webz_nil (T := tNone) (by rw [tl_none]; rfl)
    obtain ⟨T, eT, tT⟩ := text_ok (ls := linesOf ⟨[], [], []⟩) (by decide) fun l m => absurd m (List.not_mem_nil)
    have hT : T = tNone := tl_inj (by rw [tT, tl_none]; rfl)
    have fm : m_format_web (V, ()) = some tNone := by rw [← hT]; exact (fmt_eq webz_nil oV).trans eT
    refine gets_bind (gets_eq (x := true) ?_ (gets_some (gets_some rfl)))
    show (((b2 (m_parse_web (tNone, ())) (some ()) fun x t => some (x, t)).bind m_format_web).bind fun w59 => some (decide (w59 = tNone))) = some true
    simp only [b2, eV, Option.bind_some, fm, decide_true]
end Sim

set_option Elab.async false
set_option autoImplicit false
set_option linter.all false
set_option maxRecDepth 100000
set_option maxHeartbeats 4000000
open PySem PySem.W PySem.Calls PyProof.Rows
theorem PySem.Challenge.cw_pairswap_k60_whole_webs_come_back_holds : PySem.Challenge.rw_pairswap_k60_whole_webs_come_back.Holds := by
  w_on; o_law
  refine HandSHeadRun.head_any (r := OpenLaw.row PySem.Challenge.rw_pairswap_k60_whole_webs_come_back) (q := view (OpenLaw.row PySem.Challenge.rw_pairswap_k60_whole_webs_come_back).prog [30]) (H := HeadT.hk) (ob := HeadT.ob) (M := 4000) (loose := HeadT.lo) (d := HandSHeadRun.topDef (OpenLaw.row PySem.Challenge.rw_pairswap_k60_whole_webs_come_back).prog 30) (kwd := []) HeadT.ob_eq
    (by kernel_rfl) (fun s => by kernel_rfl) HeadT.run (by kernel_rfl) (by kernel_rfl) (by kernel_rfl) (by rfl) (by first | assumption | decide +kernel) (by decide +kernel) ⟨rfl, rfl, rfl, rfl, rfl, by decide +kernel⟩ ?hw ?hc
  case hw => w_witness2
  case hc =>
    refine L2.walk_ofE (l := PySem.Challenge.rw_pairswap_k60_whole_webs_come_back) (n := 63) (k := 6) (x := "_law_script") (CX := L2.CX0) rfl (by decide) (by kernel_rfl) ⟨rfl, by decide, by decide⟩ ?F (fun _ _ _ _ z => z)
    intro w mg fa h Y G hmg0
    obtain ⟨K, KX, c⟩ := Y
    have cr := c
    obtain ⟨c, ce⟩ := He.SaysR.q c
    have hmg : mg ("law" : PySem.Str) = some (.ref fa) := by
      have e : (HandSHeadRun.topDef (OpenLaw.row PySem.Challenge.rw_pairswap_k60_whole_webs_come_back).prog 30).name = ("law" : PySem.Str) := by kernel_rfl
      rw [← e]
      exact hmg0
    obtain ⟨fd, F⟩ := c.def_ 23 (d := HeadT.D_law) rfl
    have e := hmg.symm.trans (He.glo_ok KX G (c.fact 43 (f := .glo "law") rfl))
    cases e
    have b := L2.FunD.bindsA (ps := ["_law_script"]) F fun _ _ _ _ _ _ us hl => match us, hl with | [_], _ => rfl
    refine ⟨K, fd, Sim.specP ⟨(PySem.Challenge.rw_pairswap_k60_whole_webs_come_back).prog, w, K, mg, h, Sim.Cn K⟩ false Sim.m_law, KX, fun s v => b s [v] rfl, fun H a ns hl _ hS => Sim.law_start hS (Sim.law_true ns hl), fun base hb1 hb2 => ?_⟩
    exact Sim.f_law (Γ := ⟨(PySem.Challenge.rw_pairswap_k60_whole_webs_come_back).prog, w, K, mg, base, Sim.Cn K⟩) (Sim.tx_ok KX G c cr) (Sim.fun_of (st := HeadT.top 30) F)
