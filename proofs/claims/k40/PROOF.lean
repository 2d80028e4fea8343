import PyProof.Rows.All
import Wide.All
import OpenK.AllK
import Wide.FinOn
import HandS.ForMost
import HandS.CallSlots
import HandS.WordsExc
import HandS.TryMany
import HandS.Wide
import HandS.TupAny
import HandS.TupMul
import HandS.IsInst
import HandS.ExcInit
import HandS.More
import HandS.Conv
import HandS.SortInts
import HandS.RaiseMore
import HandS.FStr
import PyProof.DictUpdate
import HandS.DictComp
import HandS.SlotsOwn
import HandS.Head2
import HandS.HeadEnd
import HandS.HeadHook2
import HandS.HeadNt
import HandS.EndBits
import KE.KExcSuper
import HandS.ExcField
import HandS.ExcIs
import KE.KExcIs
import PyProof.InstNe
import KE.KCallOwn
import HandS.ExcBuiltin
import PySem.Challenge.RW_turnwires_k40_one_form_of_quotients
set_option Elab.async false
set_option linter.all false
set_option maxRecDepth 100000
set_option maxHeartbeats 2000000
/-! Plain data beside the heap: what a value stands for; the state of a def's slots; expressions, tests, statements that reckon with plain data. -/
namespace DS
open PySem L2

inductive D where
  | non | bl (b : Bool) | int (i : Int) | str (s : Str)
  | scr (xs : List Int)
  | lst (xs : List D) | tup (xs : List D)
  | dk (kvs : List (L2.Key × D))
  | ins (C : Addr) (fs : List (Str × D))
  | kt (T : Addr) (xs : List Int)
  | exc (c : Str) (C : Addr) (fs : List (Str × D))
  deriving Inhabited

mutual
def Holds (H : Hp) (A : Addr → Prop) : D → V → Prop
  | .non, v => v = .non
  | .bl b, v => v = .bl b
  | .int i, v => v = .int i
  | .str s, v => v = .str s
  | .scr xs, v => ∃ a, v = .ref a ∧ ¬ A a ∧ Rd H a (.lst (xs.map V.int))
  | .lst xs, v => ∃ a vs, v = .ref a ∧ ¬ A a ∧ H a = some (.lst vs) ∧ HoldsL H A xs vs
  | .tup xs, v => ∃ a vs, v = .ref a ∧ ¬ A a ∧ H a = some (.tup vs) ∧ HoldsL H A xs vs
  | .dk kvs, v => ∃ a ws, v = .ref a ∧ ¬ A a ∧ Rd H a (.dK ws) ∧ HoldsK H A kvs ws
  | .ins C fs, v => ∃ a dx ws, v = .ref a ∧ ¬ A a ∧ H a = some (.ins C dx ws) ∧ HoldsF H A fs ws
  | .kt T _, v => v = .ref T
  | .exc _ C fs, v => ∃ a od ws, v = .ref a ∧ ¬ A a ∧ H a = some (exo a C od) ∧ ((od = none ∧ ws = []) ∨ ∃ dx, od = some dx ∧ ¬ A dx ∧ H dx = some (exd dx ws)) ∧ HoldsF H A fs ws
def HoldsL (H : Hp) (A : Addr → Prop) : List D → List V → Prop
  | [], vs => vs = []
  | d :: ds, vs => ∃ v r, vs = v :: r ∧ Holds H A d v ∧ HoldsL H A ds r
def HoldsK (H : Hp) (A : Addr → Prop) : List (L2.Key × D) → List (L2.Key × V) → Prop
  | [], ws => ws = []
  | (k, d) :: r, ws => ∃ v t, ws = (k, v) :: t ∧ Holds H A d v ∧ HoldsK H A r t
def HoldsF (H : Hp) (A : Addr → Prop) : List (Str × D) → List (Str × V) → Prop
  | [], ws => ws = []
  | (k, d) :: r, ws => ∃ v t, ws = (k, v) :: t ∧ Holds H A d v ∧ HoldsF H A r t
end

/-- what is seen in H off A is seen in H' off A' -/
structure Up (H : Hp) (A : Addr → Prop) (H' : Hp) (A' : Addr → Prop) : Prop where
  lst : ∀ a xs, H a = some (.lst xs) → ¬ A a → H' a = some (.lst xs) ∧ ¬ A' a
  tup : ∀ a xs, H a = some (.tup xs) → ¬ A a → H' a = some (.tup xs) ∧ ¬ A' a
  rdl : ∀ a xs, Rd H a (.lst xs) → ¬ A a → Rd H' a (.lst xs) ∧ ¬ A' a
  rdk : ∀ a xs, Rd H a (.dK xs) → ¬ A a → Rd H' a (.dK xs) ∧ ¬ A' a
  ins : ∀ a C dx ws, H a = some (.ins C dx ws) → ¬ A a → H' a = some (.ins C dx ws) ∧ ¬ A' a
  off : ∀ a, H a ≠ none → ¬ A a → ¬ A' a
  ext : ∀ a φ, H a = some (.ext φ) → ¬ A a → H' a = some (.ext φ) ∧ ¬ A' a

mutual
theorem Holds.up {H H' : Hp} {A A' : Addr → Prop} (u : Up H A H' A') : ∀ (d : D) {v : V}, Holds H A d v → Holds H' A' d v
  | .non, v, h => h
  | .bl _, v, h => h
  | .int _, v, h => h
  | .str _, v, h => h
  | .scr xs, v, h => by
    obtain ⟨a, e, na, r⟩ := h
    exact ⟨a, e, (u.rdl a _ r na).2, (u.rdl a _ r na).1⟩
  | .lst xs, v, h => by
    obtain ⟨a, vs, e, na, r, l⟩ := h
    exact ⟨a, vs, e, (u.lst a _ r na).2, (u.lst a _ r na).1, HoldsL.up u xs l⟩
  | .tup xs, v, h => by
    obtain ⟨a, vs, e, na, r, l⟩ := h
    exact ⟨a, vs, e, (u.tup a _ r na).2, (u.tup a _ r na).1, HoldsL.up u xs l⟩
  | .dk kvs, v, h => by
    obtain ⟨a, ws, e, na, r, l⟩ := h
    exact ⟨a, ws, e, (u.rdk a _ r na).2, (u.rdk a _ r na).1, HoldsK.up u kvs l⟩
  | .ins C fs, v, h => by
    obtain ⟨a, dx, ws, e, na, r, l⟩ := h
    exact ⟨a, dx, ws, e, (u.ins a _ _ _ r na).2, (u.ins a _ _ _ r na).1, HoldsF.up u fs l⟩
  | .kt _ _, v, h => h
  | .exc c C fs, v, h => by
    obtain ⟨a, od, ws, e, na, r, q, l⟩ := h
    refine ⟨a, od, ws, e, (u.ext a _ r na).2, (u.ext a _ r na).1, q.imp_right fun ⟨dx, e1, nd, hd⟩ => ⟨dx, e1, (u.ext dx _ hd nd).2, (u.ext dx _ hd nd).1⟩, HoldsF.up u fs l⟩
theorem HoldsL.up {H H' : Hp} {A A' : Addr → Prop} (u : Up H A H' A') : ∀ (ds : List D) {vs : List V}, HoldsL H A ds vs → HoldsL H' A' ds vs
  | [], vs, h => h
  | d :: ds, vs, h => by
    obtain ⟨v, r, e, h1, h2⟩ := h
    exact ⟨v, r, e, Holds.up u d h1, HoldsL.up u ds h2⟩
theorem HoldsK.up {H H' : Hp} {A A' : Addr → Prop} (u : Up H A H' A') : ∀ (ds : List (L2.Key × D)) {vs : List (L2.Key × V)}, HoldsK H A ds vs → HoldsK H' A' ds vs
  | [], vs, h => h
  | (k, d) :: ds, vs, h => by
    obtain ⟨v, r, e, h1, h2⟩ := h
    exact ⟨v, r, e, Holds.up u d h1, HoldsK.up u ds h2⟩
theorem HoldsF.up {H H' : Hp} {A A' : Addr → Prop} (u : Up H A H' A') : ∀ (ds : List (Str × D)) {vs : List (Str × V)}, HoldsF H A ds vs → HoldsF H' A' ds vs
  | [], vs, h => h
  | (k, d) :: ds, vs, h => by
    obtain ⟨v, r, e, h1, h2⟩ := h
    exact ⟨v, r, e, Holds.up u d h1, HoldsF.up u ds h2⟩
end
end DS
set_option Elab.async false
set_option linter.all false
set_option maxRecDepth 100000
set_option maxHeartbeats 2000000
namespace DS
open PySem L2

/-! ### extension of heaps -/
theorem rd_same {H H' : Hp} {a : Addr} {u : HO} (s : Same H H') (r : Rd H a u) : Rd H' a u := by
  rcases r with r | ⟨o, r⟩
  · exact .inl (s _ _ r)
  · exact .inr ⟨o, s _ _ r⟩
theorem Up.same {H H' : Hp} {A : Addr → Prop} (s : Same H H') : Up H A H' A where
  lst := fun a xs h n => ⟨s _ _ h, n⟩
  tup := fun a xs h n => ⟨s _ _ h, n⟩
  rdl := fun a xs h n => ⟨rd_same s h, n⟩
  rdk := fun a xs h n => ⟨rd_same s h, n⟩
  ins := fun a C dx ws h n => ⟨s _ _ h, n⟩
  off := fun a _ n => n
  ext := fun a φ h n => ⟨s _ _ h, n⟩
theorem rd_some {H : Hp} {a : Addr} {u : HO} (r : Rd H a u) : H a ≠ none := by
  rcases r with r | ⟨o, r⟩ <;> (rw [r]; exact fun z => by cases z)
/-- what is off A is kept; what A' names anew was not there -/
theorem Up.ofOff {H H' : Hp} {A A' : Addr → Prop} (s : ∀ a o, H a = some o → ¬ A a → H' a = some o) (n : ∀ a, A' a → A a ∨ H a = none) : Up H A H' A' := by
  have k : ∀ a, H a ≠ none → ¬ A a → ¬ A' a := fun a h na z => (n a z).elim na h
  refine ⟨fun a xs h na => ⟨s _ _ h na, k a (by rw [h]; exact fun z => by cases z) na⟩, fun a xs h na => ⟨s _ _ h na, k a (by rw [h]; exact fun z => by cases z) na⟩, fun a xs h na => ⟨?_, k a (rd_some h) na⟩, fun a xs h na => ⟨?_, k a (rd_some h) na⟩, fun a C dx ws h na => ⟨s _ _ h na, k a (by rw [h]; exact fun z => by cases z) na⟩, k, fun a φ h na => ⟨s _ _ h na, k a (by rw [h]; exact fun z => by cases z) na⟩⟩
  · rcases h with h | ⟨o, h⟩
    · exact .inl (s _ _ h na)
    · exact .inr ⟨o, s _ _ h na⟩
  · rcases h with h | ⟨o, h⟩
    · exact .inl (s _ _ h na)
    · exact .inr ⟨o, s _ _ h na⟩
theorem same_upd {H : Hp} {p : Addr} {o : HO} (h : H p = none) : Same H (upd H p o) := fun b u e => by
  rw [upd_ne (ne_of_none e h)]; exact e

/-! ### borrowed: the top may be one's own -/
def HoldsB (H : Hp) (A : Addr → Prop) : D → V → Prop
  | .lst xs, v => ∃ a vs, v = .ref a ∧ H a = some (.lst vs) ∧ HoldsL H A xs vs
  | .dk kvs, v => ∃ a ws, v = .ref a ∧ Rd H a (.dK ws) ∧ HoldsK H A kvs ws
  | .ins C fs, v => ∃ a dx ws, v = .ref a ∧ H a = some (.ins C dx ws) ∧ HoldsF H A fs ws
  | d, v => Holds H A d v
theorem Holds.b {H : Hp} {A : Addr → Prop} {d : D} {v : V} (h : Holds H A d v) : HoldsB H A d v := by
  cases d with
  | lst xs => obtain ⟨a, vs, e, _, r, l⟩ := h; exact ⟨a, vs, e, r, l⟩
  | dk kvs => obtain ⟨a, vs, e, _, r, l⟩ := h; exact ⟨a, vs, e, r, l⟩
  | ins C fs => obtain ⟨a, dx, vs, e, _, r, l⟩ := h; exact ⟨a, dx, vs, e, r, l⟩
  | _ => exact h
theorem HoldsB.same {H H' : Hp} {A : Addr → Prop} (s : Same H H') {d : D} {v : V} (h : HoldsB H A d v) : HoldsB H' A d v := by
  cases d with
  | lst xs => obtain ⟨a, vs, e, r, l⟩ := h; exact ⟨a, vs, e, s _ _ r, HoldsL.up (Up.same s) _ l⟩
  | dk kvs => obtain ⟨a, vs, e, r, l⟩ := h; exact ⟨a, vs, e, rd_same s r, HoldsK.up (Up.same s) _ l⟩
  | ins C fs => obtain ⟨a, dx, vs, e, r, l⟩ := h; exact ⟨a, dx, vs, e, s _ _ r, HoldsF.up (Up.same s) _ l⟩
  | non => exact h
  | bl _ => exact h
  | int _ => exact h
  | str _ => exact h
  | kt T xs => exact h
  | exc c C fs => exact Holds.up (Up.same s) (.exc c C fs) h
  | scr xs => exact Holds.up (Up.same s) (.scr xs) h
  | tup xs => exact Holds.up (Up.same s) (.tup xs) h
theorem HoldsB.less {H : Hp} {A A' : Addr → Prop} (k : ∀ a, H a ≠ none → ¬ A a → ¬ A' a) {d : D} {v : V} (h : HoldsB H A d v) : HoldsB H A' d v := by
  have u : Up H A H A' := ⟨fun a xs h n => ⟨h, k a (by rw [h]; simp) n⟩, fun a xs h n => ⟨h, k a (by rw [h]; simp) n⟩, fun a xs h n => ⟨h, k a (rd_some h) n⟩, fun a xs h n => ⟨h, k a (rd_some h) n⟩, fun a C dx ws h n => ⟨h, k a (by rw [h]; simp) n⟩, k, fun a φ h n => ⟨h, k a (by rw [h]; simp) n⟩⟩
  cases d with
  | lst xs => obtain ⟨a, vs, e, r, l⟩ := h; exact ⟨a, vs, e, r, HoldsL.up u _ l⟩
  | dk kvs => obtain ⟨a, vs, e, r, l⟩ := h; exact ⟨a, vs, e, r, HoldsK.up u _ l⟩
  | ins C fs => obtain ⟨a, dx, vs, e, r, l⟩ := h; exact ⟨a, dx, vs, e, r, HoldsF.up u _ l⟩
  | non => exact h
  | bl _ => exact h
  | int _ => exact h
  | str _ => exact h
  | kt T xs => exact h
  | exc c C fs => exact Holds.up u (.exc c C fs) h
  | scr xs => exact Holds.up u (.scr xs) h
  | tup xs => exact Holds.up u (.tup xs) h
theorem Holds.same {H H' : Hp} {A : Addr → Prop} (s : Same H H') {d : D} {v : V} (h : Holds H A d v) : Holds H' A d v := Holds.up (Up.same s) d h
theorem HoldsL.same {H H' : Hp} {A : Addr → Prop} (s : Same H H') {d : List D} {v : List V} (h : HoldsL H A d v) : HoldsL H' A d v := HoldsL.up (Up.same s) d h
theorem HoldsK.same {H H' : Hp} {A : Addr → Prop} (s : Same H H') {d : List (L2.Key × D)} {v : List (L2.Key × V)} (h : HoldsK H A d v) : HoldsK H' A d v := HoldsK.up (Up.same s) d h
theorem HoldsF.same {H H' : Hp} {A : Addr → Prop} (s : Same H H') {d : List (Str × D)} {v : List (Str × V)} (h : HoldsF H A d v) : HoldsF H' A d v := HoldsF.up (Up.same s) d h

/-! ### lists -/
section
variable {H : Hp} {A : Addr → Prop}
theorem HoldsL.length : ∀ {ds : List D} {vs : List V}, HoldsL H A ds vs → vs.length = ds.length
  | [], _, h => by cases h; rfl
  | d :: ds, _, h => by obtain ⟨v, r, rfl, _, h2⟩ := h; simp [HoldsL.length h2]
theorem HoldsL.get : ∀ {ds : List D} {vs : List V} {i : Nat} {d : D}, HoldsL H A ds vs → ds[i]? = some d → ∃ v, vs[i]? = some v ∧ Holds H A d v
  | [], _, i, d, _, e => by simp at e
  | x :: ds, _, 0, d, h, e => by
    obtain ⟨v, r, rfl, h1, h2⟩ := h
    simp at e; subst e
    exact ⟨v, by simp, h1⟩
  | x :: ds, _, i + 1, d, h, e => by
    obtain ⟨v, r, rfl, h1, h2⟩ := h
    simpa using HoldsL.get h2 (i := i) (by simpa using e)
theorem HoldsL.getV {ds : List D} {vs : List V} {i : Nat} {v : V} (h : HoldsL H A ds vs) (e : vs[i]? = some v) : ∃ d, ds[i]? = some d ∧ Holds H A d v := by
  have hl := h.length
  have hi : i < vs.length := (List.getElem?_eq_some_iff.mp e).1
  obtain ⟨w, e2, hh⟩ := h.get (i := i) (d := ds[i]'(by omega)) (List.getElem?_eq_getElem _)
  rw [e] at e2; cases e2
  exact ⟨_, List.getElem?_eq_getElem _, hh⟩
theorem HoldsL.append : ∀ {ds es : List D} {vs ws : List V}, HoldsL H A ds vs → HoldsL H A es ws → HoldsL H A (ds ++ es) (vs ++ ws)
  | [], _, _, _, h, k => by cases h; exact k
  | d :: ds, _, _, _, h, k => by obtain ⟨v, r, rfl, h1, h2⟩ := h; exact ⟨v, _, rfl, h1, HoldsL.append h2 k⟩
theorem HoldsL.one {d : D} {v : V} (h : Holds H A d v) : HoldsL H A [d] [v] := ⟨v, [], rfl, h, rfl⟩
theorem HoldsL.take : ∀ {ds : List D} {vs : List V} (n : Nat), HoldsL H A ds vs → HoldsL H A (ds.take n) (vs.take n)
  | _, _, 0, _ => rfl
  | [], _, n + 1, h => by cases h; rfl
  | d :: ds, _, n + 1, h => by obtain ⟨v, r, rfl, h1, h2⟩ := h; exact ⟨v, _, rfl, h1, HoldsL.take n h2⟩
theorem HoldsL.drop : ∀ {ds : List D} {vs : List V} (n : Nat), HoldsL H A ds vs → HoldsL H A (ds.drop n) (vs.drop n)
  | _, _, 0, h => h
  | [], _, n + 1, h => by cases h; rfl
  | d :: ds, _, n + 1, h => by obtain ⟨v, r, rfl, h1, h2⟩ := h; exact HoldsL.drop n h2
theorem HoldsL.set : ∀ {ds : List D} {vs : List V} (i : Nat) {d : D} {v : V}, HoldsL H A ds vs → Holds H A d v → HoldsL H A (ds.set i d) (vs.set i v)
  | [], _, i, _, _, h, _ => by cases h; rfl
  | x :: ds, _, 0, _, _, h, k => by obtain ⟨v, r, rfl, h1, h2⟩ := h; exact ⟨_, _, rfl, k, h2⟩
  | x :: ds, _, i + 1, _, _, h, k => by obtain ⟨v, r, rfl, h1, h2⟩ := h; exact ⟨_, _, rfl, h1, HoldsL.set i h2 k⟩
theorem HoldsL.eraseIdx : ∀ {ds : List D} {vs : List V} (i : Nat), HoldsL H A ds vs → HoldsL H A (ds.eraseIdx i) (vs.eraseIdx i)
  | [], _, i, h => by cases h; rfl
  | x :: ds, _, 0, h => by obtain ⟨v, r, rfl, h1, h2⟩ := h; exact h2
  | x :: ds, _, i + 1, h => by obtain ⟨v, r, rfl, h1, h2⟩ := h; exact ⟨_, _, rfl, h1, HoldsL.eraseIdx i h2⟩
theorem HoldsL.dropLast : ∀ {ds : List D} {vs : List V}, HoldsL H A ds vs → HoldsL H A ds.dropLast vs.dropLast
  | [], _, h => by cases h; rfl
  | [d], _, h => by obtain ⟨v, r, rfl, h1, h2⟩ := h; cases h2; rfl
  | d :: e :: ds, _, h => by
    obtain ⟨v, r, rfl, h1, w, r2, rfl, h2, h3⟩ := h
    exact ⟨v, _, rfl, h1, HoldsL.dropLast (ds := e :: ds) ⟨w, r2, rfl, h2, h3⟩⟩
theorem HoldsL.ints : ∀ (ns : List Int), HoldsL H A (ns.map D.int) (ns.map V.int)
  | [] => rfl
  | n :: ns => ⟨_, _, rfl, rfl, HoldsL.ints ns⟩
theorem HoldsL.strs : ∀ (ns : List Str), HoldsL H A (ns.map D.str) (ns.map V.str)
  | [] => rfl
  | n :: ns => ⟨_, _, rfl, rfl, HoldsL.strs ns⟩
theorem HoldsL.snoc {ds : List D} {d : D} {vs : List V} {v : V} (h : HoldsL H A ds vs) (k : Holds H A d v) : HoldsL H A (ds ++ [d]) (vs ++ [v]) := h.append (.one k)
theorem HoldsL.split : ∀ {ds es : List D} {vs : List V}, HoldsL H A (ds ++ es) vs → ∃ v1 v2, vs = v1 ++ v2 ∧ HoldsL H A ds v1 ∧ HoldsL H A es v2
  | [], _, vs, h => ⟨[], vs, rfl, rfl, h⟩
  | d :: ds, _, vs, h => by
    obtain ⟨v, r, rfl, h1, h2⟩ := h
    obtain ⟨v1, v2, rfl, h3, h4⟩ := HoldsL.split (ds := ds) h2
    exact ⟨v :: v1, v2, rfl, ⟨v, v1, rfl, h1, h3⟩, h4⟩
end

/-! ### outcomes -/
inductive R (α : Type) where
  | ok (a : α) | ex (c : Str) (fs : List (Str × D)) | no
  deriving Inhabited
def R.bind {α β : Type} (r : R α) (f : α → R β) : R β := match r with
  | .ok a => f a
  | .ex c fs => .ex c fs
  | .no => .no
instance : Monad R where
  pure := R.ok
  bind := R.bind
@[simp] theorem R.bind_ok {α β : Type} (a : α) (f : α → R β) : (R.ok a).bind f = f a := rfl
@[simp] theorem R.bind_ex {α β : Type} (c fs) (f : α → R β) : (R.ex c fs).bind f = .ex c fs := rfl
@[simp] theorem R.bind_no {α β : Type} (f : α → R β) : (R.no).bind f = .no := rfl

/-! ### the slots of a def -/
structure Fr where
  H0 : Hp
  B : Addr → Prop
  S : Addr := 0
inductive Sl where
  | un | sh (d : D) | ol (ds : List D) | od (kvs : List (L2.Key × D)) | oi (C : Addr) (fs : List (Str × D)) | bw (d : D) | xc
  deriving Inhabited
def Sl.own : Sl → Bool
  | .ol _ => true
  | .od _ => true
  | .oi _ _ => true
  | _ => false
abbrev SD := List Sl
def OwnAt (σ : St) (sd : SD) (i : Nat) (a : Addr) : Prop := ∃ s, sd[i]? = some s ∧ s.own = true ∧ σ[i]? = some (some (.ref a))
def Own (σ : St) (sd : SD) (a : Addr) : Prop := ∃ i, OwnAt σ sd i a
def Av (F : Fr) (σ : St) (sd : SD) : Addr → Prop := fun a => F.B a ∨ Own σ sd a
def SlOk (F : Fr) (H : Hp) (A : Addr → Prop) (v : Option V) : Sl → Prop
  | .un => True
  | .sh d => ∃ x, v = some x ∧ Holds H A d x
  | .ol ds => ∃ a vs, v = some (.ref a) ∧ F.H0 a = none ∧ H a = some (.lst vs) ∧ HoldsL H A ds vs
  | .od kvs => ∃ a ws, v = some (.ref a) ∧ F.H0 a = none ∧ H a = some (.dK ws) ∧ HoldsK H A kvs ws
  | .oi C fs => ∃ a dx ws, v = some (.ref a) ∧ (F.H0 a = none ∧ a = F.S) ∧ H a = some (.ins C dx ws) ∧ HoldsF H A fs ws
  | .bw d => ∃ x, v = some x ∧ HoldsB F.H0 A d x
  | .xc => v = some (.ref F.S)
structure Rel (F : Fr) (σ : St) (H : Hp) (sd : SD) : Prop where
  same : Same F.H0 H
  len : σ.length = sd.length
  slot : ∀ (i : Nat) (s : Sl), sd[i]? = some s → ∃ v, σ[i]? = some v ∧ SlOk F H (Av F σ sd) v s
  inj : ∀ (i j : Nat) (a : Addr), OwnAt σ sd i a → OwnAt σ sd j a → i = j
  nb : ∀ a, Own σ sd a → ¬ F.B a
  bdom : ∀ a, F.B a → H a ≠ none

theorem SlOk.up {F : Fr} {H H' : Hp} {A A' : Addr → Prop} {v : Option V} {s : Sl} (s0 : Same F.H0 H) (u : Up H A H' A') (k : ∀ a o, s.own = true → v = some (.ref a) → H a = some o → H' a = some o) (h : SlOk F H A v s) : SlOk F H' A' v s := by
  cases s with
  | un => trivial
  | xc => exact h
  | sh d => obtain ⟨x, e, h⟩ := h; exact ⟨x, e, Holds.up u d h⟩
  | ol ds => obtain ⟨a, vs, e, n, r, l⟩ := h; exact ⟨a, vs, e, n, k a _ rfl e r, HoldsL.up u ds l⟩
  | od ds => obtain ⟨a, vs, e, n, r, l⟩ := h; exact ⟨a, vs, e, n, k a _ rfl e r, HoldsK.up u ds l⟩
  | oi C ds => obtain ⟨a, dx, vs, e, n, r, l⟩ := h; exact ⟨a, dx, vs, e, n, k a _ rfl e r, HoldsF.up u ds l⟩
  | bw d => obtain ⟨x, e, h⟩ := h; exact ⟨x, e, HoldsB.less (fun a ha na => u.off a (fun z => by
      cases q : F.H0 a with
      | none => exact ha q
      | some o => rw [s0 _ _ q] at z; cases z) na) h⟩
theorem Rel.mono {F : Fr} {σ : St} {H H' : Hp} {sd : SD} (r : Rel F σ H sd) (s : Same H H') : Rel F σ H' sd where
  same := r.same.trans s
  len := r.len
  slot := fun i x e => by
    obtain ⟨v, e2, h⟩ := r.slot i x e
    exact ⟨v, e2, h.up r.same (Up.same s) fun a o _ _ q => s _ _ q⟩
  inj := r.inj
  nb := r.nb
  bdom := fun a h z => by
    cases q : H a with
    | none => exact r.bdom a h q
    | some o => rw [s _ _ q] at z; cases z
theorem Rel.odom {F : Fr} {σ : St} {H : Hp} {sd : SD} (r : Rel F σ H sd) {a : Addr} (h : Own σ sd a) : H a ≠ none ∧ F.H0 a = none := by
  obtain ⟨i, s, e, o, e2⟩ := h
  obtain ⟨v, e3, q⟩ := r.slot i s e
  rw [e2] at e3; cases e3
  cases s with
  | un => cases o
  | xc => cases o
  | sh d => cases o
  | bw d => cases o
  | ol ds => obtain ⟨a', vs, e, n, r, l⟩ := q; cases e; exact ⟨by rw [r]; simp, n⟩
  | od ds => obtain ⟨a', vs, e, n, r, l⟩ := q; cases e; exact ⟨by rw [r]; simp, n⟩
  | oi C ds => obtain ⟨a', dx, vs, e, n, r, l⟩ := q; cases e; exact ⟨by rw [r]; simp, n.1⟩
theorem Rel.dom {F : Fr} {σ : St} {H : Hp} {sd : SD} (r : Rel F σ H sd) {a : Addr} (h : Av F σ sd a) : H a ≠ none := h.elim (r.bdom a) fun h => (r.odom h).1

/-! ### how an exception lies -/
def ExRep (mg : Str → Option Value) (H : Hp) (A : Addr → Prop) (c : Str) (fs : List (Str × D)) (cls : Value) (da : Option Addr) : Prop :=
  (∃ C, mg c = some (.ref C) ∧ cls = .ref C ∧ (fs = [] ∨ ∃ d ws, da = some d ∧ H d = some (.xd ws) ∧ HoldsF H A fs ws)) ∨
  (∃ T : String, mg c = none ∧ c = Str.ofString T ∧ cls = .type T ∧ fs = [])

abbrev EF := SD → R D
/-- what is wanted behind an outcome -/
def Post (b : Bool) (mg : Str → Option Value) (W : WX) (σ : St) (A : Addr → Prop) (r : R D) (H : Hp) (Q : VK) : Prop := match r with
  | .ok d => ∀ v H', Same H H' → (if b = true then HoldsB H' A d v else Holds H' A d v) → Q v H'
  | .ex c fs => ∀ cls da H', Same H H' → ExRep mg H' A c fs cls da → W cls da σ H'
  | .no => False
theorem Post.mono {b : Bool} {mg : Str → Option Value} {W : WX} {σ : St} {A : Addr → Prop} {r : R D} {H H' : Hp} {Q : VK} (s : Same H H') (p : Post b mg W σ A r H Q) : Post b mg W σ A r H' Q := by
  cases r with
  | ok d => exact fun v H2 s2 h => p v H2 (s.trans s2) h
  | ex c fs => exact fun cls da H2 s2 h => p cls da H2 (s.trans s2) h
  | no => exact p
/-- the reading by plain data -/
def TEx (b : Bool) (F : Fr) (mg : Str → Option Value) (W : WX) (f : EF) : TE := fun σ H Q => ∃ sd, Rel F σ H sd ∧ Post b mg W σ (Av F σ sd) (f sd) H Q
structure DX (b : Bool) (F : Fr) (X : Cx) (W : WX) (e : Expr) (f : EF) : Prop where
  pe : PE X e (TEx b F X.mg W f)
abbrev DE := DX false
abbrev DB := DX true
variable {F : Fr} {X : Cx} {W : WX}
theorem PE.weak {X : Cx} {e : Expr} {t t' : TE} (h : PE X e t) (k : ∀ σ H Q, t' σ H Q → t σ H Q) : PE X e t' := ⟨fun pins s σ H Q I q => h.run pins s σ H Q I (k _ _ _ q)⟩
theorem DE.b {e : Expr} {f : EF} (h : DE F X W e f) : DB F X W e f := ⟨PE.weak h.pe fun σ H Q ⟨sd, rel, p⟩ => ⟨sd, rel, by
  cases q : f sd with
  | ok d => rw [q] at p; exact fun v H' s h => p v H' s (Holds.b h)
  | ex c fs => rw [q] at p; exact p
  | no => rw [q] at p; exact p⟩⟩

/-- one operand -/
theorem te1 {b b' : Bool} {fa : EF} {op : D → R D} {mg : Str → Option Value} {σ : St} {H : Hp} {Q : VK} {r : V → Hp → Prop} 
    (hr : ∀ (A : Addr → Prop) d v H2, (∀ a, A a → H2 a ≠ none) → (if b = true then HoldsB H2 A d v else Holds H2 A d v) → Post b' mg W σ A (op d) H2 Q → r v H2)
    (h : TEx b' F mg W (fun s => (fa s).bind op) σ H Q) : TEx b F mg W fa σ H r := by
  obtain ⟨sd, rel, p⟩ := h
  refine ⟨sd, rel, ?_⟩
  cases q : fa sd with
  | ok d =>
    dsimp only at p
    rw [q] at p
    intro v H2 s h
    exact hr _ d v H2 (fun a z => (rel.mono s).dom z) h (p.mono s)
  | ex c fs => dsimp only at p; rw [q] at p; exact p
  | no => dsimp only at p; rw [q] at p; exact p
theorem te2 {b1 b2 b' : Bool} {fa fb : EF} {op : D → D → R D} {mg : Str → Option Value} {σ : St} {H : Hp} {Q : VK} {r : V → V → Hp → Prop} 
    (hr : ∀ (A : Addr → Prop) d e v w H2, (∀ a, A a → H2 a ≠ none) → (if b1 = true then HoldsB H2 A d v else Holds H2 A d v) → (if b2 = true then HoldsB H2 A e w else Holds H2 A e w) → Post b' mg W σ A (op d e) H2 Q → r v w H2)
    (h : TEx b' F mg W (fun s => (fa s).bind fun x => (fb s).bind fun y => op x y) σ H Q) : TEx b1 F mg W fa σ H fun v H1 => TEx b2 F mg W fb σ H1 (r v) := by
  obtain ⟨sd, rel, p⟩ := h
  refine ⟨sd, rel, ?_⟩
  cases q : fa sd with
  | ok d =>
    dsimp only at p
    rw [q] at p
    intro v H2 s h
    refine ⟨sd, rel.mono s, ?_⟩
    cases q2 : fb sd with
    | ok e =>
      rw [R.bind_ok, q2] at p
      intro w H3 s3 h3
      refine hr _ d e v w H3 (fun a z => ((rel.mono s).mono s3).dom z) ?_ h3 (Post.mono (s.trans s3) p)
      by_cases hb : b1 = true
      · rw [if_pos hb] at h ⊢; exact h.same s3
      · rw [if_neg hb] at h ⊢; exact h.same s3
    | ex c fs => rw [R.bind_ok, q2] at p; exact Post.mono (r := .ex c fs) s p
    | no => rw [R.bind_ok, q2] at p; exact p
  | ex c fs => dsimp only at p; rw [q] at p; exact p
  | no => dsimp only at p; rw [q] at p; exact p

/-! ### names, constants -/
def eVar (i : Nat) : EF := fun s => match s[i]? with
  | some (.sh d) => .ok d
  | _ => .no
def bVar (i : Nat) : EF := fun s => match s[i]? with
  | some (.sh d) => .ok d
  | some (.ol ds) => .ok (.lst ds)
  | some (.od ds) => .ok (.dk ds)
  | some (.oi C fs) => .ok (.ins C fs)
  | some (.bw d) => .ok d
  | _ => .no
def eC (d : D) : EF := fun _ => .ok d
theorem de_var (i : Nat) {x : Str} {pos : Pos} (hN : X.N[i]? = some x := by rfl) (hv : Vis X.env.scope x := by first | exact Or.inl rfl | exact Or.inr (Or.inl rfl) | exact Or.inr (Or.inr rfl)) (hd : (x == ("__debug__" : Str)) = false := by decide)
    (hcd : (x == ("__classdict__" : Str)) = false := by decide) : DE F X W (.Name x pos) (eVar i) := ⟨PE.weak (pe_var hN hv hd hcd) fun σ H Q ⟨sd, rel, p⟩ => by
  unfold eVar at p
  cases q : sd[i]? with
  | none => rw [q] at p; exact p.elim
  | some s =>
    rw [q] at p
    obtain ⟨v, e, h⟩ := rel.slot i s q
    cases s with
    | sh d => obtain ⟨x, rfl, h⟩ := h; exact ⟨x, e, p x H (Same.refl H) h⟩
    | _ => exact p.elim⟩
theorem db_var (i : Nat) {x : Str} {pos : Pos} (hN : X.N[i]? = some x := by rfl) (hv : Vis X.env.scope x := by first | exact Or.inl rfl | exact Or.inr (Or.inl rfl) | exact Or.inr (Or.inr rfl)) (hd : (x == ("__debug__" : Str)) = false := by decide)
    (hcd : (x == ("__classdict__" : Str)) = false := by decide) : DB F X W (.Name x pos) (bVar i) := ⟨PE.weak (pe_var hN hv hd hcd) fun σ H Q ⟨sd, rel, p⟩ => by
  unfold bVar at p
  cases q : sd[i]? with
  | none => rw [q] at p; exact p.elim
  | some s =>
    rw [q] at p
    obtain ⟨v, e, h⟩ := rel.slot i s q
    cases s with
    | sh d => obtain ⟨x, rfl, h⟩ := h; exact ⟨x, e, p x H (Same.refl H) (Holds.b h)⟩
    | un => exact p.elim
    | xc => exact p.elim
    | ol ds => obtain ⟨a, vs, rfl, n, r, l⟩ := h; exact ⟨_, e, p _ H (Same.refl H) ⟨a, vs, rfl, r, l⟩⟩
    | od ds => obtain ⟨a, vs, rfl, n, r, l⟩ := h; exact ⟨_, e, p _ H (Same.refl H) ⟨a, vs, rfl, .inl r, l⟩⟩
    | oi C ds => obtain ⟨a, dx, vs, rfl, n, r, l⟩ := h; exact ⟨_, e, p _ H (Same.refl H) ⟨a, dx, vs, rfl, r, l⟩⟩
    | bw d => obtain ⟨x, rfl, h⟩ := h; exact ⟨x, e, p x H (Same.refl H) (HoldsB.same rel.same h)⟩⟩
theorem de_int {i j pos} : DE F X W (.Constant (.int i) j pos) (eC (.int i)) := ⟨PE.weak pe_int fun σ H Q ⟨sd, rel, p⟩ => p _ H (Same.refl H) rfl⟩
theorem de_bl {i j pos} : DE F X W (.Constant (.bool i) j pos) (eC (.bl i)) := ⟨PE.weak pe_bl fun σ H Q ⟨sd, rel, p⟩ => p _ H (Same.refl H) rfl⟩
theorem de_str {i j pos} : DE F X W (.Constant (.str i) j pos) (eC (.str i)) := ⟨PE.weak pe_str fun σ H Q ⟨sd, rel, p⟩ => p _ H (Same.refl H) rfl⟩
theorem de_non {j pos} : DE F X W (.Constant .none j pos) (eC .non) := ⟨PE.weak pe_non fun σ H Q ⟨sd, rel, p⟩ => p _ H (Same.refl H) rfl⟩
/-- a module's constant: an int, a text -/
theorem de_gint {x : Str} {i : Int} {t : Tok} {pos : Pos} (hg : Gl X x) (hm : X.mg x = some (.int i t)) (hd : (x == ("__debug__" : Str)) = false := by decide) : DE F X W (.Name x pos) (eC (.int i)) :=
  ⟨PE.weak (pe_glob (v := .int i) hg hm ⟨t, rfl⟩ hd) fun σ H Q ⟨sd, rel, p⟩ => p _ H (Same.refl H) rfl⟩
theorem de_gstr {x : Str} {i : Str} {t : Tok} {pos : Pos} (hg : Gl X x) (hm : X.mg x = some (.str i t)) (hd : (x == ("__debug__" : Str)) = false := by decide) : DE F X W (.Name x pos) (eC (.str i)) :=
  ⟨PE.weak (pe_glob (v := .str i) hg hm ⟨t, rfl⟩ hd) fun σ H Q ⟨sd, rel, p⟩ => p _ H (Same.refl H) rfl⟩

/-! ### operators -/
def eBin (op : D → D → R D) (fa fb : EF) : EF := fun s => (fa s).bind fun x => (fb s).bind fun y => op x y
def eUn (op : D → R D) (fa : EF) : EF := fun s => (fa s).bind op
/-- the operator by plain data is the operator's rule -/
def OpOk (r : R2) (op : D → D → R D) : Prop := ∀ (mg : Str → Option Value) (W : WX) (σ : St) (A : Addr → Prop) (d e : D) (v w : V) (H : Hp) (Q : VK), (∀ a, A a → H a ≠ none) → HoldsB H A d v → HoldsB H A e w → Post false mg W σ A (op d e) H Q → r v w H Q
def UnOk (r : V → Hp → VK → Prop) (op : D → R D) : Prop := ∀ (mg : Str → Option Value) (W : WX) (σ : St) (A : Addr → Prop) (d : D) (v : V) (H : Hp) (Q : VK), (∀ a, A a → H a ≠ none) → HoldsB H A d v → Post false mg W σ A (op d) H Q → r v H Q
variable {a b c e : Expr} {fa fb fc : EF} {pos : Pos}
theorem de_bin {o : Operator} {r : R2} {op : D → D → R D} (ho : OpR X (binaryOp o) r) (hk : OpOk r op) (ha : DB F X W a fa) (hb : DB F X W b fb) : DE F X W (.BinOp a o b pos) (eBin op fa fb) :=
  ⟨PE.weak (pe_op ho ha.pe hb.pe) fun σ H Q h => te2 (b' := false) (fun A d e v w H2 dm h1 h2 p => hk X.mg W σ A d e v w H2 Q dm h1 h2 p) h⟩
theorem de_cmp {o : CmpOp} {r : R2} {op : D → D → R D} (ho : OpR X (compareOp o) r) (hk : OpOk r op) (ha : DB F X W a fa) (hb : DB F X W b fb) (hm : behindInMarks o b = false) : DE F X W (.Compare a [o] [b] pos) (eBin op fa fb) :=
  ⟨PE.weak (pe_cmpR ho ha.pe hb.pe hm) fun σ H Q h => te2 (b' := false) (fun A d e v w H2 dm h1 h2 p => hk X.mg W σ A d e v w H2 Q dm h1 h2 p) h⟩
theorem de_un {o : UnaryOp} {r : V → Hp → VK → Prop} {op : D → R D} (ho : UnR X (unaryOp o) r) (hk : UnOk r op) (ha : DB F X W a fa) : DE F X W (.UnaryOp o a pos) (eUn op fa) :=
  ⟨PE.weak (pe_un ho ha.pe) fun σ H Q h => te1 (b' := false) (fun A d v H2 dm h1 p => hk X.mg W σ A d v H2 Q dm h1 p) h⟩
theorem de_ix {r : R2} {op : D → D → R D} (hr : IxR X r) (hk : OpOk r op) (ha : DB F X W a fa) (hb : DB F X W b fb) (hs : PlainIx b) : DE F X W (.Subscript a b pos) (eBin op fa fb) :=
  ⟨PE.weak (pe_ix hr ha.pe hb.pe hs) fun σ H Q h => te2 (b' := false) (fun A d e v w H2 dm h1 h2 p => hk X.mg W σ A d e v w H2 Q dm h1 h2 p) h⟩
theorem de_ifExp' {c : Expr} {tc : TT} {f : EF} (hc : PT X c tc) (ha : DE F X W a fa) (hb : DE F X W b fb) (h : ∀ σ H Q, TEx false F X.mg W f σ H Q → tc σ H fun c H1 => if c = true then TEx false F X.mg W fa σ H1 Q else TEx false F X.mg W fb σ H1 Q) : DE F X W (.IfExp c a b pos) f :=
  ⟨PE.weak (pe_ifExp hc ha.pe hb.pe) h⟩
end DS
set_option Elab.async false
set_option linter.all false
set_option maxRecDepth 100000
set_option maxHeartbeats 2000000
namespace DS
open PySem L2
variable {F : Fr} {X : Cx} {W : WX}

/-! ### alternatives -/
theorem PE.or {X : Cx} {e : Expr} {t t' : TE} (h : PE X e t) (h' : PE X e t') : PE X e (fun σ H Q => t σ H Q ∨ t' σ H Q) := ⟨fun pins s σ H Q I q => q.elim (h.run pins s σ H Q I) (h'.run pins s σ H Q I)⟩
theorem PT.or {X : Cx} {e : Expr} {t t' : TT} (h : PT X e t) (h' : PT X e t') : PT X e (fun σ H Q => t σ H Q ∨ t' σ H Q) := ⟨fun pins s σ H Q I q => q.elim (h.run pins s σ H Q I) (h'.run pins s σ H Q I)⟩
theorem PT.weak {X : Cx} {e : Expr} {t t' : TT} (h : PT X e t) (k : ∀ σ H Q, t' σ H Q → t σ H Q) : PT X e t' := ⟨fun pins s σ H Q I q => h.run pins s σ H Q I (k _ _ _ q)⟩
theorem PA.weak {X : Cx} {e : List Expr} {t t' : TA} (h : PA X e t) (k : ∀ σ H Q, t' σ H Q → t σ H Q) : PA X e t' := ⟨fun pos pins s σ H Q I q => h.run pos pins s σ H Q I (k _ _ _ q)⟩
theorem PS.weak {X : Cx} {e : Stmt} {t t' : TS} (h : PS X e t) (k : ∀ D σ H, t' D σ H → t D σ H) : PS X e t' := ⟨fun pins s σ H D I q => h.run pins s σ H D I (k _ _ _ q)⟩
theorem PSs.weak {X : Cx} {e : List Stmt} {t t' : TS} (h : PSs X e t) (k : ∀ D σ H, t' D σ H → t D σ H) : PSs X e t' := ⟨fun pins s σ H D I q => h.run pins s σ H D I (k _ _ _ q)⟩

/-! ### the second operand, where the data are known -/
theorem te2s {b1 b2 b' : Bool} {fa fb : EF} {op : D → D → R D} {mg : Str → Option Value} {σ : St} {H : Hp} {Q : VK} {r : V → V → Hp → Prop} {sd : SD} (rel : Rel F σ H sd)
    (p : Post b' mg W σ (Av F σ sd) ((fa sd).bind fun x => (fb sd).bind fun y => op x y) H Q)
    (hr : ∀ (d e : D), fa sd = .ok d → fb sd = .ok e → ∀ (v w : V) (H2 : Hp), (∀ a, Av F σ sd a → H2 a ≠ none) → (if b1 = true then HoldsB H2 (Av F σ sd) d v else Holds H2 (Av F σ sd) d v) → (if b2 = true then HoldsB H2 (Av F σ sd) e w else Holds H2 (Av F σ sd) e w) → Post b' mg W σ (Av F σ sd) (op d e) H2 Q → r v w H2) :
    TEx b1 F mg W fa σ H fun v H1 => TEx b2 F mg W fb σ H1 (r v) := by
  refine ⟨sd, rel, ?_⟩
  cases q : fa sd with
  | ok d =>
    rw [q] at p
    intro v H2 s h
    refine ⟨sd, rel.mono s, ?_⟩
    cases q2 : fb sd with
    | ok e =>
      rw [R.bind_ok, q2] at p
      intro w H3 s3 h3
      refine hr d e q q2 v w H3 (fun a z => ((rel.mono s).mono s3).dom z) ?_ h3 (Post.mono (s.trans s3) p)
      by_cases hb : b1 = true
      · rw [if_pos hb] at h ⊢; exact h.same s3
      · rw [if_neg hb] at h ⊢; exact h.same s3
    | ex c fs => rw [R.bind_ok, q2] at p; exact Post.mono (r := .ex c fs) s p
    | no => rw [R.bind_ok, q2] at p; exact p
  | ex c fs => rw [q] at p; exact p
  | no => rw [q] at p; exact p
theorem te1s {b b' : Bool} {fa : EF} {op : D → R D} {mg : Str → Option Value} {σ : St} {H : Hp} {Q : VK} {r : V → Hp → Prop} {sd : SD} (rel : Rel F σ H sd)
    (p : Post b' mg W σ (Av F σ sd) ((fa sd).bind op) H Q)
    (hr : ∀ (d : D), fa sd = .ok d → ∀ (v : V) (H2 : Hp), Rel F σ H2 sd → (if b = true then HoldsB H2 (Av F σ sd) d v else Holds H2 (Av F σ sd) d v) → Post b' mg W σ (Av F σ sd) (op d) H2 Q → r v H2) :
    TEx b F mg W fa σ H r := by
  refine ⟨sd, rel, ?_⟩
  cases q : fa sd with
  | ok d =>
    rw [q] at p
    intro v H2 s h
    exact hr d q v H2 (rel.mono s) h (p.mono s)
  | ex c fs => rw [q] at p; exact p
  | no => rw [q] at p; exact p

theorem nilV {H : Hp} {A : Addr → Prop} {ds : List D} (h : HoldsL H A ds []) : ds = [] := by
  have e := h.length
  cases ds with
  | nil => rfl
  | cons _ _ => simp at e
/-! ### arithmetic by plain data -/
def opAdd : D → D → R D
  | .int i, .int j => .ok (.int (i + j))
  | .str i, .str j => if i.length + j.length ≤ sizeLine then .ok (.str (i ++ j)) else .no
  | .lst i, .lst j => if i.length + j.length ≤ sizeLine then .ok (.lst (i ++ j)) else .no
  | .tup i, .tup j => if i.length + j.length ≤ sizeLine then .ok (.tup (i ++ j)) else .no
  | _, _ => .no
def rAddA (K : PySem.W.Frag) : R2 := fun x y H Q => (rI0 (fun i j => .int (i + j)) x y H Q ∨ (∃ i j, x = .str i ∧ y = .str j ∧ i.length + j.length ≤ sizeLine ∧ Q (.str (i ++ j)) H)) ∨ (rCat x y H Q ∨ rCatA K x y H Q)
theorem or_add : OpR X (binaryOp .Add) (rAddA X.K) := (op_add.or op_add_str).or (op_cat.or op_catA)
theorem ok_add {K : PySem.W.Frag} : OpOk (rAddA K) opAdd := by
  intro mg W σ A d e v w H Q dm h1 h2 p
  unfold opAdd at p
  split at p
  · cases h1; cases h2
    exact .inl (.inl ⟨_, _, rfl, rfl, p _ H (Same.refl H) rfl⟩)
  · cases h1; cases h2
    split at p
    · rename_i hl
      exact .inl (.inr ⟨_, _, rfl, rfl, hl, p _ H (Same.refl H) rfl⟩)
    · exact p.elim
  · obtain ⟨a, vs, rfl, ha, l1⟩ := h1
    obtain ⟨b, ws, rfl, hb, l2⟩ := h2
    split at p
    · rename_i hl
      refine .inr (.inl ⟨a, b, vs, ws, rfl, rfl, ha, hb, by rw [l1.length, l2.length]; exact hl, fun q hq => ?_⟩)
      exact p _ _ (same_upd hq) ⟨q, _, rfl, fun z => dm q z hq, upd_same, (l1.append l2).same (same_upd hq)⟩
    · exact p.elim
  · have h1' := h1
    have h2' := h2
    obtain ⟨a, vs, rfl, na, ha, l1⟩ := h1
    obtain ⟨b, ws, rfl, nb, hb, l2⟩ := h2
    split at p
    · rename_i hl
      refine .inr (.inr ⟨a, b, vs, ws, rfl, rfl, SqT.of ha, SqT.of hb, by rw [l1.length, l2.length]; exact hl, fun e => ?_, fun _ e => ?_, fun _ _ q hq => ?_⟩)
      · subst e
        have e2 := nilV l1
        subst e2
        exact p _ H (Same.refl H) h2'
      · subst e
        have e2 := nilV l2
        subst e2
        rw [List.append_nil] at p
        exact p _ H (Same.refl H) h1'
      · exact p _ _ (same_upd hq) ⟨q, _, rfl, fun z => dm q z hq, upd_same, (l1.append l2).same (same_upd hq)⟩
    · exact p.elim
  · exact p.elim

def opI2 (C : Int → Int → Bool) (g : Int → Int → D) : D → D → R D
  | .int i, .int j => if C i j = true then .ok (g i j) else .no
  | _, _ => .no
theorem ok_I2 {C : Int → Int → Prop} {c : Int → Int → Bool} {g : Int → Int → V} {g' : Int → Int → D} (hc : ∀ i j, c i j = true → C i j) (hg : ∀ i j H A, Holds H A (g' i j) (g i j)) : OpOk (rI C g) (opI2 c g') := by
  intro mg W σ A d e v w H Q dm h1 h2 p
  unfold opI2 at p
  split at p
  · cases h1; cases h2
    split at p
    · rename_i hl
      exact ⟨_, _, rfl, rfl, hc _ _ hl, p _ H (Same.refl H) (hg _ _ _ _)⟩
    · exact p.elim
  · exact p.elim
def opI0 (g : Int → Int → D) : D → D → R D
  | .int i, .int j => .ok (g i j)
  | _, _ => .no
theorem ok_I0 {g : Int → Int → V} {g' : Int → Int → D} (hg : ∀ i j H A, Holds H A (g' i j) (g i j)) : OpOk (rI0 g) (opI0 g') := by
  intro mg W σ A d e v w H Q dm h1 h2 p
  unfold opI0 at p
  split at p
  · cases h1; cases h2
    exact ⟨_, _, rfl, rfl, p _ H (Same.refl H) (hg _ _ _ _)⟩
  · exact p.elim
def opSub : D → D → R D := opI0 fun i j => .int (i - j)
theorem ok_sub : OpOk (rI0 fun i j => .int (i - j)) opSub := ok_I0 fun _ _ _ _ => rfl
/-- // by any number of fewer than 9000 bits -/
def CDivA (_ j : Int) : Prop := j ≠ 0 ∧ j.natAbs.log2 < 9000
theorem op_fdivA : OpR X (binaryOp .FloorDiv) (rI CDivA fun i j => .int (i.fdiv j)) := L2.opI fun i j _ _ _ _ _ hc q => PyProof.Rows.floordiv_int hc.1 q (.inl (PyProof.noPylong_of_log2 hc.2))
def opFdiv : D → D → R D := opI2 (fun _ j => decide (j ≠ 0 ∧ j.natAbs.log2 < 9000)) fun i j => .int (i.fdiv j)
theorem ok_fdiv : OpOk (rI CDivA fun i j => .int (i.fdiv j)) opFdiv := ok_I2 (fun i j h => by have := of_decide_eq_true h; exact this) fun _ _ _ _ => rfl
def opMod : D → D → R D := opI2 (fun _ j => decide (j ≠ 0)) fun i j => .int (i.fmod j)
theorem ok_mod : OpOk (rI (fun _ j => j ≠ 0) fun i j => .int (i.fmod j)) opMod := ok_I2 (fun i j h => of_decide_eq_true h) fun _ _ _ _ => rfl
def opPow : D → D → R D := opI2 (fun i j => decide (0 ≤ j ∧ j.natAbs ≤ 1000000 ∧ i.natAbs < 2 ^ 64)) fun i j => .int (i ^ j.toNat)
theorem ok_pow : OpOk (rI CPow fun i j => .int (i ^ j.toNat)) opPow := ok_I2 (fun i j h => by have := of_decide_eq_true h; exact ⟨this.1, by omega, this.2.2⟩) fun _ _ _ _ => rfl
theorem holdsL_rep {H : Hp} {A : Addr → Prop} {ds : List D} {vs : List V} (h : HoldsL H A ds vs) : ∀ n : Nat, HoldsL H A (List.replicate n ds).flatten (List.replicate n vs).flatten
  | 0 => rfl
  | n + 1 => by simp only [List.replicate_succ, List.flatten_cons]; exact h.append (holdsL_rep h n)
def opMul : D → D → R D
  | .int i, .int j => if i.natAbs.log2 + j.natAbs.log2 < 1000000 then .ok (.int (i * j)) else .no
  | .lst xs, .int k => if k.natAbs < 2 ^ 61 ∧ xs.length * k.toNat ≤ sizeLine then .ok (.lst (List.replicate k.toNat xs).flatten) else .no
  | .tup xs, .int k => if xs ≠ [] ∧ 2 ≤ k ∧ k ≤ 1000 ∧ xs.length ≤ 1000 then .ok (.tup (List.replicate k.toNat xs).flatten) else .no
  | _, _ => .no
def rMulA (K : PySem.W.Frag) : R2 := fun x y H Q => rI CMulW (fun i j => .int (i * j)) x y H Q ∨ (rRep x y H Q ∨ rRepT K x y H Q)
theorem or_mul : OpR X (binaryOp .Mult) (rMulA X.K) := op_mulW.or (op_rep.or op_repT)
theorem ok_mul {K : PySem.W.Frag} : OpOk (rMulA K) opMul := by
  intro mg W σ A d e v w H Q dm h1 h2 p
  unfold opMul at p
  split at p
  · cases h1; cases h2
    split at p
    · rename_i hl
      exact .inl ⟨_, _, rfl, rfl, hl, p _ H (Same.refl H) rfl⟩
    · exact p.elim
  · obtain ⟨a, vs, rfl, ha, l1⟩ := h1
    cases h2
    split at p
    · rename_i hl
      refine .inr (.inl ⟨a, _, vs, rfl, rfl, ha, by omega, by omega, by rw [l1.length]; exact hl.2, fun q hq => ?_⟩)
      exact p _ _ (same_upd hq) ⟨q, _, rfl, fun z => dm q z hq, upd_same, (holdsL_rep l1 _).same (same_upd hq)⟩
    · exact p.elim
  · obtain ⟨a, vs, rfl, na, ha, l1⟩ := h1
    cases h2
    split at p
    · rename_i hl
      refine .inr (.inr ⟨a, _, vs, rfl, rfl, SqT.of ha, ?_, hl.2.1, hl.2.2.1, by rw [l1.length]; exact hl.2.2.2, fun q hq => ?_⟩)
      · intro z
        subst z
        exact hl.1 (nilV l1)
      · exact p _ _ (same_upd hq) ⟨q, _, rfl, fun z => dm q z hq, upd_same, (holdsL_rep l1 _).same (same_upd hq)⟩
    · exact p.elim
  · exact p.elim
def opNeg : D → R D
  | .int i => .ok (.int (-i))
  | _ => .no
theorem ok_neg : UnOk (rU fun i => .int (-i)) opNeg := by
  intro mg W σ A d v H Q dm h1 p
  unfold opNeg at p
  split at p
  · cases h1
    exact ⟨_, rfl, p _ H (Same.refl H) rfl⟩
  · exact p.elim

/-! ### comparisons -/
def opLt : D → D → R D := opI0 fun i j => .bl (decide (i < j))
theorem ok_lt : OpOk (rI0 fun i j => .bl (decide (i < j))) opLt := ok_I0 fun _ _ _ _ => rfl
def opLe : D → D → R D := opI0 fun i j => .bl (decide (i ≤ j))
theorem ok_le : OpOk (rI0 fun i j => .bl (decide (i ≤ j))) opLe := ok_I0 fun _ _ _ _ => rfl
def opGt : D → D → R D := opI0 fun i j => .bl (decide (j < i))
theorem ok_gt : OpOk (rI0 fun i j => .bl (decide (j < i))) opGt := ok_I0 fun _ _ _ _ => rfl
def opGe : D → D → R D := opI0 fun i j => .bl (decide (j ≤ i))
theorem ok_ge : OpOk (rI0 fun i j => .bl (decide (j ≤ i))) opGe := ok_I0 fun _ _ _ _ => rfl
mutual
def toPy : D → Option PyData
  | .non => some .none
  | .bl b => some (.bool b)
  | .int i => some (.int i)
  | .str s => some (.str s)
  | .lst xs => (toPyL xs).map .list
  | .tup xs => (toPyL xs).map .tuple
  | _ => none
def toPyL : List D → Option (List PyData)
  | [] => some []
  | d :: ds => match toPy d, toPyL ds with
    | some p, some q => some (p :: q)
    | _, _ => none
end
mutual
theorem dp_of {K : PySem.W.Frag} {H : Hp} {A : Addr → Prop} : ∀ (d : D) {p : PyData} {v : V}, toPy d = some p → Holds H A d v → Dp K H v p
  | .non, p, v, e, h => by simp [toPy] at e; subst e; cases h; exact .non
  | .bl b, p, v, e, h => by simp [toPy] at e; subst e; cases h; exact .bl b
  | .int i, p, v, e, h => by simp [toPy] at e; subst e; cases h; exact .int i
  | .str s, p, v, e, h => by simp [toPy] at e; subst e; cases h; exact .str s
  | .scr _, p, v, e, h => by simp [toPy] at e
  | .dk _, p, v, e, h => by simp [toPy] at e
  | .ins _ _, p, v, e, h => by simp [toPy] at e
  | .kt _ _, p, v, e, h => by simp [toPy] at e
  | .exc _ _ _, p, v, e, h => by simp [toPy] at e
  | .lst xs, p, v, e, h => by
    simp only [toPy, Option.map_eq_some_iff] at e
    obtain ⟨q, e1, e2⟩ := e
    subst e2
    obtain ⟨a, vs, rfl, _, r, l⟩ := h
    exact .lst (SqL.of r) (dpL_of xs e1 l)
  | .tup xs, p, v, e, h => by
    simp only [toPy, Option.map_eq_some_iff] at e
    obtain ⟨q, e1, e2⟩ := e
    subst e2
    obtain ⟨a, vs, rfl, _, r, l⟩ := h
    exact .tup (SqT.of r) (dpL_of xs e1 l)
theorem dpL_of {K : PySem.W.Frag} {H : Hp} {A : Addr → Prop} : ∀ (ds : List D) {ps : List PyData} {vs : List V}, toPyL ds = some ps → HoldsL H A ds vs → DpAll K H vs ps
  | [], ps, vs, e, h => by simp [toPyL] at e; subst e; cases h; exact .nil
  | d :: ds, ps, vs, e, h => by
    obtain ⟨v, r, rfl, h1, h2⟩ := h
    simp only [toPyL] at e
    split at e
    · rename_i p q e1 e2
      cases e
      exact .cons (dp_of d e1 h1) (dpL_of ds e2 h2)
    · cases e
end
theorem dp_ofB {K : PySem.W.Frag} {H : Hp} {A : Addr → Prop} (d : D) {p : PyData} {v : V} (e : toPy d = some p) (h : HoldsB H A d v) : Dp K H v p := by
  cases d with
  | lst xs =>
    simp only [toPy, Option.map_eq_some_iff] at e
    obtain ⟨q, e1, e2⟩ := e
    subst e2
    obtain ⟨a, vs, rfl, r, l⟩ := h
    exact .lst (SqL.of r) (dpL_of xs e1 l)
  | dk xs => simp [toPy] at e
  | ins xs _ => simp [toPy] at e
  | kt xs _ => simp [toPy] at e
  | exc xs _ _ => simp [toPy] at e
  | _ => exact dp_of (A := A) _ e h
def eqD (d e : D) : Option Bool := match toPy d, toPy e with
  | some p, some q => if SeqAt.shaped p = true ∧ SeqAt.shaped q = true then some (PyData.eqv p q) else none
  | _, _ => none
def opEq (d e : D) : R D := match eqD d e with
  | some b => .ok (.bl b)
  | none => .no
def opNe (d e : D) : R D := match eqD d e with
  | some b => .ok (.bl (!b))
  | none => .no
theorem ok_eq {K : PySem.W.Frag} : OpOk (rEqD K) opEq := by
  intro mg W σ A d e v w H Q dm h1 h2 p
  unfold opEq eqD at p
  cases e1 : toPy d with
  | none => rw [e1] at p; exact p.elim
  | some d' =>
    cases e2 : toPy e with
    | none => rw [e1, e2] at p; exact p.elim
    | some e' =>
      rw [e1, e2] at p
      dsimp only at p
      by_cases hs : SeqAt.shaped d' = true ∧ SeqAt.shaped e' = true
      · rw [if_pos hs] at p
        exact ⟨d', e', dp_ofB d e1 h1, dp_ofB e e2 h2, hs.1, hs.2, p _ H (Same.refl H) rfl⟩
      · rw [if_neg hs] at p
        exact p.elim
theorem ok_ne {K : PySem.W.Frag} : OpOk (rNeD K) opNe := by
  intro mg W σ A d e v w H Q dm h1 h2 p
  unfold opNe eqD at p
  cases e1 : toPy d with
  | none => rw [e1] at p; exact p.elim
  | some d' =>
    cases e2 : toPy e with
    | none => rw [e1, e2] at p; exact p.elim
    | some e' =>
      rw [e1, e2] at p
      dsimp only at p
      by_cases hs : SeqAt.shaped d' = true ∧ SeqAt.shaped e' = true
      · rw [if_pos hs] at p
        exact ⟨d', e', dp_ofB d e1 h1, dp_ofB e e2 h2, hs.1, hs.2, p _ H (Same.refl H) rfl⟩
      · rw [if_neg hs] at p
        exact p.elim
/-- is None -/
def isNone : D → Bool
  | .non => true
  | _ => false
theorem holdsB_non {H : Hp} {A : Addr → Prop} {d : D} {v : V} (h : HoldsB H A d v) : decide (v = .non) = isNone d := by
  cases d with
  | non => cases h; rfl
  | bl _ => cases h; rfl
  | int _ => cases h; rfl
  | str _ => cases h; rfl
  | scr xs => obtain ⟨a, rfl, _⟩ := h; rfl
  | lst xs => obtain ⟨a, vs, rfl, _⟩ := h; rfl
  | tup xs => obtain ⟨a, vs, rfl, _⟩ := h; rfl
  | dk xs => obtain ⟨a, vs, rfl, _⟩ := h; rfl
  | ins C xs => obtain ⟨a, dx, vs, rfl, _⟩ := h; rfl
  | kt T xs => cases h; rfl
  | exc c C xs => obtain ⟨a, dx, vs, rfl, _⟩ := h; rfl
def opIsN (d e : D) : R D := if isNone e = true then .ok (.bl (isNone d)) else .no
def opNotN (d e : D) : R D := if isNone e = true then .ok (.bl (!isNone d)) else .no
theorem ok_isN : OpOk (fun x y H Q => y = .non ∧ Q (.bl (decide (x = .non))) H) opIsN := by
  intro mg W σ A d e v w H Q dm h1 h2 p
  unfold opIsN at p
  by_cases hn : isNone e = true
  · rw [if_pos hn] at p
    have := holdsB_non h2
    rw [hn] at this
    refine ⟨of_decide_eq_true this, p _ H (Same.refl H) ?_⟩
    rw [if_neg (by decide), holdsB_non h1]
    rfl
  · rw [if_neg hn] at p; exact p.elim
theorem ok_notN : OpOk (fun x y H Q => y = .non ∧ Q (.bl (!decide (x = .non))) H) opNotN := by
  intro mg W σ A d e v w H Q dm h1 h2 p
  unfold opNotN at p
  by_cases hn : isNone e = true
  · rw [if_pos hn] at p
    have := holdsB_non h2
    rw [hn] at this
    refine ⟨of_decide_eq_true this, p _ H (Same.refl H) ?_⟩
    rw [if_neg (by decide), holdsB_non h1]
    rfl
  · rw [if_neg hn] at p; exact p.elim
end DS
set_option Elab.async false
set_option linter.all false
set_option maxRecDepth 100000
set_option maxHeartbeats 2000000
namespace DS
open PySem L2
variable {F : Fr} {X : Cx} {W : WX} {a b c e : Expr} {fa fb fc : EF} {pos : Pos}

theorem no_p {P : Prop} {b mg W σ A H Q} (p : Post b mg W σ A .no H Q) : P := p.elim
theorem ok_p {mg W σ A H Q d v} (p : Post false mg W σ A (.ok d) H Q) (h : Holds H A d v) : Q v H := p v H (Same.refl H) h
theorem new_lst {mg W σ A H Q ds vs} (dm : ∀ a, A a → H a ≠ none) (p : Post false mg W σ A (.ok (.lst ds)) H Q) (h : HoldsL H A ds vs) : ∀ q, H q = none → Q (.ref q) (upd H q (.lst vs)) :=
  fun q hq => p _ _ (same_upd hq) ⟨q, _, rfl, fun z => dm q z hq, upd_same, h.same (same_upd hq)⟩
theorem new_tup {mg W σ A H Q ds vs} (dm : ∀ a, A a → H a ≠ none) (p : Post false mg W σ A (.ok (.tup ds)) H Q) (h : HoldsL H A ds vs) : ∀ q, H q = none → Q (.ref q) (upd H q (.tup vs)) :=
  fun q hq => p _ _ (same_upd hq) ⟨q, _, rfl, fun z => dm q z hq, upd_same, h.same (same_upd hq)⟩
theorem new_dk {mg W σ A H Q ds vs} (dm : ∀ a, A a → H a ≠ none) (p : Post false mg W σ A (.ok (.dk ds)) H Q) (h : HoldsK H A ds vs) : ∀ q, H q = none → Q (.ref q) (upd H q (.dK vs)) :=
  fun q hq => p _ _ (same_upd hq) ⟨q, _, rfl, fun z => dm q z hq, .inl upd_same, h.same (same_upd hq)⟩

/-! ### tables -/
section
variable {κ : Type} [DecidableEq κ]
def valD (kvs : List (κ × D)) (k : κ) : Option D := (kvs.find? fun kv => decide (kv.1 = k)).map (·.2)
def putD (kvs : List (κ × D)) (k : κ) (v : D) : List (κ × D) :=
  if (kvs.any fun kv => decide (kv.1 = k)) = true then kvs.map (fun kv => if kv.1 = k then (kv.1, v) else kv) else kvs ++ [(k, v)]
def dropD (kvs : List (κ × D)) (k : κ) : List (κ × D) := kvs.filter fun kv => decide (kv.1 ≠ k)
theorem valD_nil {k : κ} : valD ([] : List (κ × D)) k = none := rfl
theorem valD_pos {p : κ × D} {r : List (κ × D)} {k : κ} (e : p.1 = k) : valD (p :: r) k = some p.2 := by simp [valD, List.find?_cons, e]
theorem valD_neg {p : κ × D} {r : List (κ × D)} {k : κ} (e : ¬ p.1 = k) : valD (p :: r) k = valD r k := by simp [valD, List.find?_cons, e]
theorem valD_any (k : κ) : ∀ kvs : List (κ × D), (kvs.any fun kv => decide (kv.1 = k)) = (valD kvs k).isSome
  | [] => rfl
  | p :: r => by
    rw [List.any_cons]
    by_cases e : p.1 = k
    · simp only [valD_pos e, decide_eq_true e, Bool.true_or, Option.isSome_some]
    · rw [valD_neg e, decide_eq_false e, Bool.false_or]; exact valD_any k r
end
section
variable {H : Hp} {A : Addr → Prop}
theorem HoldsK.length : ∀ {ds : List (L2.Key × D)} {vs : List (L2.Key × V)}, HoldsK H A ds vs → vs.length = ds.length
  | [], _, h => by cases h; rfl
  | (k, d) :: ds, _, h => by obtain ⟨v, r, rfl, _, h2⟩ := h; simp [HoldsK.length h2]
theorem HoldsK.keys : ∀ {ds : List (L2.Key × D)} {vs : List (L2.Key × V)}, HoldsK H A ds vs → vs.map (·.1) = ds.map (·.1)
  | [], _, h => by cases h; rfl
  | (k, d) :: ds, _, h => by obtain ⟨v, r, rfl, _, h2⟩ := h; simp [HoldsK.keys h2]
theorem HoldsK.val (k : L2.Key) : ∀ {ds : List (L2.Key × D)} {vs : List (L2.Key × V)}, HoldsK H A ds vs → (valD ds k = none ∧ valV vs k = none) ∨ ∃ d v, valD ds k = some d ∧ valV vs k = some v ∧ Holds H A d v
  | [], _, h => by cases h; exact .inl ⟨rfl, rfl⟩
  | (k', d) :: ds, _, h => by
    obtain ⟨v, r, rfl, h1, h2⟩ := h
    by_cases e : k' = k
    · exact .inr ⟨d, v, valD_pos e, valV_pos e, h1⟩
    · rw [valD_neg (p := (k', d)) e, valV_neg (p := (k', v)) e]
      exact HoldsK.val k h2
theorem HoldsK.append : ∀ {ds es : List (L2.Key × D)} {vs ws : List (L2.Key × V)}, HoldsK H A ds vs → HoldsK H A es ws → HoldsK H A (ds ++ es) (vs ++ ws)
  | [], _, _, _, h, k => by cases h; exact k
  | (_, d) :: ds, _, _, _, h, k => by obtain ⟨v, r, rfl, h1, h2⟩ := h; exact ⟨v, _, rfl, h1, HoldsK.append h2 k⟩
theorem HoldsK.mapIf (k : L2.Key) {d : D} {v : V} (h : Holds H A d v) : ∀ {ds : List (L2.Key × D)} {vs : List (L2.Key × V)}, HoldsK H A ds vs → HoldsK H A (ds.map fun kv => if kv.1 = k then (kv.1, d) else kv) (vs.map fun kv => if kv.1 = k then (kv.1, v) else kv)
  | [], _, h => by cases h; rfl
  | (k', d') :: ds, _, h' => by
    obtain ⟨v', r, rfl, h1, h2⟩ := h'
    have ih := HoldsK.mapIf k h h2
    rw [List.map_cons, List.map_cons]
    by_cases e : k' = k
    · rw [if_pos e, if_pos e]
      exact ⟨v, _, rfl, h, ih⟩
    · rw [if_neg e, if_neg e]
      exact ⟨v', _, rfl, h1, ih⟩
theorem HoldsK.any (k : L2.Key) {ds : List (L2.Key × D)} {vs : List (L2.Key × V)} (h : HoldsK H A ds vs) : (vs.any fun kv => decide (kv.1 = k)) = (ds.any fun kv => decide (kv.1 = k)) := by
  rw [valV_any, valD_any]
  rcases h.val k with ⟨e1, e2⟩ | ⟨d, v, e1, e2, _⟩ <;> rw [e1, e2] <;> rfl
theorem HoldsK.put {ds : List (L2.Key × D)} {vs : List (L2.Key × V)} (h : HoldsK H A ds vs) (k : L2.Key) {d : D} {v : V} (hd : Holds H A d v) : HoldsK H A (putD ds k d) (putK vs k v) := by
  unfold putD putK
  rw [h.any k]
  split
  · exact h.mapIf k hd
  · exact h.append ⟨v, [], rfl, hd, rfl⟩
end
def keyD : D → Option L2.Key
  | .int i => some (.inl i)
  | .str s => some (.inr s)
  | _ => none
theorem keyD_v {H : Hp} {A : Addr → Prop} {d : D} {v : V} {k : L2.Key} (h : HoldsB H A d v) (e : keyD d = some k) : v = kV k := by
  unfold keyD at e
  split at e
  · cases e; cases h; rfl
  · cases e; cases h; rfl
  · cases e
def keyDd : L2.Key → D
  | .inl i => .int i
  | .inr s => .str s

/-! ### subscripts -/
def opIx : D → D → R D
  | .lst xs, .int i => match atI xs i with
    | some d => .ok d
    | none => .no
  | .tup xs, .int i => match atI xs i with
    | some d => .ok d
    | none => .no
  | .scr xs, .int i => match atI xs i with
    | some d => .ok (.int d)
    | none => .no
  | .str z, .int i => if z.length ≤ sizeLine then (match atI z.cps.toList i with
    | some c => .ok (.str ⟨#[c]⟩)
    | none => .no) else .no
  | .dk kvs, y => match keyD y with
    | some k => (match valD kvs k with
      | some d => .ok d
      | none => .no)
    | none => .no
  | _, _ => .no
theorem atI_map {α β : Type} (f : α → β) (xs : List α) (i : Int) : atI (xs.map f) i = (atI xs i).map f := by
  unfold atI
  rw [List.length_map]
  cases ixN xs.length i with
  | none => rfl
  | some k => simp
theorem HoldsL.atI {H : Hp} {A : Addr → Prop} {ds : List D} {vs : List V} {i : Int} {d : D} (h : HoldsL H A ds vs) (e : L2.atI ds i = some d) : ∃ v, L2.atI vs i = some v ∧ Holds H A d v := by
  unfold L2.atI at e ⊢
  rw [h.length]
  cases q : ixN ds.length i with
  | none => rw [q] at e; cases e
  | some k => rw [q] at e; exact h.get e
def isDk : D → Bool
  | .dk _ => true
  | _ => false
theorem de_sub (hu : X.A.units + 64 < cLine) (ha : DB F X W a fa) (hb : DB F X W b fb) (hs : PlainIx b) : DE F X W (.Subscript a b pos) (eBin opIx fa fb) :=
  ⟨PE.weak (PE.or (pe_ix ix_seq ha.pe hb.pe hs) (pe_dget (by omega) ha.pe hb.pe hs)) fun σ H Q ⟨sd, rel, p⟩ => by
    unfold eBin at p
    by_cases hd : ∃ kvs, fa sd = .ok (.dk kvs)
    · obtain ⟨kvs, hd⟩ := hd
      refine .inr (te2s rel p fun d e q1 q2 v w H2 dm h1 h2 p2 => ?_)
      rw [hd] at q1
      cases q1
      obtain ⟨a, ws, rfl, r, l⟩ := h1
      unfold opIx at p2
      dsimp only at p2
      cases q : keyD e with
      | none => rw [q] at p2; exact p2.elim
      | some k =>
        rw [q] at p2
        dsimp only at p2
        have := keyD_v h2 q
        subst this
        rcases l.val k with ⟨e1, _⟩ | ⟨d, v, e1, e2, hh⟩
        · rw [e1] at p2; exact p2.elim
        · rw [e1] at p2
          exact ⟨a, v, rfl, .inl ⟨ws, k, r, rfl, e2.symm⟩, ok_p p2 hh⟩
    · refine .inl (te2s rel p fun d e q1 q2 v w H2 dm h1 h2 p2 => ?_)
      unfold opIx at p2
      split at p2
      · obtain ⟨a, vs, rfl, r, l⟩ := h1
        cases h2
        split at p2
        · rename_i he
          obtain ⟨v, ev, hv⟩ := l.atI he
          exact .inl ⟨a, vs, _, v, rfl, rfl, SqL.of r, ev, ok_p p2 hv⟩
        · exact p2.elim
      · obtain ⟨a, vs, rfl, na, r, l⟩ := h1
        cases h2
        split at p2
        · rename_i he
          obtain ⟨v, ev, hv⟩ := l.atI he
          exact .inr (.inl ⟨a, vs, _, v, rfl, rfl, SqT.of r, ev, ok_p p2 hv⟩)
        · exact p2.elim
      · obtain ⟨a, rfl, na, r⟩ := h1
        cases h2
        split at p2
        · rename_i he
          exact .inl ⟨a, _, _, _, rfl, rfl, .inl r, by rw [atI_map, he]; rfl, ok_p p2 rfl⟩
        · exact p2.elim
      · cases h1
        cases h2
        split at p2
        · rename_i hl
          split at p2
          · rename_i he
            exact .inr (.inr ⟨_, _, _, rfl, rfl, hl, he, ok_p p2 rfl⟩)
          · exact p2.elim
        · exact p2.elim
      · exact (hd ⟨_, q1⟩).elim
      · exact p2.elim⟩

/-! ### slices -/
def TOx (F : Fr) (mg : Str → Option Value) (W : WX) (f : SD → R (Option Int)) : TO := fun σ H Q => ∃ sd, Rel F σ H sd ∧ match f sd with
  | .ok i => ∀ H', Same H H' → Q i H'
  | .ex c fs => ∀ cls da H', Same H H' → ExRep mg H' (Av F σ sd) c fs cls da → W cls da σ H'
  | .no => False
structure DO (F : Fr) (X : Cx) (W : WX) (o : Option Expr) (f : SD → R (Option Int)) : Prop where
  po : PO X o (TOx F X.mg W f)
theorem do_none : DO F X W none (fun _ => .ok none) := ⟨⟨fun pins s σ H Q I ⟨sd, rel, p⟩ => po_none.run pins s σ H Q I (p H (Same.refl H))⟩⟩
def asInt : D → R (Option Int)
  | .int i => .ok (some i)
  | _ => .no
theorem do_some (h : DB F X W e fa) : DO F X W (some e) (fun s => (fa s).bind asInt) := ⟨⟨fun pins s σ H Q I ⟨sd, rel, p⟩ => (po_some h.pe).run pins s σ H Q I ⟨sd, rel, by
  dsimp only at p
  cases q : fa sd with
  | ok d =>
    rw [q, R.bind_ok] at p
    intro v H' s hv
    unfold asInt at p
    split at p
    · rename_i i he
      split at he
      · cases he
        cases hv
        exact ⟨_, rfl, p H' s⟩
      · cases he
    · rename_i he
      split at he <;> cases he
    · exact p.elim
  | ex c fs => rw [q] at p; exact p
  | no => rw [q] at p; exact p⟩⟩⟩
def cutD (xs : List D) (lo hi : Option Int) : List D := (xs.drop (HT.sIx xs.length 0 lo)).take (HT.sIx xs.length xs.length hi - HT.sIx xs.length 0 lo)
theorem HoldsL.cut {H : Hp} {A : Addr → Prop} {ds : List D} {vs : List V} (h : HoldsL H A ds vs) (lo hi : Option Int) : HoldsL H A (cutD ds lo hi) (cutV vs lo hi) := by
  unfold cutD cutV
  rw [h.length]
  exact (h.drop _).take _
def opSlice : D → Option Int → Option Int → R D
  | .lst xs, lo, hi => .ok (.lst (cutD xs lo hi))
  | .tup xs, lo, hi => .ok (.tup (cutD xs lo hi))
  | .str z, lo, hi => if z.length ≤ sizeLine then .ok (.str (cutS z lo hi)) else .no
  | _, _, _ => .no
def eSlice (fa : EF) (fl fh : SD → R (Option Int)) : EF := fun s => (fa s).bind fun x => (fl s).bind fun lo => (fh s).bind fun hi => opSlice x lo hi
theorem de_slice {lo hi : Option Expr} {fl fh : SD → R (Option Int)} {p2 : Pos} (ha : DB F X W e fa) (hl : DO F X W lo fl) (hh : DO F X W hi fh) : DE F X W (.Subscript e (.Slice lo hi none p2) pos) (eSlice fa fl fh) :=
  ⟨PE.weak (pe_slice (SlR.or sl_list (SlR.or sl_tupA sl_str)) ha.pe hl.po hh.po) fun σ H Q ⟨sd, rel, p⟩ => by
    unfold eSlice at p
    refine ⟨sd, rel, ?_⟩
    cases q1 : fa sd with
    | no => rw [q1] at p; exact p
    | ex c fs => rw [q1] at p; exact p
    | ok d =>
      rw [q1, R.bind_ok] at p
      intro v H1 s1 hv
      have r1 := rel.mono s1
      refine ⟨sd, r1, ?_⟩
      cases q2 : fl sd with
      | no => rw [q2] at p; exact p
      | ex c fs => rw [q2] at p; exact Post.mono (r := .ex c fs) s1 p
      | ok lo =>
        rw [q2, R.bind_ok] at p
        intro H2 s2
        refine ⟨sd, r1.mono s2, ?_⟩
        cases q3 : fh sd with
        | no => rw [q3] at p; exact p
        | ex c fs => rw [q3] at p; exact Post.mono (r := .ex c fs) (s1.trans s2) p
        | ok hi =>
          rw [q3, R.bind_ok] at p
          intro H3 s3
          have hv3 : HoldsB H3 (Av F σ sd) d v := (HoldsB.same s2 hv).same s3
          have p3 := Post.mono (s1.trans (s2.trans s3)) p
          have dm : ∀ a, Av F σ sd a → H3 a ≠ none := fun a z => ((r1.mono s2).mono s3).dom z
          unfold opSlice at p3
          split at p3
          · obtain ⟨a, vs, rfl, r, l⟩ := hv3
            exact .inl ⟨a, vs, rfl, SqL.of r, new_lst dm p3 (l.cut _ _)⟩
          · have hv4 := hv3
            obtain ⟨a, vs, rfl, na, r, l⟩ := hv3
            refine .inr (.inl ⟨a, vs, rfl, SqT.of r, fun w => ?_, fun _ => new_tup dm p3 (l.cut _ _)⟩)
            refine ok_p p3 ?_
            have ec : ∀ xs : List D, xs.length = vs.length → cutD xs lo hi = xs := fun xs hx => by
              unfold cutD
              rw [hx, w.1, w.2, ← hx]
              simp
            rw [ec _ l.length.symm]
            exact hv4
          · cases hv3
            split at p3
            · rename_i hl
              exact .inr (.inr ⟨_, rfl, hl, ok_p p3 rfl⟩)
            · exact p3.elim
          · exact p3.elim⟩

/-! ### arguments -/
def HoldsXL (b : Bool) (H : Hp) (A : Addr → Prop) : List D → List V → Prop
  | [], vs => vs = []
  | d :: ds, vs => ∃ v r, vs = v :: r ∧ (if b = true then HoldsB H A d v else Holds H A d v) ∧ HoldsXL b H A ds r
theorem HoldsXL.l {H : Hp} {A : Addr → Prop} : ∀ {ds : List D} {vs : List V}, HoldsXL false H A ds vs → HoldsL H A ds vs
  | [], _, h => h
  | d :: ds, _, h => by obtain ⟨v, r, e, h1, h2⟩ := h; exact ⟨v, r, e, h1, HoldsXL.l h2⟩
def evalL : List EF → SD → R (List D)
  | [], _ => .ok []
  | f :: fs, s => (f s).bind fun d => (evalL fs s).bind fun ds => .ok (d :: ds)
def PostL (b : Bool) (mg : Str → Option Value) (W : WX) (σ : St) (A : Addr → Prop) (r : R (List D)) (H : Hp) (Q : List V → Hp → Prop) : Prop := match r with
  | .ok ds => ∀ vs H', Same H H' → HoldsXL b H' A ds vs → Q vs H'
  | .ex c fs => ∀ cls da H', Same H H' → ExRep mg H' A c fs cls da → W cls da σ H'
  | .no => False
theorem PostL.mono {b : Bool} {mg : Str → Option Value} {W : WX} {σ : St} {A : Addr → Prop} {r : R (List D)} {H H' : Hp} {Q : List V → Hp → Prop} (s : Same H H') (p : PostL b mg W σ A r H Q) : PostL b mg W σ A r H' Q := by
  cases r with
  | ok d => exact fun v H2 s2 h => p v H2 (s.trans s2) h
  | ex c fs => exact fun cls da H2 s2 h => p cls da H2 (s.trans s2) h
  | no => exact p
def TAx (b : Bool) (F : Fr) (mg : Str → Option Value) (W : WX) (f : SD → R (List D)) : TA := fun σ H Q => ∃ sd, Rel F σ H sd ∧ PostL b mg W σ (Av F σ sd) (f sd) H Q
structure DA (b : Bool) (F : Fr) (X : Cx) (W : WX) (es : List Expr) (fs : List EF) : Prop where
  pa : PA X es (TAx b F X.mg W (evalL fs))
theorem da_nil {b : Bool} : DA b F X W [] [] := ⟨PA.weak pa_nil fun σ H Q ⟨sd, rel, p⟩ => p [] H (Same.refl H) rfl⟩
theorem da_cons {b : Bool} {es : List Expr} {fs : List EF} (h : DX b F X W e fa) (hr : DA b F X W es fs) (hs : starEach (e :: es) X.env = (false, eval e X.env) :: starEach es X.env := by rfl) : DA b F X W (e :: es) (fa :: fs) :=
  ⟨PA.weak (pa_cons h.pe hr.pa hs) fun σ H Q ⟨sd, rel, p⟩ => by
    refine ⟨sd, rel, ?_⟩
    simp only [evalL] at p
    cases q1 : fa sd with
    | no => rw [q1] at p; exact p
    | ex c fs => rw [q1] at p; exact p
    | ok d =>
      rw [q1, R.bind_ok] at p
      intro v H1 s1 hv
      refine ⟨sd, rel.mono s1, ?_⟩
      cases q2 : evalL fs sd with
      | no => rw [q2] at p; exact p
      | ex c fs => rw [q2] at p; exact PostL.mono (r := .ex c fs) s1 p
      | ok ds =>
        rw [q2, R.bind_ok] at p
        intro vs H2 s2 hvs
        refine p (v :: vs) H2 (s1.trans s2) ⟨v, vs, rfl, ?_, hvs⟩
        by_cases hb : b = true
        · rw [if_pos hb] at hv ⊢; exact hv.same s2
        · rw [if_neg hb] at hv ⊢; exact hv.same s2⟩
/-- the arguments, then what is done with them -/
theorem tas {b b' : Bool} {fs : List EF} {op : List D → R D} {mg : Str → Option Value} {σ : St} {H : Hp} {Q : VK} {r : List V → Hp → Prop} {sd : SD} (rel : Rel F σ H sd)
    (p : Post b' mg W σ (Av F σ sd) ((evalL fs sd).bind op) H Q)
    (hr : ∀ (ds : List D), evalL fs sd = .ok ds → ∀ (vs : List V) (H2 : Hp), Same H H2 → Rel F σ H2 sd → HoldsXL b H2 (Av F σ sd) ds vs → Post b' mg W σ (Av F σ sd) (op ds) H2 Q → r vs H2) : TAx b F mg W (evalL fs) σ H r := by
  refine ⟨sd, rel, ?_⟩
  cases q : evalL fs sd with
  | ok d =>
    rw [q] at p
    intro v H2 s h
    exact hr d q v H2 s (rel.mono s) h (p.mono s)
  | ex c fs => rw [q] at p; exact p
  | no => rw [q] at p; exact p
def eAll (op : List D → R D) (fs : List EF) : EF := fun s => (evalL fs s).bind op

/-! ### displays -/
def opLst : List D → R D := fun ds => if ds.length ≤ sizeLine then .ok (.lst ds) else .no
def opTup : List D → R D := fun ds => if ds.length ≤ sizeLine then .ok (.tup ds) else .no
variable {es : List Expr} {fs : List EF}
theorem de_lst (h : DA false F X W es fs) : DE F X W (.List es pos) (eAll opLst fs) := ⟨PE.weak (pe_lst h.pa) fun σ H Q ⟨sd, rel, p⟩ => tas (b' := false) rel p fun ds q vs H2 _ r2 hv p2 => by
  unfold opLst at p2
  split at p2
  · rename_i hl
    exact ⟨by rw [hv.l.length]; exact hl, new_lst (fun a z => r2.dom z) p2 hv.l⟩
  · exact p2.elim⟩
theorem de_tup {k} (h : DA false F X W es fs) : DE F X W (.Tuple es k pos) (eAll opTup fs) := ⟨PE.weak (pe_tup h.pa) fun σ H Q ⟨sd, rel, p⟩ => tas (b' := false) rel p fun ds q vs H2 _ r2 hv p2 => by
  unfold opTup at p2
  split at p2
  · rename_i hl
    exact ⟨by rw [hv.l.length]; exact hl, new_tup (fun a z => r2.dom z) p2 hv.l⟩
  · exact p2.elim⟩
theorem de_dnew : DE F X W (.Dict [] [] pos) (eC (.dk [])) := ⟨PE.weak pe_dnewK fun σ H Q ⟨sd, rel, p⟩ => new_dk (fun a z => rel.dom z) p rfl⟩

/-! ### built-ins by name -/
def CallOk (r : List V → Hp → VK → Prop) (op : List D → R D) : Prop := ∀ (mg : Str → Option Value) (W : WX) (σ : St) (A : Addr → Prop) (ds : List D) (vs : List V) (H : Hp) (Q : VK), (∀ a, A a → H a ≠ none) → HoldsXL true H A ds vs → Post false mg W σ A (op ds) H Q → r vs H Q
theorem de_callB {id : String} {r : List V → Hp → VK → Prop} {op : List D → R D} {x : Str} {p : Pos} (hc : CallR X (.builtin id) r) (hk : CallOk r op) (hg : Gl X x) (hm : X.mg x = none) (hv : bootBuiltins x = some (.builtin id)) (ha : DA true F X W (e :: es) fs)
    (hn : x ≠ "__name__" := by decide) (hdb : (x == ("__debug__" : Str)) = false := by decide) (he : starEach (e :: es) X.env = (false, eval e X.env) :: starEach es X.env := by rfl) (hpl : (backTo pos (starEach es X.env)).any (·.1) = false := by rfl) :
    DE F X W (.Call (.Name x p) (e :: es) [] pos) (eAll op fs) :=
  ⟨PE.weak (pe_callB hc hg hm hv ha.pa hn hdb he hpl) fun σ H Q ⟨sd, rel, p⟩ => tas (b' := false) rel p fun ds q vs H2 _ r2 hv p2 => hk X.mg W σ _ ds vs H2 Q (fun a z => r2.dom z) hv p2⟩
theorem de_callTy {T : String} {r : List V → Hp → VK → Prop} {op : List D → R D} {x : Str} {p : Pos} (hc : CallR X (.type T) r) (hk : CallOk r op) (hg : Gl X x) (hm : X.mg x = none) (hv : bootBuiltins x = some (.type T)) (ha : DA true F X W (e :: es) fs)
    (hn : x ≠ "__name__" := by decide) (hdb : (x == ("__debug__" : Str)) = false := by decide) (he : starEach (e :: es) X.env = (false, eval e X.env) :: starEach es X.env := by rfl) (hpl : (backTo pos (starEach es X.env)).any (·.1) = false := by rfl) :
    DE F X W (.Call (.Name x p) (e :: es) [] pos) (eAll op fs) :=
  ⟨PE.weak (pe_callTy hc hg hm hv ha.pa hn hdb he hpl) fun σ H Q ⟨sd, rel, p⟩ => tas (b' := false) rel p fun ds q vs H2 _ r2 hv p2 => hk X.mg W σ _ ds vs H2 Q (fun a z => r2.dom z) hv p2⟩

def opLen : List D → R D
  | [.lst xs] => .ok (.int xs.length)
  | [.tup xs] => .ok (.int xs.length)
  | [.scr xs] => .ok (.int xs.length)
  | [.str z] => if z.length ≤ sizeLine then .ok (.int z.length) else .no
  | _ => .no
def rLenA (K : PySem.W.Frag) : List V → Hp → VK → Prop := fun xs H Q => (∃ p ys, xs = [.ref p] ∧ (SqL K H p ys ∨ SqT K H p ys) ∧ Q (.int ys.length) H) ∨ ∃ z, xs = [.str z] ∧ z.length ≤ sizeLine ∧ Q (.int z.length) H
theorem or_len : CallR X (.builtin "len") (rLenA X.K) := CallR.or call_len_seq call_len_str
theorem ok_len {K : PySem.W.Frag} : CallOk (rLenA K) opLen := by
  intro mg W σ A ds vs H Q dm hv p
  unfold opLen at p
  split at p
  · obtain ⟨v, r, rfl, h, rfl⟩ := hv
    obtain ⟨a, ws, rfl, r, l⟩ := h
    exact .inl ⟨a, ws, rfl, .inl (SqL.of r), by rw [l.length]; exact ok_p p rfl⟩
  · obtain ⟨v, r, rfl, h, rfl⟩ := hv
    obtain ⟨a, ws, rfl, na, r, l⟩ := h
    exact .inl ⟨a, ws, rfl, .inr (SqT.of r), by rw [l.length]; exact ok_p p rfl⟩
  · obtain ⟨v, r, rfl, h, rfl⟩ := hv
    obtain ⟨a, rfl, na, r⟩ := h
    exact .inl ⟨a, _, rfl, .inl (.inl r), by rw [List.length_map]; exact ok_p p rfl⟩
  · obtain ⟨v, r, rfl, h, rfl⟩ := hv
    cases h
    split at p
    · rename_i hl
      exact .inr ⟨_, rfl, hl, ok_p p rfl⟩
    · exact p.elim
  · exact p.elim
def opAbs : List D → R D
  | [.int i] => .ok (.int (if i < 0 then -i else i))
  | _ => .no
theorem ok_abs : CallOk (fun xs H Q => ∃ i, xs = [.int i] ∧ Q (.int (if i < 0 then -i else i)) H) opAbs := by
  intro mg W σ A ds vs H Q dm hv p
  unfold opAbs at p
  split at p
  · obtain ⟨v, r, rfl, h, rfl⟩ := hv
    cases h
    exact ⟨_, rfl, ok_p p rfl⟩
  · exact p.elim
def opInt : List D → R D
  | [.int i] => .ok (.int i)
  | [.str a] => match PySem.intText? a with
    | some n => if a.length ≤ 640 then .ok (.int n) else .no
    | none => .no
  | _ => .no
def rIntA : List V → Hp → VK → Prop := fun xs H Q => ((∃ i, xs = [.int i] ∧ Q (.int i) H) ∨ ∃ k, xs = [.bl k] ∧ Q (.int (if k then 1 else 0)) H) ∨ ∃ a n, xs = [.str a] ∧ PySem.intText? a = some n ∧ a.length ≤ 640 ∧ Q (.int n) H
theorem or_int : CallR X (.type "int") rIntA := CallR.or call_int1 call_int_str
theorem ok_int : CallOk rIntA opInt := by
  intro mg W σ A ds vs H Q dm hv p
  unfold opInt at p
  split at p
  · obtain ⟨v, r, rfl, h, rfl⟩ := hv
    cases h
    exact .inl (.inl ⟨_, rfl, ok_p p rfl⟩)
  · obtain ⟨v, r, rfl, h, rfl⟩ := hv
    cases h
    split at p
    · rename_i e
      split at p
      · rename_i hl
        exact .inr ⟨_, _, rfl, e, hl, ok_p p rfl⟩
      · exact p.elim
    · exact p.elim
  · exact p.elim
def opStr : List D → R D
  | [.int i] => if i.natAbs.log2 < 1920 then .ok (.str (toString i)) else .no
  | [.str a] => .ok (.str a)
  | _ => .no
def rStrA : List V → Hp → VK → Prop := fun xs H Q => (∃ i, xs = [.int i] ∧ i.natAbs.log2 < 1920 ∧ Q (.str (toString i)) H) ∨ ∃ a, xs = [.str a] ∧ Q (.str a) H
theorem or_str : CallR X (.type "str") rStrA := CallR.or call_str_int SkE.call_str_str
theorem ok_str : CallOk rStrA opStr := by
  intro mg W σ A ds vs H Q dm hv p
  unfold opStr at p
  split at p
  · obtain ⟨v, r, rfl, h, rfl⟩ := hv
    cases h
    split at p
    · rename_i hl
      exact .inl ⟨_, rfl, hl, ok_p p rfl⟩
    · exact p.elim
  · obtain ⟨v, r, rfl, h, rfl⟩ := hv
    cases h
    exact .inr ⟨_, rfl, ok_p p rfl⟩
  · exact p.elim
def opList : List D → R D
  | [.lst xs] => .ok (.lst xs)
  | [.tup xs] => .ok (.lst xs)
  | [.dk kvs] => .ok (.lst (kvs.map fun kv => keyDd kv.1))
  | _ => .no
def rListA (K : PySem.W.Frag) : List V → Hp → VK → Prop := fun xs H Q => (∃ p ys, xs = [.ref p] ∧ (SqL K H p ys ∨ SqT K H p ys) ∧ ∀ l, H l = none → Q (.ref l) (upd H l (.lst ys))) ∨
  ∃ (a : Addr) (kvs : List (L2.Key × V)), xs = [.ref a] ∧ Rd H a (.dK kvs) ∧ ∀ p, H p = none → Q (.ref p) (upd H p (.lst (kvs.map fun kv => kV kv.1)))
theorem or_list (hc : X.calm = true) : CallR X (.type "list") (rListA X.K) := CallR.or call_list_of (call_listD hc)
theorem holdsL_keys {H : Hp} {A : Addr → Prop} : ∀ {kvs : List (L2.Key × D)} {ws : List (L2.Key × V)}, HoldsK H A kvs ws → HoldsL H A (kvs.map fun kv => keyDd kv.1) (ws.map fun kv => kV kv.1)
  | [], _, h => by cases h; rfl
  | (k, d) :: r, _, h => by
    obtain ⟨v, t, rfl, h1, h2⟩ := h
    refine ⟨kV k, _, rfl, ?_, holdsL_keys h2⟩
    cases k <;> rfl
theorem ok_list {K : PySem.W.Frag} : CallOk (rListA K) opList := by
  intro mg W σ A ds vs H Q dm hv p
  unfold opList at p
  split at p
  · obtain ⟨v, r, rfl, h, rfl⟩ := hv
    obtain ⟨a, ws, rfl, r, l⟩ := h
    exact .inl ⟨a, ws, rfl, .inl (SqL.of r), new_lst dm p l⟩
  · obtain ⟨v, r, rfl, h, rfl⟩ := hv
    obtain ⟨a, ws, rfl, na, r, l⟩ := h
    exact .inl ⟨a, ws, rfl, .inr (SqT.of r), new_lst dm p l⟩
  · obtain ⟨v, r, rfl, h, rfl⟩ := hv
    obtain ⟨a, ws, rfl, r, l⟩ := h
    exact .inr ⟨a, ws, rfl, r, new_lst dm p (holdsL_keys l)⟩
  · exact p.elim
def opTuple : List D → R D
  | [.lst xs] => .ok (.tup xs)
  | [.tup xs] => .ok (.tup xs)
  | _ => .no
theorem ok_tuple {K : PySem.W.Frag} : CallOk (fun xs H Q => ∃ p ys, xs = [.ref p] ∧ ((SqL K H p ys ∧ ∀ l, H l = none → Q (.ref l) (upd H l (.tup ys))) ∨ (SqT K H p ys ∧ Q (.ref p) H))) opTuple := by
  intro mg W σ A ds vs H Q dm hv p
  unfold opTuple at p
  split at p
  · obtain ⟨v, r, rfl, h, rfl⟩ := hv
    obtain ⟨a, ws, rfl, r, l⟩ := h
    exact ⟨a, ws, rfl, .inl ⟨SqL.of r, new_tup dm p l⟩⟩
  · obtain ⟨v, r, rfl, h, rfl⟩ := hv
    have h' := h
    obtain ⟨a, ws, rfl, na, r, l⟩ := h
    exact ⟨a, ws, rfl, .inr ⟨SqT.of r, ok_p p h'⟩⟩
  · exact p.elim
/-- a list of ints -/
def intsD : List D → Option (List Int)
  | [] => some []
  | .int i :: r => (intsD r).map (i :: ·)
  | _ => none
theorem intsD_v {H : Hp} {A : Addr → Prop} : ∀ {ds : List D} {vs : List V} {ns : List Int}, intsD ds = some ns → HoldsL H A ds vs → vs = ns.map V.int
  | [], vs, ns, e, h => by simp [intsD] at e; subst e; exact h
  | .int i :: r, vs, ns, e, h => by
    simp only [intsD, Option.map_eq_some_iff] at e
    obtain ⟨m, e1, rfl⟩ := e
    obtain ⟨v, t, rfl, h1, h2⟩ := h
    rw [intsD_v e1 h2, h1]
    rfl
@[simp] theorem intsD_map (ns : List Int) : intsD (ns.map D.int) = some ns := by
  induction ns with
  | nil => rfl
  | cons n r ih => simp [intsD, ih]
def blsD : List D → Option (List Bool)
  | [] => some []
  | .bl i :: r => (blsD r).map (i :: ·)
  | _ => none
theorem blsD_v {H : Hp} {A : Addr → Prop} : ∀ {ds : List D} {vs : List V} {ns : List Bool}, blsD ds = some ns → HoldsL H A ds vs → vs = ns.map V.bl
  | [], vs, ns, e, h => by simp [blsD] at e; subst e; exact h
  | .bl i :: r, vs, ns, e, h => by
    simp only [blsD, Option.map_eq_some_iff] at e
    obtain ⟨m, e1, rfl⟩ := e
    obtain ⟨v, t, rfl, h1, h2⟩ := h
    rw [blsD_v e1 h2, h1]
    rfl
@[simp] theorem blsD_map (ns : List Bool) : blsD (ns.map D.bl) = some ns := by
  induction ns with
  | nil => rfl
  | cons n r ih => simp [blsD, ih]
def opSum : List D → R D
  | [.lst xs] => match intsD xs with
    | some ns => .ok (.int ns.sum)
    | none => .no
  | _ => .no
theorem ok_sum {K : PySem.W.Frag} : CallOk (rSum K) opSum := by
  intro mg W σ A ds vs H Q dm hv p
  unfold opSum at p
  split at p
  · obtain ⟨v, r, rfl, h, rfl⟩ := hv
    obtain ⟨a, ws, rfl, r, l⟩ := h
    split at p
    · rename_i e
      have := intsD_v e l
      subst this
      exact ⟨a, _, rfl, SqL.of r, ok_p p rfl⟩
    · exact p.elim
  · exact p.elim
def opAllB : List D → R D
  | [.lst xs] => match blsD xs with
    | some ns => .ok (.bl (ns.all id))
    | none => .no
  | _ => .no
theorem ok_allB {K : PySem.W.Frag} : CallOk (rAll K) opAllB := by
  intro mg W σ A ds vs H Q dm hv p
  unfold opAllB at p
  split at p
  · obtain ⟨v, r, rfl, h, rfl⟩ := hv
    obtain ⟨a, ws, rfl, r, l⟩ := h
    split at p
    · rename_i e
      have := blsD_v e l
      subst this
      exact ⟨a, _, rfl, SqL.of r, ok_p p rfl⟩
    · exact p.elim
  · exact p.elim
def maxI : Int → List Int → Int
  | m, [] => m
  | m, x :: r => maxI (if m < x then x else m) r
def minI : Int → List Int → Int
  | m, [] => m
  | m, x :: r => minI (if x < m then x else m) r
theorem maxI_spec : ∀ (r : List Int) (m : Int), (maxI m r = m ∨ maxI m r ∈ r) ∧ m ≤ maxI m r ∧ ∀ y ∈ r, y ≤ maxI m r
  | [], m => ⟨.inl rfl, Int.le_refl _, fun y h => by cases h⟩
  | x :: r, m => by
    obtain ⟨h1, h2, h3⟩ := maxI_spec r (if m < x then x else m)
    unfold maxI
    have e1 : m ≤ (if m < x then x else m) := by split <;> omega
    have e2 : x ≤ (if m < x then x else m) := by split <;> omega
    refine ⟨?_, by omega, fun y hy => ?_⟩
    · rcases h1 with h | h
      · rw [h]
        split
        · exact .inr List.mem_cons_self
        · exact .inl rfl
      · exact .inr (List.mem_cons_of_mem _ h)
    · rcases List.mem_cons.mp hy with e | hy
      · rw [e]; omega
      · exact h3 y hy
theorem minI_spec : ∀ (r : List Int) (m : Int), (minI m r = m ∨ minI m r ∈ r) ∧ minI m r ≤ m ∧ ∀ y ∈ r, minI m r ≤ y
  | [], m => ⟨.inl rfl, Int.le_refl _, fun y h => by cases h⟩
  | x :: r, m => by
    obtain ⟨h1, h2, h3⟩ := minI_spec r (if x < m then x else m)
    unfold minI
    have e1 : (if x < m then x else m) ≤ m := by split <;> omega
    have e2 : (if x < m then x else m) ≤ x := by split <;> omega
    refine ⟨?_, by omega, fun y hy => ?_⟩
    · rcases h1 with h | h
      · rw [h]
        split
        · exact .inr List.mem_cons_self
        · exact .inl rfl
      · exact .inr (List.mem_cons_of_mem _ h)
    · rcases List.mem_cons.mp hy with e | hy
      · rw [e]; omega
      · exact h3 y hy
def opMax : List D → R D
  | [.lst xs] => match intsD xs with
    | some (n :: ns) => .ok (.int (maxI n ns))
    | _ => .no
  | _ => .no
def opMin : List D → R D
  | [.lst xs] => match intsD xs with
    | some (n :: ns) => .ok (.int (minI n ns))
    | _ => .no
  | _ => .no
theorem ok_max {K : PySem.W.Frag} : CallOk (rMax K) opMax := by
  intro mg W σ A ds vs H Q dm hv p
  unfold opMax at p
  split at p
  · obtain ⟨v, r, rfl, h, rfl⟩ := hv
    obtain ⟨a, ws, rfl, r, l⟩ := h
    split at p
    · rename_i n ns e
      have := intsD_v e l
      subst this
      obtain ⟨h1, h2, h3⟩ := maxI_spec ns n
      refine ⟨a, _, rfl, SqL.of r, by simp, fun m hm hy => ?_⟩
      have em : m = maxI n ns := by
        have g1 : m ≤ maxI n ns := by
          rcases List.mem_cons.mp hm with rfl | hm
          · exact h2
          · exact h3 m hm
        have g2 : maxI n ns ≤ m := hy _ (by rcases h1 with h | h <;> simp [h])
        omega
      rw [em]
      exact ok_p p rfl
    · exact p.elim
  · exact p.elim
theorem ok_min {K : PySem.W.Frag} : CallOk (rMin K) opMin := by
  intro mg W σ A ds vs H Q dm hv p
  unfold opMin at p
  split at p
  · obtain ⟨v, r, rfl, h, rfl⟩ := hv
    obtain ⟨a, ws, rfl, r, l⟩ := h
    split at p
    · rename_i n ns e
      have := intsD_v e l
      subst this
      obtain ⟨h1, h2, h3⟩ := minI_spec ns n
      refine ⟨a, _, rfl, SqL.of r, by simp, fun m hm hy => ?_⟩
      have em : m = minI n ns := by
        have g1 : minI n ns ≤ m := by
          rcases List.mem_cons.mp hm with rfl | hm
          · exact h2
          · exact h3 m hm
        have g2 : m ≤ minI n ns := hy _ (by rcases h1 with h | h <;> simp [h])
        omega
      rw [em]
      exact ok_p p rfl
    · exact p.elim
  · exact p.elim
end DS
set_option Elab.async false
set_option linter.all false
set_option maxRecDepth 100000
set_option maxHeartbeats 2000000
namespace DS
open PySem L2
variable {F : Fr} {X : Cx} {W : WX} {a b c e : Expr} {fa fb fc : EF} {pos : Pos}

/-! ### in, not in -/
def fV : D → Option V
  | .non => some .non
  | .bl b => some (.bl b)
  | .int i => some (.int i)
  | .str s => some (.str s)
  | _ => none
def fVs : List D → Option (List V)
  | [] => some []
  | d :: ds => match fV d, fVs ds with
    | some v, some vs => some (v :: vs)
    | _, _ => none
theorem fV_v {H : Hp} {A : Addr → Prop} {d : D} {v u : V} (e : fV d = some u) (h : HoldsB H A d v) : v = u ∧ flatV v = true := by
  unfold fV at e
  split at e
  · cases e; cases h; exact ⟨rfl, rfl⟩
  · cases e; cases h; exact ⟨rfl, rfl⟩
  · cases e; cases h; exact ⟨rfl, rfl⟩
  · cases e; cases h; exact ⟨rfl, rfl⟩
  · cases e
theorem fVs_v {H : Hp} {A : Addr → Prop} : ∀ {ds : List D} {vs us : List V}, fVs ds = some us → HoldsL H A ds vs → vs = us ∧ vs.all flatV = true
  | [], vs, us, e, h => by simp [fVs] at e; subst e; cases h; exact ⟨rfl, rfl⟩
  | d :: ds, vs, us, e, h => by
    simp only [fVs] at e
    split at e
    · rename_i v ws e1 e2
      cases e
      obtain ⟨w, r, rfl, h1, h2⟩ := h
      obtain ⟨rfl, f1⟩ := fV_v e1 (Holds.b h1)
      obtain ⟨rfl, f2⟩ := fVs_v e2 h2
      exact ⟨rfl, by rw [List.all_cons, f1, f2]; rfl⟩
    · cases e
def inStr (x z : Str) : Bool := match x.cps.toList with
  | [c] => decide (c ∈ z.cps.toList)
  | _ => !(Builtin.Str.occurrences z x 0 z.length 1).isEmpty
def inD : D → D → Option Bool
  | x, .lst ys => match fV x, fVs ys with
    | some v, some vs => some (inV v vs)
    | _, _ => none
  | x, .tup ys => match fV x, fVs ys with
    | some v, some vs => some (inV v vs)
    | _, _ => none
  | .str x, .str z => some (inStr x z)
  | x, .dk kvs => match keyD x with
    | some k => some (valD kvs k).isSome
    | none => none
  | _, _ => none
def opIn (neg : Bool) (x y : D) : R D := match inD x y with
  | some b => .ok (.bl (if neg then !b else b))
  | none => .no
def rStrIn (neg : Bool) : R2 := fun x y H Q => (∃ (c : Nat) (z : Str), x = .str ⟨#[c]⟩ ∧ y = .str z ∧ Q (.bl (if neg then !decide (c ∈ z.cps.toList) else decide (c ∈ z.cps.toList))) H) ∨
  (∃ i j, x = .str i ∧ y = .str j ∧ Q (.bl (if neg then !(!(Builtin.Str.occurrences j i 0 j.length 1).isEmpty) else !(Builtin.Str.occurrences j i 0 j.length 1).isEmpty)) H)
theorem or_inS : OpR X (compareOp .In) (rStrIn false) := L2.op_in_sign.or L2.op_in_str
theorem or_ninS : OpR X (compareOp .NotIn) (rStrIn true) := L2.op_notIn_sign.or L2.op_notin_str
def rInA (K : PySem.W.Frag) (neg : Bool) : R2 := fun x y H Q => rIn K neg x y H Q ∨ rStrIn neg x y H Q
theorem or_in : OpR X (compareOp .In) (rInA X.K false) := op_in_seq.or or_inS
theorem or_nin : OpR X (compareOp .NotIn) (rInA X.K true) := op_notIn_seq.or or_ninS
/-- in a list, a tuple, a text -/
theorem ok_in {K : PySem.W.Frag} {neg : Bool} {mg : Str → Option Value} {σ : St} {A : Addr → Prop} {d e : D} {v w : V} {H : Hp} {Q : VK} (h1 : HoldsB H A d v) (h2 : HoldsB H A e w) (nd : isDk e = false)
    (p : Post false mg W σ A (opIn neg d e) H Q) : rInA K neg v w H Q := by
  unfold opIn at p
  cases q : inD d e with
  | none => rw [q] at p; exact p.elim
  | some b =>
    rw [q] at p
    dsimp only at p
    unfold inD at q
    split at q
    · obtain ⟨a, vs, rfl, r, l⟩ := h2
      split at q
      · rename_i e1 e2
        cases q
        obtain ⟨rfl, f1⟩ := fV_v e1 h1
        obtain ⟨rfl, f2⟩ := fVs_v e2 l
        exact .inl ⟨a, _, rfl, .inl (SqL.of r), f1, f2, ok_p p rfl⟩
      · cases q
    · obtain ⟨a, vs, rfl, na, r, l⟩ := h2
      split at q
      · rename_i e1 e2
        cases q
        obtain ⟨rfl, f1⟩ := fV_v e1 h1
        obtain ⟨rfl, f2⟩ := fVs_v e2 l
        exact .inl ⟨a, _, rfl, .inr (SqT.of r), f1, f2, ok_p p rfl⟩
      · cases q
    · cases h1
      cases h2
      cases q
      rename_i x z
      cases hx : x.cps.toList with
      | nil =>
        unfold inStr at p
        rw [hx] at p
        exact .inr (.inr ⟨_, _, rfl, rfl, ok_p p (by cases neg <;> rfl)⟩)
      | cons c r =>
        cases r with
        | cons c2 r2 =>
          unfold inStr at p
          rw [hx] at p
          exact .inr (.inr ⟨_, _, rfl, rfl, ok_p p (by cases neg <;> rfl)⟩)
        | nil =>
          unfold inStr at p
          rw [hx] at p
          refine .inr (.inl ⟨c, z, ?_, rfl, ok_p p (by cases neg <;> rfl)⟩)
          obtain ⟨cps⟩ := x
          obtain ⟨l⟩ := cps
          cases hx
          rfl
    · cases nd
    · cases q
theorem in_read {neg : Bool} {mg : Str → Option Value} {K : PySem.W.Frag} {σ : St} {H : Hp} {Q : VK} {sd : SD} (rel : Rel F σ H sd) (p : Post false mg W σ (Av F σ sd) (eBin (opIn neg) fa fb sd) H Q) :
    tOp (rInA K neg) (TEx true F mg W fa) (TEx true F mg W fb) σ H Q ∨ TEx true F mg W fa σ H (fun y H1 => TEx true F mg W fb σ H1 fun x H2 => ∃ a o, x = .ref a ∧ DGet H2 a y o ∧ Q (.bl (if neg then !o.isSome else o.isSome)) H2) := by
  unfold eBin at p
  by_cases hd : ∃ kvs, fb sd = .ok (.dk kvs)
  · obtain ⟨kvs, hd⟩ := hd
    refine .inr (te2s rel p fun d e q1 q2 v w H2 dm h1 h2 p2 => ?_)
    rw [hd] at q2
    cases q2
    obtain ⟨a, ws, rfl, r, l⟩ := h2
    unfold opIn inD at p2
    cases q : keyD d with
    | none =>
      cases d <;> (first | (simp only [q] at p2; exact p2.elim) | (cases q))
    | some k =>
      have p3 : Post false mg W σ (Av F σ sd) (.ok (.bl (if neg then !(valD kvs k).isSome else (valD kvs k).isSome))) H2 Q := by
        cases d <;> (first | (simp only [q] at p2; exact p2) | (cases q))
      have := keyD_v h1 q
      subst this
      refine ⟨a, valV ws k, rfl, .inl ⟨ws, k, r, rfl, rfl⟩, ?_⟩
      have e : (valV ws k).isSome = (valD kvs k).isSome := by
        rcases l.val k with ⟨e1, e2⟩ | ⟨d, v, e1, e2, _⟩ <;> rw [e1, e2] <;> rfl
      rw [e]
      exact ok_p p3 rfl
  · refine .inl (te2s rel p fun d e q1 q2 v w H2 dm h1 h2 p2 => ok_in h1 h2 ?_ p2)
    cases e <;> first | rfl | exact (hd ⟨_, q2⟩).elim
theorem de_in (hu : X.A.units + 64 < cLine) (ha : DB F X W a fa) (hb : DB F X W b fb) (hm : behindInMarks .In b = false) : DE F X W (.Compare a [.In] [b] pos) (eBin (opIn false) fa fb) :=
  ⟨PE.weak (PE.or (pe_cmpR or_in ha.pe hb.pe hm) (pe_cmp (pc_din (by omega) ha.pe hb.pe) hm)) fun σ H Q ⟨sd, rel, p⟩ => in_read rel p⟩
theorem de_nin (hu : X.A.units + 64 < cLine) (ha : DB F X W a fa) (hb : DB F X W b fb) (hm : behindInMarks .NotIn b = false) : DE F X W (.Compare a [.NotIn] [b] pos) (eBin (opIn true) fa fb) :=
  ⟨PE.weak (PE.or (pe_cmpR or_nin ha.pe hb.pe hm) (pe_cmp (pc_dnotin (by omega) ha.pe hb.pe) hm)) fun σ H Q ⟨sd, rel, p⟩ => in_read (neg := true) rel p⟩

/-! ### tests -/
abbrev TF := SD → R Bool
def PostT (mg : Str → Option Value) (W : WX) (σ : St) (A : Addr → Prop) (r : R Bool) (H : Hp) (Q : Bool → Hp → Prop) : Prop := match r with
  | .ok b => ∀ H', Same H H' → Q b H'
  | .ex c fs => ∀ cls da H', Same H H' → ExRep mg H' A c fs cls da → W cls da σ H'
  | .no => False
theorem PostT.mono {mg : Str → Option Value} {σ : St} {A : Addr → Prop} {r : R Bool} {H H' : Hp} {Q : Bool → Hp → Prop} (s : Same H H') (p : PostT mg W σ A r H Q) : PostT mg W σ A r H' Q := by
  cases r with
  | ok d => exact fun H2 s2 => p H2 (s.trans s2)
  | ex c fs => exact fun cls da H2 s2 h => p cls da H2 (s.trans s2) h
  | no => exact p
def TTx (F : Fr) (mg : Str → Option Value) (W : WX) (f : TF) : TT := fun σ H Q => ∃ sd, Rel F σ H sd ∧ PostT mg W σ (Av F σ sd) (f sd) H Q
structure DT (F : Fr) (X : Cx) (W : WX) (e : Expr) (f : TF) : Prop where
  pt : PT X e (TTx F X.mg W f)
structure DW (F : Fr) (X : Cx) (W : WX) (e : Expr) (f : TF) : Prop where
  pw : PW X e (TTx F X.mg W f)
def asB : D → R Bool
  | .bl b => .ok b
  | _ => .no
theorem post_of_t {bb : Bool} {mg : Str → Option Value} {σ : St} {A : Addr → Prop} {r : R D} {H : Hp} {Q : Bool → Hp → Prop} (p : PostT mg W σ A (r.bind asB) H Q) : Post bb mg W σ A r H (fun x H' => ∃ k, x = .bl k ∧ Q k H') := by
  cases r with
  | no => exact p
  | ex c fs => exact p
  | ok d =>
    intro v H' s h
    rw [R.bind_ok] at p
    cases d with
    | bl b' =>
      refine ⟨b', ?_, p H' s⟩
      cases bb
      · exact h
      · exact h
    | _ => exact p.elim
def tVal (f : EF) : TF := fun s => (f s).bind asB
theorem dt_cmp {o : CmpOp} {r : R2} {op : D → D → R D} (ho : OpR X (compareOp o) r) (hk : OpOk r op) (ha : DB F X W a fa) (hb : DB F X W b fb) (hm : behindInMarks o b = false) : DT F X W (.Compare a [o] [b] pos) (tVal (eBin op fa fb)) :=
  ⟨PT.weak (pt_cmpR ho ha.pe hb.pe hm) fun σ H Q ⟨sd, rel, p⟩ => te2s (b' := false) rel (post_of_t p) fun d e q1 q2 v w H2 dm h1 h2 p2 => hk X.mg W σ _ d e v w H2 _ dm h1 h2 p2⟩
theorem dt_in (hu : X.A.units + 64 < cLine) (ha : DB F X W a fa) (hb : DB F X W b fb) (hm : behindInMarks .In b = false) : DT F X W (.Compare a [.In] [b] pos) (tVal (eBin (opIn false) fa fb)) :=
  ⟨PT.weak (PT.or (pt_cmpR or_in ha.pe hb.pe hm) (pt_cmp (pc_din (by omega) ha.pe hb.pe) hm)) fun σ H Q ⟨sd, rel, p⟩ => in_read rel (post_of_t p)⟩
theorem dt_nin (hu : X.A.units + 64 < cLine) (ha : DB F X W a fa) (hb : DB F X W b fb) (hm : behindInMarks .NotIn b = false) : DT F X W (.Compare a [.NotIn] [b] pos) (tVal (eBin (opIn true) fa fb)) :=
  ⟨PT.weak (PT.or (pt_cmpR or_nin ha.pe hb.pe hm) (pt_cmp (pc_dnotin (by omega) ha.pe hb.pe) hm)) fun σ H Q ⟨sd, rel, p⟩ => in_read (neg := true) rel (post_of_t p)⟩
/-- a value that is True or False -/
theorem dt_val {bb : Bool} (h : DX bb F X W e fa) (he : ∀ whole, isTrue e X.env whole = (do let v ← whole; standAt e.pos; holding [v] (truthy v)) := by intro _; rfl) : DT F X W e (tVal fa) :=
  ⟨PT.weak (pt_val h.pe he) fun σ H Q ⟨sd, rel, p⟩ => ⟨sd, rel, post_of_t p⟩⟩
theorem ne0_cast (n : Nat) : (n != 0) = ((n : Int) != 0) := by
  cases n with
  | zero => rfl
  | succ n =>
    have h1 : ((n + 1 : Nat) != 0) = true := by simp
    have h2 : (((n + 1 : Nat) : Int) != 0) = true := by simp; omega
    rw [h1, h2]
/-- any value, by truth -/
def tru : D → R Bool
  | .non => .ok false
  | .bl b => .ok b
  | .int i => .ok (i != 0)
  | .str s => if s.length ≤ sizeLine then .ok (s.length != 0) else .no
  | .lst xs => .ok (!xs.isEmpty)
  | .tup xs => .ok (!xs.isEmpty)
  | _ => .no
def tTru (f : EF) : TF := fun s => (f s).bind tru
theorem dt_truth (h : DB F X W a fa) (he : ∀ whole, isTrue a X.env whole = (do let v ← whole; standAt a.pos; holding [v] (truthy v)) := by intro _; rfl) : DT F X W a (tTru fa) :=
  ⟨PT.weak (pt_truth h.pe he) fun σ H Q ⟨sd, rel, p⟩ => ⟨sd, rel, by
    unfold tTru at p
    cases q : fa sd with
    | no => rw [q] at p; exact p
    | ex c fs => rw [q] at p; exact p
    | ok d =>
      rw [q, R.bind_ok] at p
      intro v H' s hv
      have hv : HoldsB H' _ d v := hv
      unfold tru at p
      split at p
      · cases hv; exact ⟨_, rfl, p H' s⟩
      · cases hv; exact ⟨_, rfl, p H' s⟩
      · cases hv; exact ⟨_, rfl, p H' s⟩
      · cases hv
        split at p
        · rename_i hl
          exact ⟨_, ⟨hl, ne0_cast _⟩, p H' s⟩
        · exact p.elim
      · obtain ⟨a, vs, rfl, r, l⟩ := hv
        rename_i xs
        refine ⟨_, .inl ⟨vs, SqL.of r, ?_⟩, p H' s⟩
        have := l.length
        cases xs <;> cases vs <;> first | rfl | simp at this
      · obtain ⟨a, vs, rfl, na, r, l⟩ := hv
        rename_i xs
        refine ⟨_, .inr (.inl ⟨vs, SqT.of r, ?_⟩), p H' s⟩
        have := l.length
        cases xs <;> cases vs <;> first | rfl | simp at this
      · exact p.elim⟩⟩
def tNotF (f : TF) : TF := fun s => (f s).bind fun b => .ok (!b)
def tAndF (f g : TF) : TF := fun s => (f s).bind fun b => if b = true then g s else .ok false
def tOrF (f g : TF) : TF := fun s => (f s).bind fun b => if b = true then .ok true else g s
variable {ta tb : TF} {rest : List Expr}
theorem dt_w (h : DW F X W e ta) : DT F X W e ta := ⟨h.pw.pt⟩
theorem dt_not (h : DT F X W a ta) : DT F X W (.UnaryOp .Not a pos) (tNotF ta) := ⟨PT.weak (pt_not h.pt) fun σ H Q ⟨sd, rel, p⟩ => ⟨sd, rel, by
  unfold tNotF at p
  cases q : ta sd with
  | no => rw [q] at p; exact p
  | ex c fs => rw [q] at p; exact p
  | ok b => rw [q] at p; exact p⟩⟩
theorem PW.weak {X : Cx} {e : Expr} {t t' : TT} (h : PW X e t) (k : ∀ σ H Q, t' σ H Q → t σ H Q) : PW X e t' := ⟨fun wh pins s σ H Q I q => h.run wh pins s σ H Q I (k _ _ _ q)⟩
theorem dw_and1 (h : DT F X W a ta) : DW F X W (.BoolOp .And [a] pos) ta := ⟨pw_and1 h.pt⟩
theorem dw_or1 (h : DT F X W a ta) : DW F X W (.BoolOp .Or [a] pos) ta := ⟨pw_or1 h.pt⟩
theorem dw_and (h : DT F X W a ta) (k : DW F X W (.BoolOp .And (b :: rest) pos) tb) : DW F X W (.BoolOp .And (a :: b :: rest) pos) (tAndF ta tb) := ⟨PW.weak (pw_and h.pt k.pw) fun σ H Q ⟨sd, rel, p⟩ => ⟨sd, rel, by
  unfold tAndF at p
  cases q : ta sd with
  | no => rw [q] at p; exact p
  | ex c fs => rw [q] at p; exact p
  | ok b =>
    rw [q, R.bind_ok] at p
    intro H' s
    cases b with
    | true => rw [if_pos rfl] at p ⊢; exact ⟨sd, rel.mono s, p.mono s⟩
    | false => rw [if_neg Bool.false_ne_true] at p ⊢; exact p H' s⟩⟩
theorem dw_or (h : DT F X W a ta) (k : DW F X W (.BoolOp .Or (b :: rest) pos) tb) : DW F X W (.BoolOp .Or (a :: b :: rest) pos) (tOrF ta tb) := ⟨PW.weak (pw_or h.pt k.pw) fun σ H Q ⟨sd, rel, p⟩ => ⟨sd, rel, by
  unfold tOrF at p
  cases q : ta sd with
  | no => rw [q] at p; exact p
  | ex c fs => rw [q] at p; exact p
  | ok b =>
    rw [q, R.bind_ok] at p
    intro H' s
    cases b with
    | true => rw [if_pos rfl] at p ⊢; exact p H' s
    | false => rw [if_neg Bool.false_ne_true] at p ⊢; exact ⟨sd, rel.mono s, p.mono s⟩⟩⟩
/-! ### and, or, not, if .. else as values -/
def eAnd (f g : EF) : EF := fun s => (f s).bind fun d => (asB d).bind fun b => if b = true then g s else .ok (.bl false)
def eOr (f g : EF) : EF := fun s => (f s).bind fun d => (asB d).bind fun b => if b = true then .ok (.bl true) else g s
def eNot (f : EF) : EF := fun s => (f s).bind fun d => (asB d).bind fun b => .ok (.bl (!b))
def eIf (t : TF) (f g : EF) : EF := fun s => (t s).bind fun b => if b = true then f s else g s
theorem asB_ok {d : D} {v : V} {H : Hp} {A : Addr → Prop} (h : Holds H A d v) : (∃ b, d = .bl b ∧ v = .bl b) ∨ asB d = .no := by
  cases d with
  | bl b => cases h; exact .inl ⟨b, rfl, rfl⟩
  | _ => exact .inr rfl
theorem de_one {o : BoolOp} (h : DE F X W a fa) : DE F X W (.BoolOp o [a] pos) fa := ⟨pe_one h.pe⟩
theorem de_and (h : DE F X W a fa) (k : DE F X W (.BoolOp .And (b :: rest) pos) fb) : DE F X W (.BoolOp .And (a :: b :: rest) pos) (eAnd fa fb) := ⟨PE.weak (pe_and h.pe k.pe) fun σ H Q ⟨sd, rel, p⟩ => ⟨sd, rel, by
  unfold eAnd at p
  cases q : fa sd with
  | no => rw [q] at p; exact p
  | ex c fs => rw [q] at p; exact p
  | ok d =>
    rw [q, R.bind_ok] at p
    intro v H' s hv
    rcases asB_ok (show Holds H' _ d v from hv) with ⟨b, rfl, rfl⟩ | e
    · refine ⟨b, rfl, ?_⟩
      simp only [asB, R.bind_ok] at p
      cases b with
      | true => rw [if_pos rfl] at p ⊢; exact ⟨sd, rel.mono s, p.mono s⟩
      | false => rw [if_neg Bool.false_ne_true] at p ⊢; exact p _ H' s rfl
    · rw [e] at p; exact p.elim⟩⟩
theorem de_or (h : DE F X W a fa) (k : DE F X W (.BoolOp .Or (b :: rest) pos) fb) : DE F X W (.BoolOp .Or (a :: b :: rest) pos) (eOr fa fb) := ⟨PE.weak (pe_or h.pe k.pe) fun σ H Q ⟨sd, rel, p⟩ => ⟨sd, rel, by
  unfold eOr at p
  cases q : fa sd with
  | no => rw [q] at p; exact p
  | ex c fs => rw [q] at p; exact p
  | ok d =>
    rw [q, R.bind_ok] at p
    intro v H' s hv
    rcases asB_ok (show Holds H' _ d v from hv) with ⟨b, rfl, rfl⟩ | e
    · refine ⟨b, rfl, ?_⟩
      simp only [asB, R.bind_ok] at p
      cases b with
      | true => rw [if_pos rfl] at p ⊢; exact p _ H' s rfl
      | false => rw [if_neg Bool.false_ne_true] at p ⊢; exact ⟨sd, rel.mono s, p.mono s⟩
    · rw [e] at p; exact p.elim⟩⟩
theorem de_not (h : DE F X W a fa) : DE F X W (.UnaryOp .Not a pos) (eNot fa) := ⟨PE.weak (pe_not h.pe) fun σ H Q ⟨sd, rel, p⟩ => ⟨sd, rel, by
  unfold eNot at p
  cases q : fa sd with
  | no => rw [q] at p; exact p
  | ex c fs => rw [q] at p; exact p
  | ok d =>
    rw [q, R.bind_ok] at p
    intro v H' s hv
    rcases asB_ok (show Holds H' _ d v from hv) with ⟨b, rfl, rfl⟩ | e
    · exact ⟨b, rfl, p _ H' s rfl⟩
    · rw [e] at p; exact p.elim⟩⟩
theorem de_ifExp {bb : Bool} (h : DT F X W c ta) (ha : DX bb F X W a fa) (hb : DX bb F X W b fb) : DX bb F X W (.IfExp c a b pos) (eIf ta fa fb) := ⟨PE.weak (pe_ifExp h.pt ha.pe hb.pe) fun σ H Q ⟨sd, rel, p⟩ => ⟨sd, rel, by
  unfold eIf at p
  cases q : ta sd with
  | no => rw [q] at p; exact p
  | ex c fs => rw [q] at p; exact p
  | ok b =>
    rw [q, R.bind_ok] at p
    intro H' s
    cases b with
    | true => rw [if_pos rfl] at p ⊢; exact ⟨sd, rel.mono s, p.mono s⟩
    | false => rw [if_neg Bool.false_ne_true] at p ⊢; exact ⟨sd, rel.mono s, p.mono s⟩⟩⟩
end DS
set_option Elab.async false
set_option linter.all false
set_option maxRecDepth 100000
set_option maxHeartbeats 2000000
namespace DS
open PySem L2
variable {F : Fr} {X : Cx} {W : WX} {a b c e : Expr} {fa fb fc : EF} {pos : Pos}

inductive ND where
  | nl (ds : List D) | nd (kvs : List (L2.Key × D))
def ND.sl : ND → Sl
  | .nl ds => .ol ds
  | .nd kvs => .od kvs
def ND.d : ND → D
  | .nl ds => .lst ds
  | .nd kvs => .dk kvs
instance : Inhabited ND := ⟨.nl []⟩
inductive SO where
  | nx (s : SD) | rt (d : D) | rn (n : ND) | bk (s : SD) | ct (s : SD) | ex (c : Str) (fs : List (Str × D)) (s : SD) | no
  deriving Inhabited
abbrev SF := SD → SO
structure ExtS (σ : St) (sd : SD) (H : Hp) (σ' : St) (sd' : SD) (H' : Hp) : Prop where
  keep : ∀ b o, H b = some o → ¬ Own σ sd b → H' b = some o
  own : ∀ b, Own σ' sd' b → Own σ sd b ∨ H b = none
  dom : ∀ b, H b ≠ none → H' b ≠ none
theorem ExtS.refl {σ : St} {sd : SD} {H : Hp} : ExtS σ sd H σ sd H := ⟨fun _ _ h _ => h, fun _ h => .inl h, fun _ h => h⟩
theorem Same.dom {H H' : Hp} (s : Same H H') : ∀ b, H b ≠ none → H' b ≠ none := fun b h z => by
  cases q : H b with
  | none => exact h q
  | some o => rw [s _ _ q] at z; cases z
theorem ExtS.same {σ : St} {sd : SD} {H H' : Hp} {σ' : St} {sd' : SD} (s : Same H H') (h : ∀ b, Own σ' sd' b → Own σ sd b) : ExtS σ sd H σ' sd' H' := ⟨fun _ _ h _ => s _ _ h, fun b q => .inl (h b q), Same.dom s⟩
theorem ExtS.trans {σ σ1 σ2 : St} {sd sd1 sd2 : SD} {H H1 H2 : Hp} (a : ExtS σ sd H σ1 sd1 H1) (b : ExtS σ1 sd1 H1 σ2 sd2 H2) : ExtS σ sd H σ2 sd2 H2 where
  keep := fun c o h n => b.keep c o (a.keep c o h n) fun z => (a.own c z).elim n fun q => by rw [h] at q; cases q
  own := fun c h => (b.own c h).elim (a.own c) fun q => .inr (by
    cases w : H c with
    | none => rfl
    | some o => exact absurd q (a.dom c (by rw [w]; simp)))
  dom := fun c h => b.dom c (a.dom c h)
theorem ExtS.up {σ σ1 : St} {sd sd1 : SD} {H H1 : Hp} (a : ExtS σ sd H σ1 sd1 H1) : Up H (Av F σ sd) H1 (Av F σ1 sd1) :=
  Up.ofOff (fun b o h n => a.keep b o h fun z => n (.inr z)) fun b h => h.elim (fun z => .inl (.inl z)) fun z => (a.own b z).elim (fun q => .inl (.inr q)) .inr

def PostS (mg : Str → Option Value) (W : WX) (F : Fr) (σ : St) (sd : SD) (T : Ends) (r : SO) (H : Hp) : Prop := match r with
  | .nx s' => ∀ σ' H', Rel F σ' H' s' → ExtS σ sd H σ' s' H' → T.nx σ' H'
  | .rt d => ∀ v H', Same F.H0 H' → Holds H' F.B d v → T.rt v H'
  | .rn n => ∀ p H', Same F.H0 H' → F.H0 p = none → ¬ F.B p → (∀ F' : Fr, F'.H0 p = none → SlOk F' H' (fun a => F.B a ∨ a = p) (some (.ref p)) n.sl) → T.rt (.ref p) H'
  | .bk s' => ∀ σ' H', Rel F σ' H' s' → ExtS σ sd H σ' s' H' → T.bk σ' H'
  | .ct s' => ∀ σ' H', Rel F σ' H' s' → ExtS σ sd H σ' s' H' → T.ct σ' H'
  | .ex c fs s' => ∀ cls da σ' H', Rel F σ' H' s' → ExtS σ sd H σ' s' H' → ExRep mg H' F.B c fs cls da → W cls da σ' H'
  | .no => False
theorem PostS.ext {mg : Str → Option Value} {σ σ1 : St} {sd sd1 : SD} {T : Ends} {r : SO} {H H1 : Hp} (a : ExtS σ sd H σ1 sd1 H1) (p : PostS mg W F σ sd T r H) : PostS mg W F σ1 sd1 T r H1 := by
  cases r with
  | nx s' => exact fun σ' H' r e => p σ' H' r (a.trans e)
  | rt d => exact p
  | rn n => exact p
  | bk s' => exact fun σ' H' r e => p σ' H' r (a.trans e)
  | ct s' => exact fun σ' H' r e => p σ' H' r (a.trans e)
  | ex c fs s' => exact fun cls da σ' H' r e => p cls da σ' H' r (a.trans e)
  | no => exact p
def TSx (F : Fr) (mg : Str → Option Value) (W : WX) (f : SF) : TS := fun T σ H => ∃ sd, Rel F σ H sd ∧ PostS mg W F σ sd T (f sd) H
structure DX1 (F : Fr) (X : Cx) (W : WX) (st : Stmt) (f : SF) : Prop where
  ps : PS X st (TSx F X.mg W f)
structure DXs (F : Fr) (X : Cx) (W : WX) (st : List Stmt) (f : SF) : Prop where
  ps : PSs X st (TSx F X.mg W f)
def sSeq (f g : SF) : SF := fun s => match f s with
  | .nx s' => g s'
  | o => o
variable {st : Stmt} {sts : List Stmt} {f g : SF}
theorem ds_one (h : DX1 F X W st f) : DXs F X W [st] f := ⟨pss_one h.ps⟩
theorem ds_nil : DXs F X W [] .nx := ⟨PSs.weak pss_nil fun T σ H ⟨sd, rel, p⟩ => p σ H rel .refl⟩
theorem ds_cons (h : DX1 F X W st f) (k : DXs F X W sts g) : DXs F X W (st :: sts) (sSeq f g) := ⟨PSs.weak (pss_cons h.ps k.ps) fun T σ H ⟨sd, rel, p⟩ => ⟨sd, rel, by
  unfold sSeq at p
  cases q : f sd with
  | nx s' => rw [q] at p; exact fun σ' H' r e => ⟨s', r, PostS.ext e p⟩
  | rt d => rw [q] at p; exact p
  | rn n => rw [q] at p; exact p
  | bk s' => rw [q] at p; exact p
  | ct s' => rw [q] at p; exact p
  | ex c fs s' => rw [q] at p; exact p
  | no => rw [q] at p; exact p⟩⟩
theorem ds_never : DX1 F X W st (fun _ => .no) := ⟨PS.weak ps_never fun T σ H ⟨sd, rel, p⟩ => p⟩

/-! ### slots stored -/
section
variable {σ : St} {H : Hp} {sd : SD}
theorem ownAt_set {i j : Nat} {v : Option V} {s : Sl} {a : Addr} (hs : s.own = false) (h : OwnAt (σ.set i v) (sd.set i s) j a) (hl : σ.length = sd.length) : OwnAt σ sd j a ∧ (j ≠ i ∨ ¬ i < sd.length) := by
  obtain ⟨t, e, o, e2⟩ := h
  by_cases hj : i = j
  · subst hj
    by_cases hi : i < sd.length
    · rw [List.getElem?_set_self hi] at e
      cases e
      rw [hs] at o
      cases o
    · rw [List.set_eq_of_length_le (by omega)] at e
      rw [List.set_eq_of_length_le (by omega)] at e2
      exact ⟨⟨t, e, o, e2⟩, .inr hi⟩
  · rw [List.getElem?_set_ne hj] at e e2
    exact ⟨⟨t, e, o, e2⟩, .inl fun z => hj z.symm⟩
theorem own_set {i : Nat} {v : Option V} {s : Sl} {a : Addr} (hs : s.own = false) (hl : σ.length = sd.length) (h : Own (σ.set i v) (sd.set i s) a) : Own σ sd a := by
  obtain ⟨j, h⟩ := h
  exact ⟨j, (ownAt_set hs h hl).1⟩
theorem up_own {A' : Addr → Prop} {A : Addr → Prop} (h : ∀ a, A' a → A a) : Up H A H A' := Up.ofOff (fun _ _ h _ => h) fun a z => .inl (h a z)
theorem Holds.less {A A' : Addr → Prop} {d : D} {v : V} (h : Holds H A d v) (k : ∀ a, A' a → A a) : Holds H A' d v := Holds.up (up_own k) d h
theorem HoldsL.less {A A' : Addr → Prop} {d : List D} {v : List V} (h : HoldsL H A d v) (k : ∀ a, A' a → A a) : HoldsL H A' d v := HoldsL.up (up_own k) d h
theorem Rel.set (rel : Rel F σ H sd) (i : Nat) {d : D} {v : V} (h : Holds H (Av F σ sd) d v) : Rel F (σ.set i (some v)) H (sd.set i (.sh d)) := by
  have hown : ∀ a, Own (σ.set i (some v)) (sd.set i (.sh d)) a → Own σ sd a := fun a z => own_set rfl rel.len z
  have hav : ∀ a, Av F (σ.set i (some v)) (sd.set i (.sh d)) a → Av F σ sd a := fun a z => z.elim .inl fun z => .inr (hown a z)
  refine ⟨rel.same, by simp [rel.len], fun j s e => ?_, fun j k a h1 h2 => rel.inj j k a (ownAt_set rfl h1 rel.len).1 (ownAt_set rfl h2 rel.len).1, fun a z => rel.nb a (hown a z), rel.bdom⟩
  by_cases hj : i = j
  · subst hj
    by_cases hi : i < sd.length
    · rw [List.getElem?_set_self hi] at e
      cases e
      exact ⟨some v, List.getElem?_set_self (by rw [rel.len]; exact hi), v, rfl, h.less hav⟩
    · rw [List.getElem?_eq_none (by simpa using hi)] at e
      cases e
  · rw [List.getElem?_set_ne hj] at e
    obtain ⟨w, e2, q⟩ := rel.slot j s e
    exact ⟨w, by rw [List.getElem?_set_ne hj]; exact e2, q.up rel.same (up_own hav) fun a o _ _ q => q⟩
/-- a slot is let go of -/
theorem Rel.unset (rel : Rel F σ H sd) (i : Nat) (v : Option V) : Rel F (σ.set i v) H (sd.set i .un) := by
  have hown : ∀ a, Own (σ.set i v) (sd.set i .un) a → Own σ sd a := fun a z => own_set rfl rel.len z
  have hav : ∀ a, Av F (σ.set i v) (sd.set i .un) a → Av F σ sd a := fun a z => z.elim .inl fun z => .inr (hown a z)
  refine ⟨rel.same, by simp [rel.len], fun j s e => ?_, fun j k a h1 h2 => rel.inj j k a (ownAt_set rfl h1 rel.len).1 (ownAt_set rfl h2 rel.len).1, fun a z => rel.nb a (hown a z), rel.bdom⟩
  by_cases hj : i = j
  · subst hj
    by_cases hi : i < sd.length
    · rw [List.getElem?_set_self hi] at e
      cases e
      exact ⟨v, List.getElem?_set_self (by rw [rel.len]; exact hi), trivial⟩
    · rw [List.getElem?_eq_none (by simpa using hi)] at e
      cases e
  · rw [List.getElem?_set_ne hj] at e
    obtain ⟨w, e2, q⟩ := rel.slot j s e
    exact ⟨w, by rw [List.getElem?_set_ne hj]; exact e2, q.up rel.same (up_own hav) fun a o _ _ q => q⟩
/-- what is one's own is shared from now on -/
def frz : Sl → Sl
  | .ol ds => .sh (.lst ds)
  | .od kvs => .sh (.dk kvs)
  | .oi C fs => .sh (.ins C fs)
  | s => s
def fz (i : Nat) (sd : SD) : SD := match sd[i]? with
  | some s => sd.set i (frz s)
  | none => sd
theorem Rel.fz (rel : Rel F σ H sd) (i : Nat) : Rel F σ H (fz i sd) ∧ ∀ a, Own σ (fz i sd) a → Own σ sd a := by
  unfold DS.fz
  cases q : sd[i]? with
  | none => exact ⟨rel, fun a h => h⟩
  | some s =>
    dsimp only
    have hi : i < sd.length := (List.getElem?_eq_some_iff.mp q).1
    have hat : ∀ j a, OwnAt σ (sd.set i (frz s)) j a → OwnAt σ sd j a ∧ j ≠ i := fun j a ⟨t, e, o, e2⟩ => by
      by_cases hj : i = j
      · subst hj
        rw [List.getElem?_set_self hi] at e
        cases e
        cases s <;> cases o
      · rw [List.getElem?_set_ne hj] at e
        exact ⟨⟨t, e, o, e2⟩, fun z => hj z.symm⟩
    have hown : ∀ a, Own σ (sd.set i (frz s)) a → Own σ sd a := fun a ⟨j, h⟩ => ⟨j, (hat j a h).1⟩
    have hav : ∀ a, Av F σ (sd.set i (frz s)) a → Av F σ sd a := fun a z => z.elim .inl fun z => .inr (hown a z)
    refine ⟨⟨rel.same, by simp [rel.len], fun j t e => ?_, fun j k a h1 h2 => rel.inj j k a (hat j a h1).1 (hat k a h2).1, fun a z => rel.nb a (hown a z), rel.bdom⟩, hown⟩
    by_cases hj : i = j
    · subst hj
      rw [List.getElem?_set_self hi] at e
      cases e
      obtain ⟨w, e2, h⟩ := rel.slot i s q
      refine ⟨w, e2, ?_⟩
      have nav : ∀ a, w = some (.ref a) → s.own = true → ¬ Av F σ (sd.set i (frz s)) a := fun a ew o z => by
        subst ew
        rcases z with z | ⟨j, z⟩
        · exact rel.nb a ⟨i, s, q, o, e2⟩ z
        · exact (hat j a z).2 (rel.inj j i a (hat j a z).1 ⟨s, q, o, e2⟩)
      cases s with
      | un => exact h
      | xc => exact h
      | sh d => obtain ⟨x, e, h⟩ := h; exact ⟨x, e, h.less hav⟩
      | ol ds => obtain ⟨a, vs, e, n, r, l⟩ := h; exact ⟨_, e, a, vs, rfl, nav a e rfl, r, l.less hav⟩
      | od ds => obtain ⟨a, vs, e, n, r, l⟩ := h; exact ⟨_, e, a, vs, rfl, nav a e rfl, .inl r, HoldsK.up (up_own hav) _ l⟩
      | oi C ds => obtain ⟨a, dx, vs, e, n, r, l⟩ := h; exact ⟨_, e, a, dx, vs, rfl, nav a e rfl, r, HoldsF.up (up_own hav) _ l⟩
      | bw d => obtain ⟨x, e, h⟩ := h; exact ⟨x, e, HoldsB.less (fun a _ n z => n (hav a z)) h⟩
    · rw [List.getElem?_set_ne hj] at e
      obtain ⟨w, e2, h⟩ := rel.slot j t e
      exact ⟨w, e2, h.up rel.same (up_own hav) fun a o _ _ q => q⟩
/-- a new object, one's own -/
theorem Rel.setO {H' : Hp} (rel : Rel F σ H sd) (i : Nat) {s : Sl} {p : Addr} (hs : s.own = true) (hn : H p = none) (s1 : Same H H') (hp : H' p ≠ none) (h : SlOk F H' (fun a => Av F σ sd a ∨ a = p) (some (.ref p)) s) :
    Rel F (σ.set i (some (.ref p))) H' (sd.set i s) ∧ ∀ a, Own (σ.set i (some (.ref p))) (sd.set i s) a → Own σ sd a ∨ a = p := by
  have hb : ¬ Av F σ sd p := fun z => rel.dom z hn
  have hat : ∀ j a, OwnAt (σ.set i (some (.ref p))) (sd.set i s) j a → (OwnAt σ sd j a ∧ j ≠ i) ∨ (j = i ∧ a = p) ∨ (OwnAt σ sd j a ∧ ¬ i < sd.length) := fun j a ⟨t, e, o, e2⟩ => by
    by_cases hj : i = j
    · subst hj
      by_cases hi : i < sd.length
      · rw [List.getElem?_set_self (by rw [rel.len]; exact hi)] at e2
        cases e2
        exact .inr (.inl ⟨rfl, rfl⟩)
      · rw [List.set_eq_of_length_le (by omega)] at e
        rw [List.set_eq_of_length_le (by have := rel.len; omega)] at e2
        exact .inr (.inr ⟨⟨t, e, o, e2⟩, hi⟩)
    · rw [List.getElem?_set_ne hj] at e e2
      exact .inl ⟨⟨t, e, o, e2⟩, fun z => hj z.symm⟩
  have hown : ∀ a, Own (σ.set i (some (.ref p))) (sd.set i s) a → Own σ sd a ∨ a = p := fun a ⟨j, z⟩ => by
    rcases hat j a z with z | z | z
    · exact .inl ⟨j, z.1⟩
    · exact .inr z.2
    · exact .inl ⟨j, z.1⟩
  have hav : ∀ a, Av F (σ.set i (some (.ref p))) (sd.set i s) a → Av F σ sd a ∨ a = p := fun a z => z.elim (fun z => .inl (.inl z)) fun z => (hown a z).imp_left .inr
  have u : Up H (Av F σ sd) H' (Av F (σ.set i (some (.ref p))) (sd.set i s)) := Up.ofOff (fun b o h _ => s1 b o h) fun b z => (hav b z).imp_right fun z => by rw [z]; exact hn
  refine ⟨⟨rel.same.trans s1, by simp [rel.len], fun j t e => ?_, fun j k a h1 h2 => ?_, fun a z => ?_, fun a z => Same.dom s1 a (rel.bdom a z)⟩, hown⟩
  · by_cases hj : i = j
    · subst hj
      by_cases hi : i < sd.length
      · rw [List.getElem?_set_self hi] at e
        cases e
        exact ⟨_, List.getElem?_set_self (by rw [rel.len]; exact hi), h.up (rel.same.trans s1) (up_own hav) fun a o _ _ q => q⟩
      · rw [List.getElem?_eq_none (by simpa using hi)] at e
        cases e
    · rw [List.getElem?_set_ne hj] at e
      obtain ⟨w, e2, q⟩ := rel.slot j t e
      exact ⟨w, by rw [List.getElem?_set_ne hj]; exact e2, q.up rel.same u fun a o _ _ q => s1 _ _ q⟩
  · rcases hat j a h1 with z1 | z1 | z1 <;> rcases hat k a h2 with z2 | z2 | z2
    · exact rel.inj j k a z1.1 z2.1
    · exact absurd (show Av F σ sd p from .inr ⟨j, by rw [← z2.2]; exact z1.1⟩) hb
    · exact rel.inj j k a z1.1 z2.1
    · exact absurd (show Av F σ sd p from .inr ⟨k, by rw [← z1.2]; exact z2.1⟩) hb
    · rw [z1.1, z2.1]
    · exact absurd (show Av F σ sd p from .inr ⟨k, by rw [← z1.2]; exact z2.1⟩) hb
    · exact rel.inj j k a z1.1 z2.1
    · exact absurd (show Av F σ sd p from .inr ⟨j, by rw [← z2.2]; exact z1.1⟩) hb
    · exact rel.inj j k a z1.1 z2.1
  · rcases hown a z with z | z
    · exact rel.nb a z
    · rw [z]; exact fun q => hb (.inl q)
/-- one's own object at i is written -/
theorem Rel.write (rel : Rel F σ H sd) {i : Nat} {s s' : Sl} {p : Addr} {o : HO} (e : sd[i]? = some s) (hs : s.own = true) (hs' : s'.own = true) (ev : σ[i]? = some (some (.ref p)))
    (h : SlOk F (upd H p o) (Av F σ sd) (some (.ref p)) s') : Rel F σ (upd H p o) (sd.set i s') ∧ ExtS σ sd H σ (sd.set i s') (upd H p o) := by
  have hi : i < sd.length := (List.getElem?_eq_some_iff.mp e).1
  have op : OwnAt σ sd i p := ⟨s, e, hs, ev⟩
  have hat : ∀ j a, OwnAt σ (sd.set i s') j a → OwnAt σ sd j a := fun j a ⟨t, e1, o1, e2⟩ => by
    by_cases hj : i = j
    · subst hj
      rw [ev] at e2
      cases e2
      exact op
    · rw [List.getElem?_set_ne hj] at e1
      exact ⟨t, e1, o1, e2⟩
  have hown : ∀ a, Own σ (sd.set i s') a → Own σ sd a := fun a ⟨j, z⟩ => ⟨j, hat j a z⟩
  have hav : ∀ a, Av F σ (sd.set i s') a → Av F σ sd a := fun a z => z.elim .inl fun z => .inr (hown a z)
  have u : Up H (Av F σ sd) (upd H p o) (Av F σ (sd.set i s')) := Up.ofOff (fun b q h n => by rw [upd_ne (fun z => n (.inr ⟨i, by rw [z]; exact op⟩))]; exact h) fun b z => .inl (hav b z)
  have s0 : Same F.H0 (upd H p o) := fun b q h => by
    rw [upd_ne (fun z => by
      have := (rel.odom ⟨i, op⟩).2
      rw [z, this] at h
      cases h)]
    exact rel.same b q h
  refine ⟨⟨s0, by simp [rel.len], fun j t e1 => ?_, fun j k a h1 h2 => rel.inj j k a (hat j a h1) (hat k a h2), fun a z => rel.nb a (hown a z), fun a z q => ?_⟩, ⟨fun b q h n => by rw [upd_ne (fun z => n ⟨i, by rw [z]; exact op⟩)]; exact h, fun b z => .inl (hown b z), fun b h z => ?_⟩⟩
  · by_cases hj : i = j
    · subst hj
      rw [List.getElem?_set_self hi] at e1
      cases e1
      exact ⟨_, ev, h.up s0 (up_own hav) fun a o _ _ q => q⟩
    · rw [List.getElem?_set_ne hj] at e1
      obtain ⟨w, e2, q⟩ := rel.slot j t e1
      refine ⟨w, e2, q.up rel.same u fun a o1 o2 ew q => ?_⟩
      rw [upd_ne fun z => hj (rel.inj i j p op ⟨t, e1, o2, by rw [e2, ew, z]⟩)]
      exact q
  · by_cases hz : a = p
    · rw [hz, upd_same] at q; cases q
    · rw [upd_ne hz] at q
      exact rel.bdom a z q
  · by_cases hz : b = p
    · rw [hz, upd_same] at z; cases z
    · rw [upd_ne hz] at z
      exact h z
end
end DS
set_option Elab.async false
set_option linter.all false
set_option maxRecDepth 100000
set_option maxHeartbeats 2000000
namespace DS
open PySem L2
variable {F : Fr} {X : Cx} {W : WX} {a b c e : Expr} {fa fb fc : EF} {pos : Pos} {st : Stmt} {sts : List Stmt} {f g : SF}

/-! ### an expression, then a statement's end -/
theorem post_ex {bb : Bool} {mg : Str → Option Value} {σ : St} {H : Hp} {sd : SD} {c : Str} {fs : List (Str × D)} {T : Ends} (rel : Rel F σ H sd) (p : PostS mg W F σ sd T (.ex c fs sd) H) {Q : VK} : Post bb mg W σ (Av F σ sd) (.ex c fs) H Q :=
  fun cls da H' s h => p cls da σ H' (rel.mono s) (ExtS.same s fun _ z => z) (by
    rcases h with ⟨C, h1, h2, h3⟩ | h
    · refine .inl ⟨C, h1, h2, h3.imp_right fun ⟨d, ws, e1, e2, e3⟩ => ⟨d, ws, e1, e2, HoldsF.up (up_own fun a z => .inl z) _ e3⟩⟩
    · exact .inr h)
def sE (f : EF) (k : D → SD → SO) : SF := fun s => match f s with
  | .ok d => k d s
  | .ex c fs => .ex c fs s
  | .no => .no
theorem tsE {bb : Bool} {mg : Str → Option Value} {k : D → SD → SO} {σ : St} {H : Hp} {sd : SD} {T : Ends} {Q : VK} (rel : Rel F σ H sd) (p : PostS mg W F σ sd T (sE fa k sd) H)
    (hk : ∀ d v H', fa sd = .ok d → Same H H' → Rel F σ H' sd → (if bb = true then HoldsB H' (Av F σ sd) d v else Holds H' (Av F σ sd) d v) → PostS mg W F σ sd T (k d sd) H' → Q v H') : TEx bb F mg W fa σ H Q := by
  refine ⟨sd, rel, ?_⟩
  unfold sE at p
  cases q : fa sd with
  | no => rw [q] at p; exact p
  | ex c fs => rw [q] at p; exact post_ex rel p
  | ok d =>
    rw [q] at p
    intro v H' s h
    exact hk d v H' q s (rel.mono s) h (PostS.ext (ExtS.same s fun _ z => z) p)
theorem nxp {mg : Str → Option Value} {σ σ' : St} {H H' : Hp} {sd s' : SD} {T : Ends} (p : PostS mg W F σ sd T (.nx s') H) (r : Rel F σ' H' s') (e : ExtS σ sd H σ' s' H') : T.nx σ' H' := p σ' H' r e

def sExpr (f : EF) : SF := sE f fun _ s => .nx s
theorem ds_expr {bb : Bool} (h : DX bb F X W e fa) (hs : swapsWith e none pos.line X.env = pure false := by rfl) : DX1 F X W (.Expr e pos) (sExpr fa) :=
  ⟨PS.weak (ps_expr h.pe hs) fun T σ H ⟨sd, rel, p⟩ => tsE rel p fun d v H' q s r h p' => p' σ H' r (ExtS.same (Same.refl _) fun _ z => z)⟩
def sRet (f : EF) : SF := sE f fun d _ => .rt d
theorem ds_ret (h : DE F X W e fa) : DX1 F X W (.Return (some e) pos) (sRet fa) :=
  ⟨PS.weak (ps_ret h.pe) fun T σ H ⟨sd, rel, p⟩ => tsE (bb := false) rel p fun d v H' q s r h p' => p' v H' r.same (Holds.less h fun a z => .inl z)⟩
theorem ds_retN : DX1 F X W (.Return none pos) (fun _ => .rt .non) := ⟨PS.weak ps_retN fun T σ H ⟨sd, rel, p⟩ => p _ H rel.same rfl⟩
theorem ds_pass : DX1 F X W (.Pass pos) .nx := ⟨PS.weak ps_pass fun T σ H ⟨sd, rel, p⟩ => p σ H rel .refl⟩
theorem ds_break : DX1 F X W (.Break pos) .bk := ⟨PS.weak ps_break fun T σ H ⟨sd, rel, p⟩ => p σ H rel .refl⟩
theorem ds_continue : DX1 F X W (.Continue pos) .ct := ⟨PS.weak ps_continue fun T σ H ⟨sd, rel, p⟩ => p σ H rel .refl⟩
def sIf (t : TF) (f g : SF) : SF := fun s => match t s with
  | .ok true => f s
  | .ok false => g s
  | .ex c fs => .ex c fs s
  | .no => .no
variable {tt : TF}
theorem ds_if {l r : List Stmt} (h : DT F X W c tt) (hf : DXs F X W l f) (hg : DXs F X W r g) : DX1 F X W (.If c l r pos) (sIf tt f g) := ⟨PS.weak (ps_if h.pt hf.ps hg.ps) fun T σ H ⟨sd, rel, p⟩ => ⟨sd, rel, by
  unfold sIf at p
  cases q : tt sd with
  | no => rw [q] at p; exact p
  | ex c fs => rw [q] at p; exact fun cls da H' s h => post_ex (bb := false) (Q := fun _ _ => True) rel p cls da H' s h
  | ok b =>
    rw [q] at p
    intro H' s
    have e := ExtS.same (σ := σ) (sd := sd) (σ' := σ) (sd' := sd) s fun _ z => z
    cases b with
    | true => rw [if_pos rfl]; exact ⟨sd, rel.mono s, PostS.ext e p⟩
    | false => rw [if_neg Bool.false_ne_true]; exact ⟨sd, rel.mono s, PostS.ext e p⟩⟩⟩
def sSet (i : Nat) (f : EF) : SF := sE f fun d s => .nx (s.set i (.sh d))
theorem ds_set (i : Nat) {x : Str} {pos' : Pos} (hN : X.N.Nodup) (hi : X.N[i]? = some x) (hx : Loc X.env.scope x) (h : DE F X W e fa) (hs : swapsWith e (some (.Name x pos')) pos.line X.env = pure false := by rfl)
    (hf : X.fn x = true ∨ X.env.scope.names.lookup x = some .local := by first | exact .inl rfl | exact .inr rfl | assumption) : DX1 F X W (.Assign [.Name x pos'] e pos) (sSet i fa) :=
  ⟨PS.weak (ps_set (i := i) hN hi hx h.pe hs hf) fun T σ H ⟨sd, rel, p⟩ => tsE (bb := false) rel p fun d v H' q s r h p' =>
    p' _ H' (r.set i h) (ExtS.same (Same.refl _) fun b z => own_set rfl r.len z)⟩
/-- a ghost: slot i is shared from here on -/
theorem ds_fz (i : Nat) (h : DXs F X W sts f) : DXs F X W sts (fun s => f (fz i s)) := ⟨PSs.weak h.ps fun T σ H ⟨sd, rel, p⟩ =>
  ⟨fz i sd, (rel.fz i).1, PostS.ext (ExtS.same (Same.refl _) (rel.fz i).2) p⟩⟩
theorem ds_fz1 (i : Nat) (h : DX1 F X W st f) : DX1 F X W st (fun s => f (fz i s)) := ⟨PS.weak h.ps fun T σ H ⟨sd, rel, p⟩ =>
  ⟨fz i sd, (rel.fz i).1, PostS.ext (ExtS.same (Same.refl _) (rel.fz i).2) p⟩⟩

/-! ### new objects -/
abbrev NF := SD → R ND
def TNx (F : Fr) (mg : Str → Option Value) (W : WX) (f : NF) : TE := fun σ H Q => ∃ sd, Rel F σ H sd ∧ match f sd with
  | .ok n => ∀ p H', Same H H' → H p = none → H' p ≠ none → (∀ F' : Fr, F'.H0 p = none → SlOk F' H' (fun a => Av F σ sd a ∨ a = p) (some (.ref p)) n.sl) → Q (.ref p) H'
  | .ex c fs => ∀ cls da H', Same H H' → ExRep mg H' (Av F σ sd) c fs cls da → W cls da σ H'
  | .no => False
structure DN (F : Fr) (X : Cx) (W : WX) (e : Expr) (f : NF) : Prop where
  pe : PE X e (TNx F X.mg W f)
def eN (f : NF) : EF := fun s => (f s).bind fun n => .ok n.d
/-- a new object, shared at once -/
theorem DN.de {fn : NF} (h : DN F X W e fn) : DE F X W e (eN fn) := ⟨PE.weak h.pe fun σ H Q ⟨sd, rel, p⟩ => ⟨sd, rel, by
  unfold eN at p
  cases q : fn sd with
  | no => rw [q] at p; exact p
  | ex c fs => rw [q] at p; exact p
  | ok n =>
    rw [q, R.bind_ok] at p
    intro pa H' s hn hp h
    refine p _ H' s ?_
    have nav : ¬ Av F σ sd pa := fun z => rel.dom z hn
    have h := h ⟨fun _ => none, fun _ => False, 0⟩ rfl
    cases n with
    | nl ds => obtain ⟨a, vs, e, _, r, l⟩ := h; cases e; exact ⟨pa, vs, rfl, nav, r, l.less fun _ z => .inl z⟩
    | nd ds => obtain ⟨a, vs, e, _, r, l⟩ := h; cases e; exact ⟨pa, vs, rfl, nav, .inl r, HoldsK.up (up_own fun _ z => .inl z) _ l⟩⟩⟩
def sSetN (i : Nat) (f : NF) : SF := fun s => match f s with
  | .ok n => .nx (s.set i n.sl)
  | .ex c fs => .ex c fs s
  | .no => .no
theorem tsN {mg : Str → Option Value} {σ : St} {H : Hp} {sd : SD} {T : Ends} {fn : NF} {Q : VK} (i : Nat) (rel : Rel F σ H sd) (p : PostS mg W F σ sd T (sSetN i fn sd) H)
    (hk : ∀ pa H', T.nx (σ.set i (some (.ref pa))) H' → Q (.ref pa) H') : TNx F mg W fn σ H Q := by
  refine ⟨sd, rel, ?_⟩
  unfold sSetN at p
  cases q : fn sd with
  | no => rw [q] at p; exact p
  | ex c fs => rw [q] at p; exact fun cls da H' s h => post_ex (bb := false) (Q := fun _ _ => True) rel p cls da H' s h
  | ok n =>
    rw [q] at p
    intro pa H' s hn hp h
    have h0 : F.H0 pa = none := rel.same.free hn
    have ho : n.sl.own = true := by cases n <;> rfl
    obtain ⟨r2, own2⟩ := rel.setO i ho hn s hp (h F h0)
    exact hk pa H' (p _ H' r2 ⟨fun b o hb _ => s _ _ hb, fun b z => (own2 b z).imp_right fun z => by rw [z]; exact hn, Same.dom s⟩)
theorem ds_setN (i : Nat) {x : Str} {pos' : Pos} {fn : NF} (hN : X.N.Nodup) (hi : X.N[i]? = some x) (hx : Loc X.env.scope x) (h : DN F X W e fn) (hs : swapsWith e (some (.Name x pos')) pos.line X.env = pure false := by rfl)
    (hf : X.fn x = true ∨ X.env.scope.names.lookup x = some .local := by first | exact .inl rfl | exact .inr rfl | assumption) : DX1 F X W (.Assign [.Name x pos'] e pos) (sSetN i fn) :=
  ⟨PS.weak (ps_set (i := i) hN hi hx h.pe hs hf) fun T σ H ⟨sd, rel, p⟩ => tsN i rel p fun pa H' h => h⟩
def nLst : List D → R ND := fun ds => if ds.length ≤ sizeLine then .ok (.nl ds) else .no
def nAll (op : List D → R ND) (fs : List EF) : NF := fun s => (evalL fs s).bind op
variable {es : List Expr} {fs : List EF}
theorem tnas {b : Bool} {op : List D → R ND} {mg : Str → Option Value} {σ : St} {H : Hp} {Q : VK} {r : List V → Hp → Prop} {sd : SD} (rel : Rel F σ H sd)
    (p : match (evalL fs sd).bind op with
      | .ok n => ∀ p H', Same H H' → H p = none → H' p ≠ none → (∀ F' : Fr, F'.H0 p = none → SlOk F' H' (fun a => Av F σ sd a ∨ a = p) (some (.ref p)) n.sl) → Q (.ref p) H'
      | .ex c fs => ∀ cls da H', Same H H' → ExRep mg H' (Av F σ sd) c fs cls da → W cls da σ H'
      | .no => False)
    (hr : ∀ (ds : List D) (n : ND), evalL fs sd = .ok ds → op ds = .ok n → ∀ (vs : List V) (H2 : Hp), Same H H2 → Rel F σ H2 sd → HoldsXL b H2 (Av F σ sd) ds vs →
      (∀ p H', Same H2 H' → H2 p = none → H' p ≠ none → (∀ F' : Fr, F'.H0 p = none → SlOk F' H' (fun a => Av F σ sd a ∨ a = p) (some (.ref p)) n.sl) → Q (.ref p) H') → r vs H2)
    (hex : ∀ ds c fs', op ds ≠ .ex c fs') : TAx b F mg W (evalL fs) σ H r := by
  refine ⟨sd, rel, ?_⟩
  cases q : evalL fs sd with
  | ok ds =>
    rw [q, R.bind_ok] at p
    intro vs H2 s h
    cases q2 : op ds with
    | ok n =>
      rw [q2] at p
      exact hr ds n q q2 vs H2 s (rel.mono s) h fun pa H' s2 hn hp hh => p pa H' (s.trans s2) (s.free hn) hp hh
    | ex c fs' => exact absurd q2 (hex _ _ _)
    | no => rw [q2] at p; exact p.elim
  | ex c fs => rw [q] at p; exact p
  | no => rw [q] at p; exact p
theorem slok_lst {F' : Fr} {H : Hp} {A : Addr → Prop} {ds : List D} {vs : List V} {p : Addr} (h : HoldsL H A ds vs) (dm : ∀ a, A a → H a ≠ none) (hn : H p = none) (h0 : F'.H0 p = none) : SlOk F' (upd H p (.lst vs)) (fun a => A a ∨ a = p) (some (.ref p)) (.ol ds) :=
  ⟨p, vs, rfl, h0, upd_same, HoldsL.up (Up.ofOff (fun b o q _ => same_upd hn b o q) fun b z => z.imp_right fun z => by rw [z]; exact hn) _ h⟩
theorem slok_dk {F' : Fr} {H : Hp} {A : Addr → Prop} {ds : List (L2.Key × D)} {vs : List (L2.Key × V)} {p : Addr} (h : HoldsK H A ds vs) (dm : ∀ a, A a → H a ≠ none) (hn : H p = none) (h0 : F'.H0 p = none) : SlOk F' (upd H p (.dK vs)) (fun a => A a ∨ a = p) (some (.ref p)) (.od ds) :=
  ⟨p, vs, rfl, h0, upd_same, HoldsK.up (Up.ofOff (fun b o q _ => same_upd hn b o q) fun b z => z.imp_right fun z => by rw [z]; exact hn) _ h⟩
theorem nLst_ex (ds : List D) (c : Str) (fs' : List (Str × D)) : nLst ds ≠ .ex c fs' := by unfold nLst; split <;> exact fun z => by cases z
theorem dn_lst (h : DA false F X W es fs) : DN F X W (.List es pos) (nAll nLst fs) := ⟨PE.weak (pe_lst h.pa) fun σ H Q ⟨sd, rel, p⟩ => tnas (b := false) rel p (fun ds n q q2 vs H2 s r2 hv k => by
  unfold nLst at q2
  split at q2
  · rename_i hl
    cases q2
    refine ⟨by rw [hv.l.length]; exact hl, fun pa hn => k pa _ (same_upd hn) hn (by rw [upd_same]; simp) fun F' h0 => slok_lst hv.l (fun a z => r2.dom z) hn h0⟩
  · cases q2) nLst_ex⟩
theorem dn_dnew : DN F X W (.Dict [] [] pos) (fun _ => .ok (.nd [])) := ⟨PE.weak pe_dnewK fun σ H Q ⟨sd, rel, p⟩ => fun pa hn =>
  p pa _ (same_upd hn) hn (by rw [upd_same]; simp) fun F' h0 => slok_dk (ds := []) rfl (fun a z => rel.dom z) hn h0⟩
def nList : List D → R ND
  | [.lst xs] => .ok (.nl xs)
  | [.tup xs] => .ok (.nl xs)
  | [.dk kvs] => .ok (.nl (kvs.map fun kv => keyDd kv.1))
  | _ => .no
theorem nList_ex (ds : List D) (c : Str) (fs' : List (Str × D)) : nList ds ≠ .ex c fs' := by unfold nList; split <;> exact fun z => by cases z
theorem dn_list {x : Str} {p : Pos} (hc : X.calm = true) (hx : x = "list") (hg : Gl X x) (hm : X.mg x = none) (ha : DA true F X W (e :: es) fs)
    (hv : bootBuiltins x = some (.type "list") := by first | rfl | decide +kernel) (hn : x ≠ "__name__" := by decide) (hdb : (x == ("__debug__" : Str)) = false := by decide) (he : starEach (e :: es) X.env = (false, eval e X.env) :: starEach es X.env := by rfl) (hpl : (backTo pos (starEach es X.env)).any (·.1) = false := by rfl) :
    DN F X W (.Call (.Name x p) (e :: es) [] pos) (nAll nList fs) :=
  ⟨PE.weak (pe_callTy (or_list hc) hg hm hv ha.pa hn hdb he hpl) fun σ H Q ⟨sd, rel, p⟩ => tnas (b := true) rel p (fun ds n q q2 vs H2 s r2 hv k => by
    have fin : ∀ {ds : List D} {ws : List V}, HoldsL H2 (Av F σ sd) ds ws → n = .nl ds → ∀ l, H2 l = none → Q (.ref l) (upd H2 l (.lst ws)) := fun hl en l hn => by
      subst en
      exact k l _ (same_upd hn) hn (by rw [upd_same]; simp) fun F' h0 => slok_lst hl (fun a z => r2.dom z) hn h0
    unfold nList at q2
    split at q2
    · cases q2
      obtain ⟨v, r, rfl, h, rfl⟩ := hv
      obtain ⟨a, ws, rfl, r, l⟩ := h
      exact .inl ⟨a, ws, rfl, .inl (SqL.of r), fin l rfl⟩
    · cases q2
      obtain ⟨v, r, rfl, h, rfl⟩ := hv
      obtain ⟨a, ws, rfl, na, r, l⟩ := h
      exact .inl ⟨a, ws, rfl, .inr (SqT.of r), fin l rfl⟩
    · cases q2
      obtain ⟨v, r, rfl, h, rfl⟩ := hv
      obtain ⟨a, ws, rfl, r, l⟩ := h
      exact .inr ⟨a, ws, rfl, r, fin (holdsL_keys l) rfl⟩
    · cases q2) nList_ex⟩

/-! ### targets -/
abbrev GF := D → SD → Option SD
def Off (ts : List Nat) (σ σ' : St) : Prop := σ'.length = σ.length ∧ ∀ j, j ∉ ts → σ'[j]? = σ[j]?
def TGx (F : Fr) (g : GF) (ts : List Nat) : TG := fun v σ H Q => ∃ sd d, Rel F σ H sd ∧ Holds H (Av F σ sd) d v ∧ match g d sd with
  | some s' => ∀ σ', Rel F σ' H s' → (∀ a, Own σ' s' a → Own σ sd a) → Off ts σ σ' → Q σ' H
  | none => False
structure DG (F : Fr) (X : Cx) (t : Expr) (g : GF) (ts : List Nat) : Prop where
  pg : PG X t (TGx F g ts)
theorem PG.weak {X : Cx} {e : Expr} {t t' : TG} (h : PG X e t) (k : ∀ v σ H Q, t' v σ H Q → t v σ H Q) : PG X e t' := ⟨fun pins s σ H v u Q I r q => h.run pins s σ H v u Q I r (k _ _ _ _ q)⟩
theorem PGs.weak {X : Cx} {e : List Expr} {t t' : TGs} (h : PGs X e t) (k : ∀ v σ H Q, t' v σ H Q → t v σ H Q) : PGs X e t' := ⟨fun pins s σ H v u Q I r q => h.run pins s σ H v u Q I r (k _ _ _ _ q)⟩
def gN (i : Nat) : GF := fun d s => some (s.set i (.sh d))
theorem dg_name (i : Nat) {x : Str} (hN : X.N.Nodup) (hi : X.N[i]? = some x) (hx : Loc X.env.scope x) (hf : X.fn x = true ∨ X.env.scope.names.lookup x = some .local := by first | exact .inl rfl | exact .inr rfl | assumption) : DG F X (.Name x pos) (gN i) [i] :=
  ⟨PG.weak (pg_name (i := i) hN hi hx hf) fun v σ H Q ⟨sd, d, rel, h, p⟩ => p _ (rel.set i h) (fun a z => own_set rfl rel.len z) ⟨by simp, fun j hj => List.getElem?_set_ne fun z => hj (by simp [z])⟩⟩
abbrev GFs := List D → SD → Option SD
def TGsx (F : Fr) (g : GFs) (ts : List Nat) : TGs := fun vs σ H Q => ∃ sd ds, Rel F σ H sd ∧ HoldsL H (Av F σ sd) ds vs ∧ match g ds sd with
  | some s' => ∀ σ', Rel F σ' H s' → (∀ a, Own σ' s' a → Own σ sd a) → Off ts σ σ' → Q σ' H
  | none => False
structure DGs (F : Fr) (X : Cx) (t : List Expr) (g : GFs) (ts : List Nat) : Prop where
  pg : PGs X t (TGsx F g ts)
def gNil' : GFs := fun ds s => match ds with
  | [] => some s
  | _ => none
def gCons' (g : GF) (h : GFs) : GFs := fun ds s => match ds with
  | d :: r => (g d s).bind fun s' => h r s'
  | [] => none
theorem dgs_nil : DGs F X [] gNil' [] := ⟨PGs.weak pgs_nil fun vs σ H Q ⟨sd, ds, rel, h, p⟩ => by
  cases ds with
  | nil => cases h; exact ⟨rfl, p σ rel (fun _ z => z) ⟨rfl, fun _ _ => rfl⟩⟩
  | cons d r => exact p.elim⟩
theorem dgs_cons {t : Expr} {ts : List Expr} {g : GF} {h : GFs} {t1 t2 : List Nat} (h1 : DG F X t g t1) (h2 : DGs F X ts h t2) (hs : (assignEach (t :: ts) X.env).map (·.2) = assign t X.env :: (assignEach ts X.env).map (·.2) := by rfl) : DGs F X (t :: ts) (gCons' g h) (t1 ++ t2) :=
  ⟨PGs.weak (pgs_cons h1.pg h2.pg hs) fun vs σ H Q ⟨sd, ds, rel, hh, p⟩ => by
    cases ds with
    | nil => exact p.elim
    | cons d r =>
      obtain ⟨v, vr, rfl, hd, hr⟩ := hh
      refine ⟨v, vr, rfl, sd, d, rel, hd, ?_⟩
      unfold gCons' at p
      dsimp only at p
      cases q : g d sd with
      | none => rw [q] at p; exact p
      | some s' =>
        rw [q] at p
        simp only [Option.bind_some] at p
        intro σ' rel' own' off'
        refine ⟨s', r, rel', hr.less fun a z => z.elim .inl fun z => .inr (own' a z), ?_⟩
        cases q2 : h r s' with
        | none => rw [q2] at p; exact p
        | some s2 =>
          rw [q2] at p
          exact fun σ2 rel2 own2 off2 => p σ2 rel2 (fun a z => own' a (own2 a z)) ⟨off2.1.trans off'.1, fun j hj => (off2.2 j fun z => hj (List.mem_append_right _ z)).trans (off'.2 j fun z => hj (List.mem_append_left _ z))⟩⟩
def gTupD (n : Nat) (h : GFs) : GF := fun d s => match d with
  | .tup ds => if ds.length = n then h ds s else none
  | _ => none
theorem dg_tup {ts : List Expr} {k : Nat} {h : GFs} {n : Nat} {pos : Pos} {tl : List Nat} (hc : X.calm = true) (h1 : DGs F X ts h tl) (hn : (assignEach ts X.env).length = n := by rfl) (hst : (assignEach ts X.env).findIdx? (·.1) = none := by rfl) : DG F X (.Tuple ts k pos) (gTupD n h) tl :=
  ⟨PG.weak (pg_tup hc h1.pg hn hst) fun v σ H Q ⟨sd, d, rel, hh, p⟩ => by
    unfold gTupD at p
    split at p
    · rename_i ds he
      split at he
      · split at he
        · rename_i hl
          obtain ⟨a, vs, rfl, na, r, l⟩ := hh
          refine ⟨a, vs, rfl, SqT.of r, by rw [l.length]; exact hl, sd, _, rel, l, ?_⟩
          rw [he]
          exact p
        · cases he
      · cases he
    · exact p.elim⟩
def sAsg (f : EF) (g : GF) : SF := sE f fun d s => match g d s with
  | some s' => .nx s'
  | none => .no
theorem ds_asg {t : Expr} {g : GF} {tl : List Nat} (he : DE F X W e fa) (hg : DG F X t g tl) (hs : swapsWithSole [t] e pos.line X.env = pure false := by rfl) (hw : swappedStores [t] e X.env = pure none := by rfl) (h1 : (assignEach [t] X.env).map (·.2) = [assign t X.env] := by rfl) : DX1 F X W (.Assign [t] e pos) (sAsg fa g) :=
  ⟨PS.weak (ps_asg he.pe hg.pg hs hw h1) fun T σ H ⟨sd, rel, p⟩ => tsE (bb := false) rel p fun d v H' q s r h p' => by
    refine ⟨sd, d, r, h, ?_⟩
    cases q2 : g d sd with
    | none => rw [q2] at p'; exact p'
    | some s' =>
      rw [q2] at p'
      exact fun σ' r' own' _ => p' σ' H' r' (ExtS.same (Same.refl _) own')⟩
/-- a, b = e1, e2, both sides written -/
def sPar (i j : Nat) (fa fb : EF) : SF := fun s => match evalL [fa, fb] s with
  | .ok (d :: e :: _) => .nx ((s.set i (.sh d)).set j (.sh e))
  | .ok _ => .no
  | .ex c fs => .ex c fs s
  | .no => .no
theorem ds_par (i j : Nat) {x y : Str} {px py pt : Pos} {kt k2 pt2} (hc : X.calm = true) (hN : X.N.Nodup) (hi : X.N[i]? = some x) (hj : X.N[j]? = some y) (hij : i ≠ j)
    (hx : X.env.scope.names.lookup x = some .local) (hy : X.env.scope.names.lookup y = some .local) (ha : DA false F X W [a, b] [fa, fb])
    (hw : swappedStores [.Tuple [.Name x px, .Name y py] kt pt] (.Tuple [a, b] k2 pt2) X.env = pure (some [x, y]))
    (hs : swapsWithSole [.Tuple [.Name x px, .Name y py] kt pt] (.Tuple [a, b] k2 pt2) pos.line X.env = pure false := by rfl) : DX1 F X W (.Assign [.Tuple [.Name x px, .Name y py] kt pt] (.Tuple [a, b] k2 pt2) pos) (sPar i j fa fb) :=
  ⟨PS.weak (ps_par hc hN hi hj hij hx hy ha.pa hw hs) fun T σ H ⟨sd, rel, p⟩ => ⟨sd, rel, by
    unfold sPar at p
    cases q : evalL [fa, fb] sd with
    | no => rw [q] at p; exact p
    | ex c fs => rw [q] at p; exact fun cls da H' s h => post_ex (bb := false) (Q := fun _ _ => True) rel p cls da H' s h
    | ok ds =>
      rw [q] at p
      intro vs H' s hv
      match ds, hv with
      | [d, e], hv =>
        obtain ⟨v, r, rfl, h1, w, r2, rfl, h2, rfl⟩ := hv
        have r1 := (rel.mono s).set i h1
        have o1 : ∀ a, Own (σ.set i (some v)) (sd.set i (.sh d)) a → Own σ sd a := fun a z => own_set rfl rel.len z
        have r2 := r1.set j (Holds.less h2 fun a z => z.elim .inl fun z => .inr (o1 a z))
        exact ⟨v, w, rfl, p _ H' r2 (ExtS.same s fun a z => o1 a (own_set rfl r1.len z))⟩
      | [], hv => exact p.elim
      | [_], hv => exact p.elim
      | d :: e :: g :: r, hv =>
        exfalso
        simp only [evalL] at q
        cases h1 : fa sd <;> rw [h1] at q <;> try (cases q)
        rw [R.bind_ok] at q
        cases h2 : fb sd <;> rw [h2] at q <;> cases q⟩⟩
end DS
set_option Elab.async false
set_option linter.all false
set_option maxRecDepth 100000
set_option maxHeartbeats 2000000
namespace DS
open PySem L2
variable {F : Fr} {X : Cx} {W : WX} {a b c e : Expr} {fa fb fc : EF} {pos : Pos} {st : Stmt} {sts : List Stmt} {f g : SF} {tt : TF}

/-! ### while -/
def whileN (t : TF) (b : SF) : Nat → SD → Option SO
  | 0, _ => none
  | n + 1, s => match t s with
    | .ok true => (match b s with
      | .nx s' => whileN t b n s'
      | .ct s' => whileN t b n s'
      | .bk s' => some (.nx s')
      | o => some o)
    | .ok false => some (.nx s)
    | .ex c fs => some (.ex c fs s)
    | .no => some .no
open Classical in
noncomputable def sWhile (t : TF) (b : SF) : SF := fun s => if h : ∃ n o, whileN t b n s = some o then h.choose_spec.choose else .no
theorem whileN_mono {t : TF} {b : SF} : ∀ {n m : Nat} {s : SD} {o : SO}, whileN t b n s = some o → n ≤ m → whileN t b m s = some o
  | 0, _, _, _, h, _ => by cases h
  | n + 1, 0, _, _, _, hl => by omega
  | n + 1, m + 1, s, o, h, hl => by
    unfold whileN at h ⊢
    cases q : t s with
    | no => rw [q] at h; exact h
    | ex c fs => rw [q] at h; exact h
    | ok bb =>
      rw [q] at h
      cases bb with
      | false => exact h
      | true =>
        dsimp only at h ⊢
        cases q2 : b s with
        | nx s' => rw [q2] at h; exact whileN_mono h (by omega)
        | ct s' => rw [q2] at h; exact whileN_mono h (by omega)
        | rt d => rw [q2] at h; exact h
        | rn n => rw [q2] at h; exact h
        | bk s' => rw [q2] at h; exact h
        | ex c fs s' => rw [q2] at h; exact h
        | no => rw [q2] at h; exact h
theorem sWhile_of {t : TF} {b : SF} {n : Nat} {s : SD} {o : SO} (h : whileN t b n s = some o) : sWhile t b s = o := by
  have hx : ∃ n o, whileN t b n s = some o := ⟨n, o, h⟩
  unfold sWhile
  rw [dif_pos hx]
  have h2 := hx.choose_spec.choose_spec
  have h3 := whileN_mono h2 (Nat.le_max_left _ n)
  have h4 := whileN_mono h (Nat.le_max_right hx.choose n)
  rw [h3] at h4
  exact Option.some.inj h4
theorem sWhile_some {t : TF} {b : SF} {s : SD} (h : sWhile t b s ≠ .no) : ∃ n, whileN t b n s = some (sWhile t b s) := by
  unfold sWhile at h ⊢
  split at h
  · rename_i hx
    rw [dif_pos hx]
    exact ⟨_, hx.choose_spec.choose_spec⟩
  · exact absurd rfl h
/-- one turn -/
theorem sWhile_eq (t : TF) (b : SF) (s : SD) : sWhile t b s = match t s with
    | .ok true => (match b s with
      | .nx s' => sWhile t b s'
      | .ct s' => sWhile t b s'
      | .bk s' => .nx s'
      | o => o)
    | .ok false => .nx s
    | .ex c fs => .ex c fs s
    | .no => .no := by
  have key : ∀ s', (∃ n o, whileN t b n s' = some o) ∨ sWhile t b s' = .no := fun s' => by
    by_cases h : ∃ n o, whileN t b n s' = some o
    · exact .inl h
    · unfold sWhile; rw [dif_neg h]; exact .inr rfl
  have none_of : ∀ s', (¬ ∃ n o, whileN t b n s' = some o) → sWhile t b s' = .no := fun s' h => by unfold sWhile; rw [dif_neg h]
  cases q : t s with
  | no => exact sWhile_of (n := 1) (by unfold whileN; rw [q])
  | ex c fs => exact sWhile_of (n := 1) (by unfold whileN; rw [q])
  | ok bb =>
    cases bb with
    | false => exact sWhile_of (n := 1) (by unfold whileN; rw [q])
    | true =>
      dsimp only
      have go : ∀ s', (b s = .nx s' ∨ b s = .ct s') → sWhile t b s = sWhile t b s' := fun s' hb => by
        have st : ∀ n, whileN t b (n + 1) s = whileN t b n s' := fun n => by
          rcases hb with hb | hb
          · conv => lhs; unfold whileN
            rw [q, hb]
          · conv => lhs; unfold whileN
            rw [q, hb]
        by_cases h : ∃ n o, whileN t b n s' = some o
        · obtain ⟨n, o, h⟩ := h
          rw [sWhile_of h]
          exact sWhile_of (n := n + 1) (by rw [st]; exact h)
        · rw [none_of s' h]
          refine none_of s fun ⟨n, o, h2⟩ => h ?_
          cases n with
          | zero => cases h2
          | succ n => exact ⟨n, o, by rw [← st]; exact h2⟩
      cases q2 : b s with
      | nx s' => exact go s' (.inl q2)
      | ct s' => exact go s' (.inr q2)
      | rt d => exact sWhile_of (n := 1) (by unfold whileN; rw [q]; dsimp only; rw [q2])
      | rn n => exact sWhile_of (n := 1) (by unfold whileN; rw [q]; dsimp only; rw [q2])
      | bk s' => exact sWhile_of (n := 1) (by unfold whileN; rw [q]; dsimp only; rw [q2])
      | ex c fs s' => exact sWhile_of (n := 1) (by unfold whileN; rw [q]; dsimp only; rw [q2])
      | no => exact sWhile_of (n := 1) (by unfold whileN; rw [q]; dsimp only; rw [q2])
theorem ds_while {body : List Stmt} (hp : PassesOwn (model X.prog X.w) X.A X.env X.xe) (hc : DT F X W c tt) (hb : DXs F X W body f) : DX1 F X W (.While c body [] pos) (sWhile tt f) :=
  ⟨PS.weak (ps_while hp hc.pt hb.ps) fun T σ H ⟨sd, rel, p⟩ => by
    have hne : sWhile tt f sd ≠ .no := fun z => by rw [z] at p; exact p
    obtain ⟨n, hn⟩ := sWhile_some hne
    generalize sWhile tt f sd = o at hn p
    refine ⟨fun m σ' H' => ∃ s', Rel F σ' H' s' ∧ ExtS σ sd H σ' s' H' ∧ whileN tt f m s' = some o, ⟨n, sd, rel, .refl, hn⟩, ?_⟩
    rintro m σ1 H1 ⟨s1, r1, e1, w1⟩
    cases m with
    | zero => cases w1
    | succ m =>
      unfold whileN at w1
      refine ⟨s1, r1, ?_⟩
      cases q : tt s1 with
      | no =>
        rw [q] at w1
        cases w1
        exact p
      | ex c fs =>
        rw [q] at w1
        cases w1
        exact fun cls da H' s h => post_ex (bb := false) (Q := fun _ _ => True) r1 (PostS.ext e1 p) cls da H' s h
      | ok bb =>
        rw [q] at w1
        intro H2 s2
        have e2 : ExtS σ sd H σ1 s1 H2 := e1.trans (ExtS.same s2 fun _ z => z)
        cases bb with
        | false =>
          cases w1
          rw [if_neg Bool.false_ne_true]
          exact p σ1 H2 (r1.mono s2) e2
        | true =>
          rw [if_pos rfl]
          dsimp only at w1
          refine ⟨fun σ' H' => ∃ s', Rel F σ' H' s' ∧ ExtS σ sd H σ' s' H' ∧ whileN tt f m s' = some o, fun σ' H' h => ⟨m, Nat.lt_succ_self m, h⟩, s1, r1.mono s2, ?_⟩
          cases q2 : f s1 with
          | nx s' => rw [q2] at w1; exact fun σ' H' r e => ⟨s', r, e2.trans e, w1⟩
          | ct s' => rw [q2] at w1; exact fun σ' H' r e => ⟨s', r, e2.trans e, w1⟩
          | bk s' => rw [q2] at w1; cases w1; exact fun σ' H' r e => p σ' H' r (e2.trans e)
          | rt d => rw [q2] at w1; cases w1; exact PostS.ext e2 p
          | rn n => rw [q2] at w1; cases w1; exact PostS.ext e2 p
          | ex c fs s' => rw [q2] at w1; cases w1; exact fun cls da σ' H' r e => p cls da σ' H' r (e2.trans e)
          | no => rw [q2] at w1; cases w1; exact p⟩

/-! ### what a loop walks -/
abbrev IF := SD → R (List D)
def Yld (A : Addr → Prop) (J : It) (H : Hp) (ds : List D) : Prop := ∀ i H' A', Up H A H' A' → (∀ b o, H b = some o → ¬ A b → H' b = some o) → (∀ a, A' a → H' a ≠ none) →
  (i < ds.length → J.go i H' ∧ ∀ x H'', J.yld i H' x H'' → Same H' H'' ∧ ∃ d, ds[i]? = some d ∧ Holds H'' A' d x) ∧ (ds.length ≤ i → J.stop i H')
def TIx (F : Fr) (mg : Str → Option Value) (W : WX) (f : IF) : TI := fun σ H Rr => ∃ sd, Rel F σ H sd ∧ match f sd with
  | .ok ds => ∀ J H', Same H H' → Yld (Av F σ sd) J H' ds → Rr J H'
  | .ex c fs => ∀ cls da H', Same H H' → ExRep mg H' (Av F σ sd) c fs cls da → W cls da σ H'
  | .no => False
structure DI (F : Fr) (X : Cx) (W : WX) (t e : Expr) (f : IF) : Prop where
  pi : PI X t e (TIx F X.mg W f)
theorem PI.weak {X : Cx} {t e : Expr} {w w' : TI} (h : PI X t e w) (k : ∀ σ H Rr, w' σ H Rr → w σ H Rr) : PI X t e w' := ⟨fun pins s σ H Rr I q => h.run pins s σ H Rr I (k _ _ _ q)⟩
theorem PI.or {X : Cx} {t e : Expr} {w w' : TI} (h : PI X t e w) (h' : PI X t e w') : PI X t e (fun σ H Rr => w σ H Rr ∨ w' σ H Rr) := ⟨fun pins s σ H Rr I q => q.elim (h.run pins s σ H Rr I) (h'.run pins s σ H Rr I)⟩
def charsD (z : Str) : List D := z.cps.toList.map fun c => D.str ⟨#[c]⟩
def seqD : D → R (List D)
  | .lst xs => .ok xs
  | .tup xs => .ok xs
  | .scr xs => .ok (xs.map D.int)
  | .str z => .ok (charsD z)
  | _ => .no
def iSeq (f : EF) : IF := fun s => (f s).bind seqD
theorem yld_lst {K : PySem.W.Frag} {A : Addr → Prop} {H : Hp} {ds : List D} {vs : List V} {a : Addr} (r : H a = some (.lst vs)) (na : ¬ A a) (l : HoldsL H A ds vs) : Yld A (Itl K a) H ds := fun i H' A' u k dm => by
  have r' := k a _ r na
  refine ⟨fun hi => ⟨⟨vs, vs[i]'(by rw [l.length]; exact hi), SqL.of r', List.getElem?_eq_getElem _⟩, fun x H'' y => ?_⟩, fun hi => ⟨vs, SqL.of r', by rw [l.length]; exact hi⟩⟩
  obtain ⟨rfl, y⟩ := y
  have e := y vs (SqL.of r')
  obtain ⟨d, e2, h⟩ := l.getV e
  exact ⟨Same.refl _, d, e2, Holds.up u d h⟩
theorem di_seq {t : Expr} (h : DE F X W e fa) : DI F X W t e (iSeq fa) := ⟨PI.weak (PI.or (pi_list h.pe) (PI.or (pi_tup h.pe) (pi_str h.pe))) fun σ H Rr ⟨sd, rel, p⟩ => by
  unfold iSeq at p
  cases q : fa sd with
  | no => rw [q] at p; exact p.elim
  | ex c fs => rw [q] at p; exact .inl ⟨sd, rel, by rw [q]; exact p⟩
  | ok d =>
    rw [q, R.bind_ok] at p
    cases d with
    | lst xs =>
      refine .inl ⟨sd, rel, ?_⟩
      rw [q]
      intro v H' s h
      obtain ⟨a, vs, rfl, na, r, l⟩ := h
      exact ⟨a, rfl, ⟨vs, SqL.of r⟩, p _ H' s (yld_lst r na l)⟩
    | scr xs =>
      refine .inl ⟨sd, rel, ?_⟩
      rw [q]
      intro v H' s h
      obtain ⟨a, rfl, na, r⟩ := h
      refine ⟨a, rfl, ⟨_, .inl r⟩, p _ H' s fun i H2 A' u k dm => ?_⟩
      have r' : SqL X.K H2 a (xs.map V.int) := .inl (u.rdl a _ r na).1
      have l := HoldsL.ints (H := H2) (A := A') xs
      refine ⟨fun hi => ⟨⟨_, (xs.map V.int)[i]'(by simpa using hi), r', List.getElem?_eq_getElem _⟩, fun x H'' y => ?_⟩, fun hi => ⟨_, r', by simpa using hi⟩⟩
      obtain ⟨rfl, y⟩ := y
      have e := y _ r'
      obtain ⟨d, e2, h⟩ := l.getV e
      exact ⟨Same.refl _, d, e2, h⟩
    | tup xs =>
      refine .inr (.inl ⟨sd, rel, ?_⟩)
      rw [q]
      intro v H' s h
      obtain ⟨a, vs, rfl, na, r, l⟩ := h
      refine ⟨a, rfl, ⟨vs, SqT.of r⟩, p _ H' s fun i H2 A' u k dm => ?_⟩
      have r' := k a _ r na
      refine ⟨fun hi => ⟨⟨vs, vs[i]'(by rw [l.length]; exact hi), SqT.of r', List.getElem?_eq_getElem _⟩, fun x H'' y => ?_⟩, fun hi => ⟨vs, SqT.of r', by rw [l.length]; exact hi⟩⟩
      obtain ⟨rfl, y⟩ := y
      have e := y vs (SqT.of r')
      obtain ⟨d, e2, h⟩ := l.getV e
      exact ⟨Same.refl _, d, e2, Holds.up u d h⟩
    | str z =>
      refine .inr (.inr ⟨sd, rel, ?_⟩)
      rw [q]
      intro v H' s h
      cases h
      refine ⟨z, rfl, p _ H' s fun i H2 A' u k dm => ?_⟩
      have hl : (charsD z).length = z.cps.size := by simp [charsD]
      refine ⟨fun hi => ⟨by rw [hl] at hi; exact hi, fun x H'' y => ?_⟩, fun hi => by rw [hl] at hi; exact hi⟩
      obtain ⟨rfl, c, e, rfl⟩ := y
      refine ⟨Same.refl _, D.str ⟨#[c]⟩, ?_, rfl⟩
      unfold charsD
      rw [List.getElem?_map, Array.getElem?_toList, e]
      rfl
    | _ => exact p.elim⟩
def rangeD (lo : Int) (n : Nat) : List D := (List.range n).map fun (i : Nat) => D.int (lo + i)
theorem yld_range {A : Addr → Prop} {H : Hp} {lo : Int} {n : Nat} : Yld A (Itr lo n) H (rangeD lo n) := fun i H' A' u k dm => by
  have hl : (rangeD lo n).length = n := by simp [rangeD]
  refine ⟨fun hi => ⟨by rw [hl] at hi; exact hi, fun x H'' y => ?_⟩, fun hi => by rw [hl] at hi; exact hi⟩
  obtain ⟨rfl, rfl⟩ := y
  refine ⟨Same.refl _, D.int (lo + i), ?_, rfl⟩
  unfold rangeD
  rw [hl] at hi
  rw [List.getElem?_map, List.getElem?_range hi]
  rfl
def opRange1 : List D → R (List D)
  | [.int j] => if j.natAbs < 2 ^ 61 then .ok (rangeD 0 j.toNat) else .no
  | _ => .no
def opRange2 : List D → R (List D)
  | [.int i, .int j] => if i.natAbs < 2 ^ 61 ∧ j.natAbs < 2 ^ 61 then .ok (rangeD i (j - i).toNat) else .no
  | _ => .no
def opRange3 : List D → R (List D)
  | [.int i, .int j, .int c] => if c ≠ 0 ∧ c.natAbs < 1073741824 ∧ Builtin.Range.small i j c = true ∧ 0 ≤ Builtin.Range.rangeSize i j c then .ok ((List.range (Builtin.Range.rangeSize i j c).toNat).map fun (k : Nat) => D.int (i + k * c)) else .no
  | _ => .no
def iAll (op : List D → R (List D)) (fs : List EF) : IF := fun s => (evalL fs s).bind op
variable {es : List Expr} {fs : List EF}
theorem tia {b : Bool} {op : List D → R (List D)} {mg : Str → Option Value} {σ : St} {H : Hp} {Rr : It → Hp → Prop} {r : List V → Hp → Prop} {sd : SD} (rel : Rel F σ H sd)
    (p : match iAll op fs sd with
      | .ok ds => ∀ J H', Same H H' → Yld (Av F σ sd) J H' ds → Rr J H'
      | .ex c fs => ∀ cls da H', Same H H' → ExRep mg H' (Av F σ sd) c fs cls da → W cls da σ H'
      | .no => False)
    (hex : ∀ ds c fs', op ds ≠ .ex c fs')
    (hr : ∀ (ds out : List D), op ds = .ok out → ∀ (vs : List V) (H2 : Hp), Rel F σ H2 sd → HoldsXL b H2 (Av F σ sd) ds vs → (∀ J H', Same H2 H' → Yld (Av F σ sd) J H' out → Rr J H') → r vs H2) : TAx b F mg W (evalL fs) σ H r := by
  refine ⟨sd, rel, ?_⟩
  unfold iAll at p
  cases q : evalL fs sd with
  | no => rw [q] at p; exact p
  | ex c fs => rw [q] at p; exact p
  | ok ds =>
    rw [q, R.bind_ok] at p
    intro vs H2 s h
    cases q2 : op ds with
    | ok out => rw [q2] at p; exact hr ds out q2 vs H2 (rel.mono s) h fun J H' s2 y => p J H' (s.trans s2) y
    | ex c fs' => exact absurd q2 (hex _ _ _)
    | no => rw [q2] at p; exact p.elim
theorem di_range1 {t : Expr} {p : Pos} (hg : Gl X "range") (hm : X.mg "range" = none) (ha : DA true F X W [a] fs) (hs : starEach [a] X.env = [(false, eval a X.env)] := by rfl) : DI F X W t (.Call (.Name "range" p) [a] [] pos) (iAll opRange1 fs) :=
  ⟨PI.weak (pi_range1 hg hm ha.pa hs) fun σ H Rr ⟨sd, rel, p⟩ => tia (b := true) rel p (fun ds c fs' => by unfold opRange1; split <;> (try split) <;> exact fun z => by cases z) fun ds out e vs H2 r2 hv k => by
    unfold opRange1 at e
    split at e
    · split at e
      · rename_i hb
        cases e
        obtain ⟨v, r, rfl, h, rfl⟩ := hv
        cases h
        exact ⟨_, rfl, by omega, by omega, k _ H2 (Same.refl _) yld_range⟩
      · cases e
    · cases e⟩
theorem di_range2 {t : Expr} {p : Pos} (hg : Gl X "range") (hm : X.mg "range" = none) (ha : DA true F X W [a, b] fs) (hs : starEach [a, b] X.env = [(false, eval a X.env), (false, eval b X.env)] := by rfl) (hs2 : starEach [b] X.env = [(false, eval b X.env)] := by rfl) : DI F X W t (.Call (.Name "range" p) [a, b] [] pos) (iAll opRange2 fs) :=
  ⟨PI.weak (pi_range2 hg hm ha.pa hs hs2) fun σ H Rr ⟨sd, rel, p⟩ => tia (b := true) rel p (fun ds c fs' => by unfold opRange2; split <;> (try split) <;> exact fun z => by cases z) fun ds out e vs H2 r2 hv k => by
    unfold opRange2 at e
    split at e
    · split at e
      · rename_i hb
        cases e
        obtain ⟨v, r, rfl, h, v2, r2, rfl, h2, rfl⟩ := hv
        cases h
        cases h2
        exact ⟨_, _, rfl, ⟨by omega, by omega, by omega, by omega⟩, k _ H2 (Same.refl _) yld_range⟩
      · cases e
    · cases e⟩
theorem di_range3 {t : Expr} {p : Pos} (hg : Gl X "range") (hm : X.mg "range" = none) (ha : DA true F X W [a, b, c] fs) (hs : starEach [a, b, c] X.env = (false, eval a X.env) :: starEach [b, c] X.env := by rfl) (hpl : (backTo pos (starEach [b, c] X.env)).any (·.1) = false := by rfl) : DI F X W t (.Call (.Name "range" p) [a, b, c] [] pos) (iAll opRange3 fs) :=
  ⟨PI.weak (pi_range3 hg hm ha.pa hs hpl) fun σ H Rr ⟨sd, rel, p⟩ => tia (b := true) rel p (fun ds c fs' => by unfold opRange3; split <;> (try split) <;> exact fun z => by cases z) fun ds out e vs H2 r2 hv k => by
    unfold opRange3 at e
    split at e
    · split at e
      · rename_i i j c hb
        cases e
        obtain ⟨v, r, rfl, h, v2, r2, rfl, h2, v3, r3, rfl, h3, rfl⟩ := hv
        cases h
        cases h2
        cases h3
        refine ⟨_, _, _, (Builtin.Range.rangeSize i j c).toNat, rfl, ⟨hb.1, hb.2.1, hb.2.2.1, (Int.toNat_of_nonneg hb.2.2.2).symm⟩, k _ H2 (Same.refl _) fun i' H' A' u kk dm => ?_⟩
        rw [List.length_map, List.length_range]
        refine ⟨fun hi => ⟨hi, fun x H'' y => ?_⟩, fun hi => hi⟩
        obtain ⟨rfl, rfl⟩ := y
        refine ⟨Same.refl _, D.int (i + i' * c), ?_, rfl⟩
        rw [List.getElem?_map, List.getElem?_range hi]
        rfl
      · cases e
    · cases e⟩
end DS
set_option Elab.async false
set_option linter.all false
set_option maxRecDepth 100000
set_option maxHeartbeats 2000000
namespace DS
open PySem L2
variable {F : Fr} {X : Cx} {W : WX} {a b c e : Expr} {fa fb fc : EF} {pos : Pos} {st : Stmt} {sts : List Stmt} {f g : SF} {tt : TF} {es : List Expr} {fs : List EF}

/-! ### for -/
def forL (g : GF) (b : SF) : List D → SF
  | [], s => .nx s
  | d :: ds, s => match g d s with
    | none => .no
    | some s1 => match b s1 with
      | .nx s2 => forL g b ds s2
      | .ct s2 => forL g b ds s2
      | .bk s2 => .nx s2
      | o => o
def sFor (i : IF) (g : GF) (b : SF) : SF := fun s => match i s with
  | .ok ds => forL g b ds s
  | .ex c fs => .ex c fs s
  | .no => .no
theorem ds_for {t : Expr} {body : List Stmt} {fi : IF} {gg : GF} {tl : List Nat} (hp : PassesOwn (model X.prog X.w) X.A X.env X.xe) (hc : X.calm = true) (hi : DI F X W t e fi) (hg : DG F X t gg tl) (hb : DXs F X W body f) (hs : ∀ x, foldedSetIterable e X.env x = pure x := by intro _; rfl) : DX1 F X W (.For t e body [] pos) (sFor fi gg f) :=
  ⟨PS.weak (ps_for hp hc hi.pi hg.pg hb.ps hs) fun T σ H ⟨sd, rel, p⟩ => ⟨sd, rel, by
    unfold sFor at p
    cases q : fi sd with
    | no => rw [q] at p; exact p
    | ex c fs => rw [q] at p; exact fun cls da H' s h => post_ex (bb := false) (Q := fun _ _ => True) rel p cls da H' s h
    | ok ds =>
      rw [q] at p
      intro J H1 s1 y
      have e0 : ExtS σ sd H σ sd H1 := ExtS.same s1 fun _ z => z
      have p := PostS.ext e0 p
      have rel := rel.mono s1
      generalize H1 = H1 at *
      refine ⟨fun i m σ' H' => m = ds.length - i ∧ i ≤ ds.length ∧ ∃ s', Rel F σ' H' s' ∧ ExtS σ sd H1 σ' s' H' ∧ PostS X.mg W F σ sd T (forL gg f (ds.drop i) s') H1, ⟨ds.length, rfl, Nat.zero_le _, sd, rel, .refl, p⟩, ?_⟩
      rintro i m σ2 H2 ⟨rfl, hi, s2, r2, e2, p2⟩
      have yy := y i H2 (Av F σ2 s2) e2.up (fun b o h n => e2.keep b o h fun z => n (.inr z)) (fun a z => r2.dom z)
      by_cases hlt : i < ds.length
      · refine .inr ⟨(yy.1 hlt).1, fun σ' H' => ∃ s', Rel F σ' H' s' ∧ ExtS σ sd H1 σ' s' H' ∧ PostS X.mg W F σ sd T (forL gg f (ds.drop (i + 1)) s') H1, fun σ' H' h => ⟨ds.length - (i + 1), by omega, rfl, hlt, h⟩, fun x H3 yx => ?_⟩
        obtain ⟨s3, d, ed, hd⟩ := (yy.1 hlt).2 x H3 yx
        have edrop : ds.drop i = d :: ds.drop (i + 1) := by
          rw [List.drop_eq_getElem_cons hlt]
          congr 1
          rw [List.getElem?_eq_getElem hlt] at ed
          exact Option.some.inj ed
        rw [edrop] at p2
        unfold forL at p2
        have r3 := r2.mono s3
        have e3 : ExtS σ sd H1 σ2 s2 H3 := e2.trans (ExtS.same s3 fun _ z => z)
        refine ⟨s2, d, r3, hd, ?_⟩
        cases q2 : gg d s2 with
        | none => rw [q2] at p2; exact p2
        | some s4 =>
          rw [q2] at p2
          intro σ4 r4 own4 _
          have e4 : ExtS σ sd H1 σ4 s4 H3 := e3.trans (ExtS.same (Same.refl _) own4)
          refine ⟨s4, r4, ?_⟩
          dsimp only at p2
          cases q3 : f s4 with
          | nx s5 => rw [q3] at p2; exact fun σ' H' r e => ⟨s5, r, e4.trans e, p2⟩
          | ct s5 => rw [q3] at p2; exact fun σ' H' r e => ⟨s5, r, e4.trans e, p2⟩
          | bk s5 => rw [q3] at p2; exact fun σ' H' r e => p2 σ' H' r (e4.trans e)
          | rt d => rw [q3] at p2; exact p2
          | rn n => rw [q3] at p2; exact p2
          | ex c fs s' => rw [q3] at p2; exact fun cls da σ' H' r e => p2 cls da σ' H' r (e4.trans e)
          | no => rw [q3] at p2; exact p2
      · have ei : i = ds.length := by omega
        subst ei
        refine .inl ⟨yy.2 (Nat.le_refl _), ?_⟩
        rw [List.drop_length] at p2
        exact p2 σ2 H2 r2 e2⟩⟩

/-! ### enumerate, zip -/
def enumL : Nat → List D → List D
  | _, [] => []
  | i, d :: ds => .tup [.int (i : Nat), d] :: enumL (i + 1) ds
theorem enumL_length : ∀ (i : Nat) (ds : List D), (enumL i ds).length = ds.length
  | _, [] => rfl
  | i, d :: ds => by simp [enumL, enumL_length]
theorem enumL_get : ∀ (i : Nat) (ds : List D) (k : Nat) {d : D}, ds[k]? = some d → (enumL i ds)[k]? = some (.tup [.int ((i + k : Nat) : Int), d])
  | _, [], k, _, e => by simp at e
  | i, d :: ds, 0, _, e => by simp at e; subst e; simp [enumL]
  | i, d :: ds, k + 1, _, e => by
    have := enumL_get (i + 1) ds k (by simpa using e)
    simp only [enumL, List.getElem?_cons_succ]
    rw [this]
    have : i + 1 + k = i + (k + 1) := by omega
    rw [this]
def opEnum : List D → R (List D)
  | [.lst xs] => .ok (enumL 0 xs)
  | _ => .no
theorem di_enum {elts : List Expr} {kk : Nat} {tpos p : Pos} (hg : Gl X "enumerate") (hm : X.mg "enumerate" = none) (ha : DA false F X W [a] fs) (hs : starEach [a] X.env = [(false, eval a X.env)] := by rfl) : DI F X W (.Tuple elts kk tpos) (.Call (.Name "enumerate" p) [a] [] pos) (iAll opEnum fs) :=
  ⟨PI.weak (pi_enum hg hm ha.pa hs) fun σ H Rr ⟨sd, rel, p⟩ => tia (b := false) rel p (fun ds c fs' => by unfold opEnum; split <;> exact fun z => by cases z) fun ds out e vs H2 r2 hv k => by
    unfold opEnum at e
    split at e
    · cases e
      obtain ⟨v, r, rfl, h, rfl⟩ := hv
      obtain ⟨a, vs, rfl, na, r, l⟩ := h
      refine ⟨a, vs, rfl, SqL.of r, k _ H2 (Same.refl _) fun i H' A' u kk dm => ?_⟩
      have r' := kk a _ r na
      rw [enumL_length]
      refine ⟨fun hi => ⟨⟨vs, vs[i]'(by rw [l.length]; exact hi), SqL.of r', List.getElem?_eq_getElem _⟩, fun x H'' y => ?_⟩, fun hi => ⟨vs, SqL.of r', by rw [l.length]; exact hi⟩⟩
      obtain ⟨T, x', rfl, hT, rfl, y⟩ := y
      obtain ⟨d, e2, h⟩ := l.getV (y vs (SqL.of r'))
      refine ⟨same_upd hT, _, enumL_get 0 _ i e2, T, _, rfl, fun z => dm T z hT, upd_same, .int i, [x'], rfl, ?_, x', [], rfl, ?_, rfl⟩
      · show V.int i = V.int ((0 + i : Nat) : Int)
        rw [Nat.zero_add]
      · exact (Holds.up u d h).same (same_upd hT)
    · cases e⟩
def zipL : List D → List D → List D
  | x :: xs, y :: ys => .tup [x, y] :: zipL xs ys
  | _, _ => []
theorem zipL_length : ∀ (xs ys : List D), (zipL xs ys).length = min xs.length ys.length
  | [], _ => by simp [zipL]
  | _ :: _, [] => by simp [zipL]
  | x :: xs, y :: ys => by simp only [zipL, List.length_cons, zipL_length xs ys]; omega
theorem zipL_get : ∀ (xs ys : List D) (k : Nat) {x y : D}, xs[k]? = some x → ys[k]? = some y → (zipL xs ys)[k]? = some (.tup [x, y])
  | [], _, k, _, _, e, _ => by simp at e
  | _ :: _, [], k, _, _, _, e => by simp at e
  | x :: xs, y :: ys, 0, _, _, e, e2 => by simp at e e2; subst e; subst e2; simp [zipL]
  | x :: xs, y :: ys, k + 1, _, _, e, e2 => by
    simp only [zipL, List.getElem?_cons_succ]
    exact zipL_get xs ys k (by simpa using e) (by simpa using e2)
def opZip : List D → R (List D)
  | [.lst xs, .lst ys] => .ok (zipL xs ys)
  | _ => .no
theorem di_zip {elts : List Expr} {kk : Nat} {tpos p : Pos} (hg : Gl X "zip") (hm : X.mg "zip" = none) (ha : DA false F X W [a, b] fs) (hs : starEach [a, b] X.env = (false, eval a X.env) :: starEach [b] X.env := by rfl) (hpl : (backTo pos (starEach [b] X.env)).any (·.1) = false := by rfl) : DI F X W (.Tuple elts kk tpos) (.Call (.Name "zip" p) [a, b] [] pos) (iAll opZip fs) :=
  ⟨PI.weak (pi_zip hg hm ha.pa hs hpl) fun σ H Rr ⟨sd, rel, p⟩ => tia (b := false) rel p (fun ds c fs' => by unfold opZip; split <;> exact fun z => by cases z) fun ds out e vs H2 r2 hv k => by
    unfold opZip at e
    split at e
    · cases e
      obtain ⟨v, r, rfl, h, v2, r2', rfl, h2, rfl⟩ := hv
      obtain ⟨a, vs, rfl, na, r, l⟩ := h
      obtain ⟨a2, ws, rfl, na2, r2, l2⟩ := h2
      refine ⟨a, a2, vs, ws, rfl, SqL.of r, SqL.of r2, k _ H2 (Same.refl _) fun i H' A' u kk dm => ?_⟩
      have r' := kk a _ r na
      have r2' := kk a2 _ r2 na2
      have hl1 := l.length
      have hl2 := l2.length
      rw [zipL_length]
      refine ⟨fun hi => ⟨⟨vs, ws, vs[i]'(by omega), ws[i]'(by omega), SqL.of r', SqL.of r2', List.getElem?_eq_getElem _, List.getElem?_eq_getElem _⟩, fun x H'' y => ?_⟩, fun hi => ⟨vs, ws, SqL.of r', SqL.of r2', by omega⟩⟩
      obtain ⟨T, x', y', rfl, hT, rfl, y1, y2⟩ := y
      obtain ⟨d, e2, h⟩ := l.getV (y1 vs (SqL.of r'))
      obtain ⟨d2, e3, h2⟩ := l2.getV (y2 ws (SqL.of r2'))
      exact ⟨same_upd hT, _, zipL_get _ _ i e2 e3, T, _, rfl, fun z => dm T z hT, upd_same, x', [y'], rfl, (Holds.up u d h).same (same_upd hT), y', [], rfl, (Holds.up u d2 h2).same (same_upd hT), rfl⟩
    · cases e⟩

/-! ### one's own lists and dicts are changed -/
theorem up_write {σ : St} {H : Hp} {sd : SD} {p : Addr} {o : HO} (h : Av F σ sd p) : Up H (Av F σ sd) (upd H p o) (Av F σ sd) := Up.ofOff (fun b q e n => by rw [upd_ne (fun z => n (by rw [z]; exact h))]; exact e) fun b z => .inl z
/-- a change of one's own object in slot i -/
theorem own_slot {σ : St} {H : Hp} {sd : SD} {i : Nat} {ds : List D} (rel : Rel F σ H sd) (q : sd[i]? = some (.ol ds)) : ∃ a vs, σ[i]? = some (some (.ref a)) ∧ F.H0 a = none ∧ H a = some (.lst vs) ∧ HoldsL H (Av F σ sd) ds vs ∧ Av F σ sd a := by
  obtain ⟨v, e, a, vs, rfl, n, r, l⟩ := rel.slot i _ q
  exact ⟨a, vs, e, n, r, l, .inr ⟨i, _, q, rfl, e⟩⟩
theorem own_slotK {σ : St} {H : Hp} {sd : SD} {i : Nat} {ds : List (L2.Key × D)} (rel : Rel F σ H sd) (q : sd[i]? = some (.od ds)) : ∃ a vs, σ[i]? = some (some (.ref a)) ∧ F.H0 a = none ∧ H a = some (.dK vs) ∧ HoldsK H (Av F σ sd) ds vs ∧ Av F σ sd a := by
  obtain ⟨v, e, a, vs, rfl, n, r, l⟩ := rel.slot i _ q
  exact ⟨a, vs, e, n, r, l, .inr ⟨i, _, q, rfl, e⟩⟩
theorem wr_lst {σ : St} {H : Hp} {sd : SD} {i : Nat} {ds ds' : List D} {a : Addr} {vs' : List V} (rel : Rel F σ H sd) (q : sd[i]? = some (.ol ds)) (e : σ[i]? = some (some (.ref a))) (n : F.H0 a = none) (l : HoldsL H (Av F σ sd) ds' vs') :
    Rel F σ (upd H a (.lst vs')) (sd.set i (.ol ds')) ∧ ExtS σ sd H σ (sd.set i (.ol ds')) (upd H a (.lst vs')) :=
  rel.write q rfl rfl e ⟨a, vs', rfl, n, upd_same, HoldsL.up (up_write (.inr ⟨i, _, q, rfl, e⟩)) _ l⟩
theorem wr_dk {σ : St} {H : Hp} {sd : SD} {i : Nat} {ds ds' : List (L2.Key × D)} {a : Addr} {vs' : List (L2.Key × V)} (rel : Rel F σ H sd) (q : sd[i]? = some (.od ds)) (e : σ[i]? = some (some (.ref a))) (n : F.H0 a = none) (l : HoldsK H (Av F σ sd) ds' vs') :
    Rel F σ (upd H a (.dK vs')) (sd.set i (.od ds')) ∧ ExtS σ sd H σ (sd.set i (.od ds')) (upd H a (.dK vs')) :=
  rel.write q rfl rfl e ⟨a, vs', rfl, n, upd_same, HoldsK.up (up_write (.inr ⟨i, _, q, rfl, e⟩)) _ l⟩
/-- x.append(e), x one's own list in slot i -/
def sApp (i : Nat) (f : EF) : SF := fun s => match s[i]? with
  | some (.ol ds) => sE f (fun d s => if ds.length < sizeLine then .nx (s.set i (.ol (ds ++ [d]))) else .no) s
  | _ => .no
theorem ds_append (i : Nat) {x : Str} {px apos cpos : Pos} (h : DE F X W e fa) (hN : X.N[i]? = some x := by rfl) (hv : Vis X.env.scope x := by first | exact Or.inl rfl | exact Or.inr (Or.inl rfl) | exact Or.inr (Or.inr rfl)) (hd : (x == ("__debug__" : Str)) = false := by decide)
    (hcd : (x == ("__classdict__" : Str)) = false := by decide) (hbase : attributeBase (.Name x px) "append" X.env (eval (.Name x px) X.env) = eval (.Name x px) X.env := by rfl)
    (hfew : ((backTo cpos (starEach [e] X.env)).all (fun x => !x.1) && (backToKw cpos (keywordEach [] X.env)).all (fun x => x.1.isSome)
      && decide (([e] : List Expr).length + ([] : List Keyword).length + (if ([] : List Keyword).isEmpty then 0 else 1) < 30)) = true := by rfl)
    (hline : (apos.endLine == cpos.line) = true := by rfl) (hs : starEach [e] X.env = (false, eval e X.env) :: starEach [] X.env := by rfl) (hplain : (backTo cpos (starEach [] X.env)).any (·.1) = false := by rfl) (hsw : swapsWith (.Call (.Attribute (.Name x px) "append" apos) [e] [] cpos) none pos.line X.env = pure false := by rfl) :
    DX1 F X W (.Expr (.Call (.Attribute (.Name x px) "append" apos) [e] [] cpos) pos) (sApp i fa) :=
  ⟨PS.weak (ps_expr (pe_bm PySem.F.plainAttrs_list PySem.F.slot_list_append PySem.F.type_list_append mt_append (pe_var hN hv hd hcd) (pa_cons h.pe pa_nil hs) hbase hfew hline hs hplain) hsw) fun T σ H ⟨sd, rel, p⟩ => by
    unfold sApp at p
    split at p
    · rename_i ds q
      obtain ⟨a, vs, e, n, r, l, av⟩ := own_slot rel q
      refine ⟨_, e, .inl ⟨rfl, vs, SqL.of r⟩, tsE (bb := false) rel p fun d v H2 _ s2 rel2 hv p2 => ?_⟩
      split at p2
      · rename_i hl
        obtain ⟨r2, e2⟩ := wr_lst rel2 q e n ((l.same s2).snoc hv)
        exact ⟨a, vs, v, rfl, rfl, s2 _ _ r, by rw [l.length]; exact hl, p2 _ _ r2 e2⟩
      · exact p2.elim
    · exact p.elim⟩
/-- x.extend(e) -/
def sExtend (i : Nat) (f : EF) : SF := fun s => match s[i]? with
  | some (.ol ds) => sE f (fun d s => match d with
    | .lst es => if ds.length + es.length ≤ sizeLine then .nx (s.set i (.ol (ds ++ es))) else .no
    | _ => .no) s
  | _ => .no
theorem ds_extend (i : Nat) {x : Str} {px apos cpos : Pos} (h : DE F X W e fa) (hN : X.N[i]? = some x := by rfl) (hv : Vis X.env.scope x := by first | exact Or.inl rfl | exact Or.inr (Or.inl rfl) | exact Or.inr (Or.inr rfl)) (hd : (x == ("__debug__" : Str)) = false := by decide)
    (hcd : (x == ("__classdict__" : Str)) = false := by decide) (hbase : attributeBase (.Name x px) "extend" X.env (eval (.Name x px) X.env) = eval (.Name x px) X.env := by rfl)
    (hfew : ((backTo cpos (starEach [e] X.env)).all (fun x => !x.1) && (backToKw cpos (keywordEach [] X.env)).all (fun x => x.1.isSome)
      && decide (([e] : List Expr).length + ([] : List Keyword).length + (if ([] : List Keyword).isEmpty then 0 else 1) < 30)) = true := by rfl)
    (hline : (apos.endLine == cpos.line) = true := by rfl) (hs : starEach [e] X.env = (false, eval e X.env) :: starEach [] X.env := by rfl) (hplain : (backTo cpos (starEach [] X.env)).any (·.1) = false := by rfl) (hsw : swapsWith (.Call (.Attribute (.Name x px) "extend" apos) [e] [] cpos) none pos.line X.env = pure false := by rfl) :
    DX1 F X W (.Expr (.Call (.Attribute (.Name x px) "extend" apos) [e] [] cpos) pos) (sExtend i fa) :=
  ⟨PS.weak (ps_expr (pe_bm PySem.F.plainAttrs_list PySem.F.slot_list_extend PySem.F.type_list_extend mt_extend (pe_var hN hv hd hcd) (pa_cons h.pe pa_nil hs) hbase hfew hline hs hplain) hsw) fun T σ H ⟨sd, rel, p⟩ => by
    unfold sExtend at p
    split at p
    · rename_i ds q
      obtain ⟨a, vs, e, n, r, l, av⟩ := own_slot rel q
      refine ⟨_, e, .inl ⟨rfl, vs, SqL.of r⟩, tsE (bb := false) rel p fun d v H2 _ s2 rel2 hv p2 => ?_⟩
      split at p2
      · obtain ⟨b, ws, rfl, nb, rb, lb⟩ := hv
        split at p2
        · rename_i hl
          obtain ⟨r2, e2⟩ := wr_lst rel2 q e n ((l.same s2).append lb)
          exact ⟨a, b, vs, ws, rfl, rfl, s2 _ _ r, rb, by rw [l.length, lb.length]; exact hl, p2 _ _ r2 e2⟩
        · exact p2.elim
      · exact p2.elim
    · exact p.elim⟩
/-- x.pop(), the item not looked at -/
def sPop (i : Nat) : SF := fun s => match s[i]? with
  | some (.ol ds) => if ds = [] then .no else .nx (s.set i (.ol ds.dropLast))
  | _ => .no
theorem ds_pop (i : Nat) {x : Str} {px apos cpos : Pos} (hN : X.N[i]? = some x := by rfl) (hv : Vis X.env.scope x := by first | exact Or.inl rfl | exact Or.inr (Or.inl rfl) | exact Or.inr (Or.inr rfl)) (hd : (x == ("__debug__" : Str)) = false := by decide)
    (hcd : (x == ("__classdict__" : Str)) = false := by decide) (hbase : attributeBase (.Name x px) "pop" X.env (eval (.Name x px) X.env) = eval (.Name x px) X.env := by rfl)
    (hline : (apos.endLine == cpos.line) = true := by rfl) (hsw : swapsWith (.Call (.Attribute (.Name x px) "pop" apos) [] [] cpos) none pos.line X.env = pure false := by rfl) :
    DX1 F X W (.Expr (.Call (.Attribute (.Name x px) "pop" apos) [] [] cpos) pos) (sPop i) :=
  ⟨PS.weak (ps_expr (pe_bm0 PySem.F.plainAttrs_list PySem.F.slot_list_pop PySem.F.type_list_pop mt_pop (pe_var hN hv hd hcd) hbase hline) hsw) fun T σ H ⟨sd, rel, p⟩ => by
    unfold sPop at p
    split at p
    · rename_i ds q
      split at p
      · exact p.elim
      · rename_i hne
        obtain ⟨a, vs, e, n, r, l, av⟩ := own_slot rel q
        have hl := l.length
        have h0 : 0 < vs.length := by
          rw [hl]
          cases ds with
          | nil => exact absurd rfl hne
          | cons _ _ => simp
        obtain ⟨r2, e2⟩ := wr_lst rel q e n l.dropLast
        exact ⟨_, e, .inl ⟨rfl, vs, SqL.of r⟩, a, vs, vs[vs.length - 1], rfl, rfl, r, List.getElem?_eq_getElem _, p _ _ r2 e2⟩
    · exact p.elim⟩
/-- x.clear() -/
def sClear (i : Nat) : SF := fun s => match s[i]? with
  | some (.ol ds) => .nx (s.set i (.ol []))
  | _ => .no
theorem ds_clear (i : Nat) {x : Str} {px apos cpos : Pos} (hN : X.N[i]? = some x := by rfl) (hv : Vis X.env.scope x := by first | exact Or.inl rfl | exact Or.inr (Or.inl rfl) | exact Or.inr (Or.inr rfl)) (hd : (x == ("__debug__" : Str)) = false := by decide)
    (hcd : (x == ("__classdict__" : Str)) = false := by decide) (hbase : attributeBase (.Name x px) "clear" X.env (eval (.Name x px) X.env) = eval (.Name x px) X.env := by rfl)
    (hline : (apos.endLine == cpos.line) = true := by rfl) (hsw : swapsWith (.Call (.Attribute (.Name x px) "clear" apos) [] [] cpos) none pos.line X.env = pure false := by rfl) :
    DX1 F X W (.Expr (.Call (.Attribute (.Name x px) "clear" apos) [] [] cpos) pos) (sClear i) :=
  ⟨PS.weak (ps_expr (pe_bm0 PySem.F.plainAttrs_list PySem.F.slot_list_clear PySem.F.type_list_clear mt_clear (pe_var hN hv hd hcd) hbase hline) hsw) fun T σ H ⟨sd, rel, p⟩ => by
    unfold sClear at p
    split at p
    · rename_i ds q
      obtain ⟨a, vs, e, n, r, l, av⟩ := own_slot rel q
      obtain ⟨r2, e2⟩ := wr_lst (ds' := []) (vs' := []) rel q e n rfl
      exact ⟨_, e, .inl ⟨rfl, vs, SqL.of r⟩, a, vs, rfl, rfl, r, p _ _ r2 e2⟩
    · exact p.elim⟩
/-- x[k] = e, x one's own list or dict -/
def sPutI (i : Nat) (fv fk : EF) : SF := fun s => match s[i]? with
  | some (.ol ds) => sE fv (fun d s => sE fk (fun k s => match k with
    | .int j => match ixN ds.length j with
      | some n => .nx (s.set i (.ol (ds.set n d)))
      | none => .no
    | _ => .no) s) s
  | some (.od kvs) => sE fv (fun d s => sE fk (fun k s => match keyD k with
    | some key => if kvs.length < sizeLine then .nx (s.set i (.od (putD kvs key d))) else .no
    | none => .no) s) s
  | _ => .no
theorem PS.or {X : Cx} {st : Stmt} {t t' : TS} (h : PS X st t) (h' : PS X st t') : PS X st (fun D σ H => t D σ H ∨ t' D σ H) := ⟨fun pins s σ H D I q => q.elim (h.run pins s σ H D I) (h'.run pins s σ H D I)⟩
theorem ds_putI (i : Nat) {x : Str} {px pos' : Pos} (hu : X.A.units + 64 < cLine) (hv : DE F X W e fa) (hk : DB F X W b fb) (hN : X.N[i]? = some x := by rfl) (hvs : Vis X.env.scope x := by first | exact Or.inl rfl | exact Or.inr (Or.inl rfl) | exact Or.inr (Or.inr rfl)) (hd : (x == ("__debug__" : Str)) = false := by decide)
    (hcd : (x == ("__classdict__" : Str)) = false := by decide) (hs : swapsWith e (some (.Subscript (.Name x px) b pos')) pos.line X.env = pure false := by rfl)
    (hs1 : swapsWithSole [.Subscript (.Name x px) b pos'] e pos.line X.env = pure false := by rfl) (hw : swappedStores [.Subscript (.Name x px) b pos'] e X.env = pure none := by rfl) (h1 : (assignEach [.Subscript (.Name x px) b pos'] X.env).map (·.2) = [assign (.Subscript (.Name x px) b pos') X.env] := by rfl)
    (ha : ∀ v, assign (.Subscript (.Name x px) b pos') X.env v = (do
      let ov ← holding [v] (eval (.Name x px) X.env)
      let iv ← holding [v, ov] (eval b X.env)
      standAt pos'
      holding [v, ov, iv] (setItem ov iv v)
      release [v, ov, iv] []) := by intro _; rfl) :
    DX1 F X W (.Assign [.Subscript (.Name x px) b pos'] e pos) (sPutI i fa fb) :=
  ⟨PS.weak (PS.or (ps_asg hv.pe (pg_sub (pe_var hN hvs hd hcd) hk.pe set_list ha) hs1 hw h1) (ps_dput (by omega) (pe_var hN hvs hd hcd) hk.pe hv.pe hs)) fun T σ H ⟨sd, rel, p⟩ => by
    unfold sPutI at p
    split at p
    · rename_i ds q
      refine .inl (tsE (bb := false) rel p fun d v H2 _ s2 rel2 hv p2 => ?_)
      obtain ⟨a, vs, e, n, r, l, av⟩ := own_slot rel2 q
      refine ⟨_, e, tsE (bb := true) rel2 p2 fun k w H3 _ s3 rel3 hw p3 => ?_⟩
      split at p3
      · cases hw
        split at p3
        · rename_i m hm
          have l3 := (l.same s3).set m (hv.same s3)
          obtain ⟨r2, e2⟩ := wr_lst rel3 q e n l3
          exact ⟨a, vs, _, m, rfl, rfl, s3 _ _ r, by rw [l.length]; exact hm, p3 _ _ r2 e2⟩
        · exact p3.elim
      · exact p3.elim
    · rename_i kvs q
      refine .inr (tsE (bb := false) rel p fun d v H2 _ s2 rel2 hv p2 => ?_)
      obtain ⟨a, vs, e, n, r, l, av⟩ := own_slotK rel2 q
      refine ⟨_, e, tsE (bb := true) rel2 p2 fun k w H3 _ s3 rel3 hw p3 => ?_⟩
      split at p3
      · rename_i key hk
        split at p3
        · rename_i hl
          have := keyD_v hw hk
          subst this
          have l3 := (l.same s3).put key (hv.same s3)
          obtain ⟨r2, e2⟩ := wr_dk rel3 q e n l3
          exact ⟨a, _, rfl, DPut.k (s3 _ _ r) (by rw [l.length]; exact hl), p3 _ _ r2 e2⟩
        · exact p3.elim
      · exact p3.elim
    · exact p.elim⟩
end DS
set_option Elab.async false
set_option linter.all false
set_option maxRecDepth 100000
set_option maxHeartbeats 2000000
namespace DS
open PySem L2
variable {F : Fr} {X : Cx} {W : WX} {a b c e : Expr} {fa fb fc : EF} {pos : Pos} {st : Stmt} {sts : List Stmt} {f g : SF} {tt : TF} {es : List Expr} {fs : List EF}

/-! ### a comprehension's block -/
def wipeS (sd : SD) : List Nat → SD
  | [] => sd
  | v :: vs => (wipeS sd vs).set v .un
def bwS : Sl → Sl
  | .ol ds => .bw (.lst ds)
  | .od kvs => .bw (.dk kvs)
  | .oi C fs => .bw (.ins C fs)
  | .xc => .un
  | s => s
def blkS (sd : SD) : SD := sd.map bwS
theorem bwS_own (s : Sl) : (bwS s).own = false := by cases s <;> rfl
theorem Rel.wipe {σ : St} {H : Hp} {sd : SD} (rel : Rel F σ H sd) : ∀ vs : List Nat, Rel F (L2.wipe σ vs) H (wipeS sd vs)
  | [] => rel
  | v :: vs => (Rel.wipe rel vs).unset v none
theorem Rel.block {σ : St} {H H' : Hp} {sd : SD} {D : Addr} (rel : Rel F σ H sd) (hD : H D = none) (s : Same H H') (hD' : H' D ≠ none) : Rel ⟨H, fun a => Av F σ sd a ∨ a = D, 0⟩ σ H' (blkS sd) := by
  have noown : ∀ i a, ¬ OwnAt σ (blkS sd) i a := fun i a ⟨t, e, o, _⟩ => by
    unfold blkS at e
    rw [List.getElem?_map, Option.map_eq_some_iff] at e
    obtain ⟨t', _, rfl⟩ := e
    rw [bwS_own] at o
    cases o
  have av : ∀ a, Av ⟨H, fun a => Av F σ sd a ∨ a = D, 0⟩ σ (blkS sd) a → Av F σ sd a ∨ a = D := fun a z => z.elim id fun ⟨i, z⟩ => absurd z (noown i a)
  have u : Up H (Av F σ sd) H' (Av ⟨H, fun a => Av F σ sd a ∨ a = D, 0⟩ σ (blkS sd)) := Up.ofOff (fun b o h _ => s _ _ h) fun b z => (av b z).imp_right fun z => by rw [z]; exact hD
  have k : ∀ a, H a ≠ none → ¬ Av F σ sd a → ¬ Av ⟨H, fun a => Av F σ sd a ∨ a = D, 0⟩ σ (blkS sd) a := u.off
  refine ⟨s, by simp [blkS, rel.len], fun i t e => ?_, fun i j a h1 _ => absurd h1 (noown i a), fun a ⟨i, z⟩ => absurd z (noown i a), fun a z => z.elim (fun z => Same.dom s a (rel.dom z)) fun z => by rw [z]; exact hD'⟩
  unfold blkS at e
  rw [List.getElem?_map, Option.map_eq_some_iff] at e
  obtain ⟨t', e, rfl⟩ := e
  obtain ⟨v, ev, h⟩ := rel.slot i t' e
  refine ⟨v, ev, ?_⟩
  cases t' with
  | un => trivial
  | xc => trivial
  | sh d => obtain ⟨x, e, h⟩ := h; exact ⟨x, e, Holds.up u d h⟩
  | bw d => obtain ⟨x, e, h⟩ := h; exact ⟨x, e, HoldsB.less k (HoldsB.same rel.same h)⟩
  | ol ds => obtain ⟨a, vs, e, n, r, l⟩ := h; exact ⟨_, e, HoldsB.less (A := Av F σ sd) (d := .lst ds) k ⟨a, vs, rfl, r, l⟩⟩
  | od ds => obtain ⟨a, vs, e, n, r, l⟩ := h; exact ⟨_, e, HoldsB.less (A := Av F σ sd) (d := .dk ds) k ⟨a, vs, rfl, .inl r, l⟩⟩
  | oi C ds => obtain ⟨a, dx, vs, e, n, r, l⟩ := h; exact ⟨_, e, HoldsB.less (A := Av F σ sd) (d := .ins C ds) k ⟨a, dx, vs, rfl, r, l⟩⟩
theorem wipe_get (σ : St) : ∀ (vs : List Nat) (j : Nat), (L2.wipe σ vs)[j]? = if j ∈ vs ∧ j < σ.length then some none else σ[j]?
  | [], j => by simp [L2.wipe]
  | v :: vs, j => by
    have ih := wipe_get σ vs j
    unfold L2.wipe
    by_cases hj : v = j
    · subst hj
      by_cases hl : v < σ.length
      · rw [List.getElem?_set_self (by rw [L2.wipe_length]; exact hl), if_pos ⟨by simp, hl⟩]
      · rw [List.getElem?_eq_none (by simp [L2.wipe_length]; omega), if_neg (fun z => hl z.2)]
        rw [List.getElem?_eq_none (by omega)]
    · rw [List.getElem?_set_ne hj, ih]
      by_cases hm : j ∈ vs ∧ j < σ.length
      · rw [if_pos hm, if_pos ⟨List.mem_cons_of_mem _ hm.1, hm.2⟩]
      · rw [if_neg hm, if_neg fun z => hm ⟨(List.mem_cons.mp z.1).elim (fun z => absurd z.symm hj) id, z.2⟩]
theorem wipe_off {σ σ' : St} {vs ts : List Nat} (h : Off ts σ σ') (hs : ∀ i ∈ ts, i ∈ vs) : L2.wipe σ' vs = L2.wipe σ vs := by
  refine List.ext_getElem? fun j => ?_
  rw [wipe_get, wipe_get, h.1]
  by_cases hj : j ∈ vs
  · by_cases hl : j < σ.length
    · rw [if_pos ⟨hj, hl⟩, if_pos ⟨hj, hl⟩]
    · have e1 := h.1
      rw [if_neg (fun z => hl z.2), if_neg (fun z => hl z.2), List.getElem?_eq_none (by omega), List.getElem?_eq_none (by omega)]
  · rw [if_neg (fun z => hj z.1), if_neg (fun z => hj z.1)]
    exact h.2 j fun z => hj (hs j z)
theorem wipe_wipe_off {σ σ' : St} {vs ts : List Nat} (h : Off ts (L2.wipe σ vs) σ') (hs : ∀ i ∈ ts, i ∈ vs) : L2.wipe σ' vs = L2.wipe σ vs := by
  rw [wipe_off h hs]
  refine List.ext_getElem? fun j => ?_
  rw [wipe_get, L2.wipe_length]
  by_cases hj : j ∈ vs ∧ j < σ.length
  · rw [if_pos hj, wipe_get, if_pos hj]
  · rw [if_neg hj]

theorem wipeS_own (sd : SD) : ∀ (vs : List Nat) (b : Nat) (s' : Sl), (wipeS (blkS sd) vs)[b]? = some s' → s'.own = false
  | [], b, s', e => by
    unfold wipeS blkS at e
    rw [List.getElem?_map, Option.map_eq_some_iff] at e
    obtain ⟨t, _, rfl⟩ := e
    exact bwS_own t
  | v :: vs, b, s', e => by
    unfold wipeS at e
    by_cases hv : v = b
    · subst hv
      rw [List.getElem?_set] at e
      simp only [if_true] at e
      split at e
      · cases e; rfl
      · cases e
    · rw [List.getElem?_set_ne hv] at e
      exact wipeS_own sd vs b s' e
/-! ### any frame -/
theorem PE.exF {X : Cx} {e : Expr} {t : Fr → TE} (h : ∀ F, PE X e (t F)) : PE X e (fun σ H Q => ∃ F, t F σ H Q) := ⟨fun pins s σ H Q I ⟨F, q⟩ => (h F).run pins s σ H Q I q⟩
theorem PG.exF {X : Cx} {e : Expr} {t : Fr → TG} (h : ∀ F, PG X e (t F)) : PG X e (fun v σ H Q => ∃ F, t F v σ H Q) := ⟨fun pins s σ H v u Q I r ⟨F, q⟩ => (h F).run pins s σ H v u Q I r q⟩
theorem PTs.exF {X : Cx} {e : List Expr} {t : Fr → TT} (h : ∀ F, PTs X e (t F)) : PTs X e (fun σ H Q => ∃ F, t F σ H Q) := ⟨fun pins s σ H Q I ⟨F, q⟩ => (h F).run pins s σ H Q I q⟩
theorem PI.exF {X : Cx} {g e : Expr} {t : Fr → TI} (h : ∀ F, PI X g e (t F)) : PI X g e (fun σ H Q => ∃ F, t F σ H Q) := ⟨fun pins s σ H Q I ⟨F, q⟩ => (h F).run pins s σ H Q I q⟩
structure DTs (F : Fr) (X : Cx) (W : WX) (ifs : List Expr) (f : TF) : Prop where
  pt : PTs X ifs (TTx F X.mg W f)
def tYesF : TF := fun _ => .ok true
theorem dts_nil : DTs F X W [] tYesF := ⟨⟨fun pins s σ H Q I ⟨sd, rel, p⟩ => pts_nil.run pins s σ H Q I (p H (Same.refl H))⟩⟩
theorem dts_one (h : DT F X W c tt) : DTs F X W [c] tt := ⟨pts_one h.pt⟩
abbrev W0 : WX := fun _ _ _ _ => False
def noX {α : Type} : R α → R α
  | .ok a => .ok a
  | _ => .no
/-- the items that a clause's turns give -/
def lcL (g : GF) (t : TF) (el : EF) (s0 : SD) : List D → R (List D)
  | [] => .ok []
  | d :: ds => match g d s0 with
    | none => .no
    | some s1 => (noX (t s1)).bind fun b => if b = true then (noX (el s1)).bind fun y => (lcL g t el s0 ds).bind fun r => .ok (y :: r) else lcL g t el s0 ds
def nLc (it : IF) (g : GF) (t : TF) (el : EF) (vs : List Nat) : NF := fun s => (it s).bind fun ds => (lcL g t el (wipeS (blkS s) vs) ds).bind fun r => if r.length ≤ sizeLine then .ok (.nl r) else .no
theorem lcL_ex {g : GF} {t : TF} {el : EF} {s0 : SD} : ∀ {ds : List D} {c fs}, lcL g t el s0 ds ≠ .ex c fs
  | [], _, _ => fun z => by cases z
  | d :: ds, c, fs => fun z => by
    unfold lcL at z
    cases q : g d s0 with
    | none => rw [q] at z; cases z
    | some s1 =>
      rw [q] at z
      dsimp only at z
      cases q2 : t s1 with
      | no => rw [q2] at z; cases z
      | ex _ _ => rw [q2] at z; cases z
      | ok b =>
        rw [q2] at z
        simp only [noX, R.bind_ok] at z
        cases b with
        | false => rw [if_neg Bool.false_ne_true] at z; exact lcL_ex z
        | true =>
          rw [if_pos rfl] at z
          cases q3 : el s1 with
          | no => rw [q3] at z; cases z
          | ex _ _ => rw [q3] at z; cases z
          | ok y =>
            rw [q3] at z
            simp only [noX, R.bind_ok] at z
            cases q4 : lcL g t el s0 ds with
            | no => rw [q4] at z; cases z
            | ex _ _ => exact lcL_ex q4
            | ok r => rw [q4] at z; cases z
/-- the reading of a one-clause comprehension, by plain data -/
theorem lc_read {fi : IF} {gg : GF} {tl vs : List Nat} {fe : EF} {mg : Str → Option Value} (hsub : ∀ i ∈ tl, i ∈ vs) {σ : L2.St} {H : Hp} {Q : VK} (h : TNx F mg W (nLc fi gg tt fe vs) σ H Q) :
    tLc (TIx F mg W fi) (fun v σ H Q => ∃ F, TGx F gg tl v σ H Q) (fun σ H Q => ∃ F, TTx F mg W0 tt σ H Q) (fun σ H Q => ∃ F, TEx false F mg W0 fe σ H Q) vs σ H Q := by
  obtain ⟨sd, rel, p⟩ := h
  refine ⟨sd, rel, ?_⟩
  unfold nLc at p
  cases q : fi sd with
  | no => rw [q] at p; exact p
  | ex c fs => rw [q] at p; exact p
  | ok ds =>
    rw [q, R.bind_ok] at p
    intro J H1 s1 y D hD
    have rel1 := rel.mono s1
    cases q2 : lcL gg tt fe (wipeS (blkS sd) vs) ds with
    | no => rw [q2] at p; exact p.elim
    | ex c fs => exact absurd q2 lcL_ex
    | ok out =>
      rw [q2, R.bind_ok] at p
      by_cases hz : out.length ≤ sizeLine
      · rw [if_pos hz] at p
        refine ⟨fun i m H' => m = ds.length - i ∧ i ≤ ds.length ∧ ∃ accD accV rest, H' D = some (.lst accV) ∧ HoldsL H' (fun a => Av F σ sd a ∨ a = D) accD accV ∧ Same H1 H' ∧ lcL gg tt fe (wipeS (blkS sd) vs) (ds.drop i) = .ok rest ∧ out = accD ++ rest,
          ⟨ds.length, rfl, Nat.zero_le _, [], [], out, upd_same, rfl, same_upd hD, q2, rfl⟩, ?_⟩
        rintro i m H2 ⟨rfl, hi, accD, accV, rest, eD, hA, s2, er, eo⟩
        have rb := (rel1.block hD s2 (by rw [eD]; simp)).wipe vs
        generalize hF : (⟨H1, fun a => Av F σ sd a ∨ a = D, 0⟩ : Fr) = F' at rb
        generalize hs0 : wipeS (blkS sd) vs = s0 at rb er ⊢
        have avB : ∀ {σ' : St} {sd' : SD} (a : Addr), (Av F σ sd a ∨ a = D) → Av F' σ' sd' a := fun a z => .inl (by rw [← hF]; exact z)
        have noAv : ∀ a, Av F' (L2.wipe σ vs) s0 a → Av F σ sd a ∨ a = D := fun a z => by
          rcases z with z | z
          · rw [← hF] at z; exact z
          · obtain ⟨j, s', e, o, _⟩ := z
            rw [← hs0] at e
            rw [wipeS_own sd vs j s' e] at o
            cases o
        have u2 : Up H1 (Av F σ sd) H2 (Av F' (L2.wipe σ vs) s0) := Up.ofOff (fun b o h _ => s2 _ _ h) fun b z => (noAv b z).imp_right fun z => by rw [z]; exact hD
        have yy := y i H2 (Av F' (L2.wipe σ vs) s0) u2 (fun b o h _ => s2 _ _ h) (fun a z => rb.dom z)
        by_cases hlt : i < ds.length
        · refine .inr ⟨(yy.1 hlt).1, fun H' => ∃ accD accV rest, H' D = some (.lst accV) ∧ HoldsL H' (fun a => Av F σ sd a ∨ a = D) accD accV ∧ Same H1 H' ∧ lcL gg tt fe s0 (ds.drop (i + 1)) = .ok rest ∧ out = accD ++ rest, fun H' h => ⟨ds.length - (i + 1), by omega, rfl, hlt, h⟩, fun x H3 yx => ?_⟩
          obtain ⟨s3, d, ed, hd⟩ := (yy.1 hlt).2 x H3 yx
          have edrop : ds.drop i = d :: ds.drop (i + 1) := by
            rw [List.drop_eq_getElem_cons hlt]
            congr 1
            rw [List.getElem?_eq_getElem hlt] at ed
            exact Option.some.inj ed
          rw [edrop] at er
          unfold lcL at er
          have r3 := rb.mono s3
          refine ⟨F', s0, d, r3, hd, ?_⟩
          cases q3 : gg d s0 with
          | none => rw [q3] at er; cases er
          | some s4 =>
            rw [q3] at er
            dsimp only at er
            intro σ4 r4 own4 off4
            refine ⟨wipe_wipe_off off4 hsub, F', s4, r4, ?_⟩
            cases q4 : tt s4 with
            | no => rw [q4] at er; cases er
            | ex c fs => rw [q4] at er; cases er
            | ok bb =>
              rw [q4] at er
              simp only [noX, R.bind_ok] at er
              intro H5 s5
              have r5 := r4.mono s5
              have s25 : Same H2 H5 := s3.trans s5
              cases bb with
              | false =>
                rw [if_neg Bool.false_ne_true] at er ⊢
                exact ⟨accD, accV, rest, s25 _ _ eD, hA.same s25, s2.trans s25, er, eo⟩
              | true =>
                rw [if_pos rfl] at er ⊢
                refine ⟨F', s4, r5, ?_⟩
                cases q5 : fe s4 with
                | no => rw [q5] at er; cases er
                | ex c fs => rw [q5] at er; cases er
                | ok yv =>
                  rw [q5] at er
                  simp only [noX, R.bind_ok] at er
                  intro v H6 s6 hv
                  have s26 : Same H2 H6 := s25.trans s6
                  cases q6 : lcL gg tt fe s0 (ds.drop (i + 1)) with
                  | no => rw [q6] at er; cases er
                  | ex c fs => exact absurd q6 lcL_ex
                  | ok r =>
                    rw [q6] at er
                    cases er
                    have hv' : Holds H6 (fun a => Av F σ sd a ∨ a = D) yv v := Holds.less hv fun a z => avB a z
                    have hl := hA.length
                    have hlen : accD.length < out.length := by rw [eo]; simp
                    refine ⟨accV, s26 _ _ eD, by omega, accD ++ [yv], accV ++ [v], r, upd_same, ?_, fun b o h => ?_, rfl, by rw [eo]; simp⟩
                    · have uD : Up H6 (fun a => Av F σ sd a ∨ a = D) (upd H6 D (.lst (accV ++ [v]))) (fun a => Av F σ sd a ∨ a = D) := Up.ofOff (fun b q e n => by rw [upd_ne (fun z => n (.inr z))]; exact e) fun b z => .inl z
                      exact HoldsL.up uD _ ((hA.same s26).snoc hv')
                    · rw [upd_ne (ne_of_none h hD)]
                      exact (s2.trans s26) _ _ h
        · have ei : i = ds.length := by omega
          subst ei
          rw [List.drop_length] at er
          unfold lcL at er
          cases er
          rw [List.append_nil] at eo
          subst eo
          refine .inl ⟨yy.2 (Nat.le_refl _), p D H2 (s1.trans s2) (s1.free hD) (by rw [eD]; simp) fun F2 h0 => ⟨D, accV, rfl, h0, eD, hA⟩⟩
      · rw [if_neg hz] at p; exact p.elim
theorem dn_lc {elt tg iter : Expr} {ifs : List Expr} {scope : Scope} (own : List (Str × Nat)) {fi : IF} {gg : GF} {tl : List Nat} {fe : EF} (hc : X.calm = true) (hN : X.N.Nodup) (hi : DI F X W tg iter fi) (ok : BlkOk X.N X.env.scope scope own)
    (hg : ∀ (F : Fr) (s : Shared) (H : Hp) (C : Addr) (cl : List (Str × Addr)) (fp : List Addr), DG F (X.blk s H scope (compEnvC scope cl C X.env) fp) tg gg tl)
    (ht : ∀ (F : Fr) (s : Shared) (H : Hp) (C : Addr) (cl : List (Str × Addr)) (fp : List Addr), DTs F (X.blk s H scope (compEnvC scope cl C X.env) fp) W0 ifs tt)
    (he : ∀ (F : Fr) (s : Shared) (H : Hp) (C : Addr) (cl : List (Str × Addr)) (fp : List Addr), DE F (X.blk s H scope (compEnvC scope cl C X.env) fp) W0 elt fe)
    (hsub : ∀ i ∈ tl, i ∈ own.map (·.2)) (hs : ∀ x, foldedSetIterable iter X.env x = pure x := by intro _; rfl) :
    DN F X W (.ListComp elt [⟨tg, iter, ifs, 0⟩] scope pos) (nLc fi gg tt fe (own.map (·.2))) :=
  ⟨PE.weak (pe_lc hc hN hi.pi ok (fun s H C cl fp => PG.exF (t := fun F => TGx F gg tl) fun F => (hg F s H C cl fp).pg) (fun s H C cl fp => PTs.exF (t := fun F => TTx F X.mg W0 tt) fun F => (ht F s H C cl fp).pt) (fun s H C cl fp => PE.exF (t := fun F => TEx false F X.mg W0 fe) fun F => (he F s H C cl fp).pe) hs) fun σ H Q h => lc_read hsub h⟩
/-- y = [e for .. in ..] on one line -/
theorem ds_setLc (i : Nat) {y : Str} {py spos : Pos} {elt tg iter : Expr} {ifs : List Expr} {scope : Scope} (own : List (Str × Nat)) {fi : IF} {gg : GF} {tl : List Nat} {fe : EF} (hc : X.calm = true) (hN : X.N.Nodup) (hy : X.N[i]? = some y) (hyl : X.env.scope.names.lookup y = some .local)
    (hsw : swapsWith (.ListComp elt [⟨tg, iter, ifs, 0⟩] scope pos) (some (.Name y py)) spos.line X.env = pure true) (hi : DI F X W tg iter fi) (ok : BlkOk X.N X.env.scope scope own)
    (hg : ∀ (F : Fr) (s : Shared) (H : Hp) (C : Addr) (cl : List (Str × Addr)) (fp : List Addr), DG F (X.blk s H scope (compEnvC scope cl C X.env) fp) tg gg tl)
    (ht : ∀ (F : Fr) (s : Shared) (H : Hp) (C : Addr) (cl : List (Str × Addr)) (fp : List Addr), DTs F (X.blk s H scope (compEnvC scope cl C X.env) fp) W0 ifs tt)
    (he : ∀ (F : Fr) (s : Shared) (H : Hp) (C : Addr) (cl : List (Str × Addr)) (fp : List Addr), DE F (X.blk s H scope (compEnvC scope cl C X.env) fp) W0 elt fe)
    (hsub : ∀ i ∈ tl, i ∈ own.map (·.2)) (hs : ∀ x, foldedSetIterable iter X.env x = pure x := by intro _; rfl) :
    DX1 F X W (.Assign [.Name y py] (.ListComp elt [⟨tg, iter, ifs, 0⟩] scope pos) spos) (sSetN i (nLc fi gg tt fe (own.map (·.2)))) :=
  ⟨PS.weak (ps_setLc hc hN hy hyl hsw hi.pi ok (fun s H C cl fp => PG.exF (t := fun F => TGx F gg tl) fun F => (hg F s H C cl fp).pg) (fun s H C cl fp => PTs.exF (t := fun F => TTx F X.mg W0 tt) fun F => (ht F s H C cl fp).pt) (fun s H C cl fp => PE.exF (t := fun F => TEx false F X.mg W0 fe) fun F => (he F s H C cl fp).pe) hs)
    fun T σ H ⟨sd, rel, p⟩ => lc_read hsub (tsN i rel p fun _ _ h => h)⟩
end DS
set_option Elab.async false
set_option linter.all false
set_option maxRecDepth 100000
set_option maxHeartbeats 2000000
namespace DS
open PySem L2 PyProof.Rows
variable {F : Fr} {X : Cx} {W : WX} {a b c e o : Expr} {fa fb fc : EF} {pos : Pos} {st : Stmt} {sts : List Stmt} {f g : SF} {tt : TF} {es : List Expr} {fs : List EF}

/-! ### y = [..] on one line -/
theorem tn_of_te {mg : Str → Option Value} {σ : L2.St} {H : Hp} {Q : VK} {fn : NF} (h : TEx false F mg W (eN fn) σ H Q) : TNx F mg W fn σ H Q := by
  obtain ⟨sd, rel, p⟩ := h
  refine ⟨sd, rel, ?_⟩
  unfold eN at p
  cases q : fn sd with
  | no => rw [q] at p; exact p
  | ex c fs => rw [q] at p; exact p
  | ok n =>
    rw [q, R.bind_ok] at p
    intro pa H' s hn hp h
    refine p _ H' s ?_
    have nav : ¬ Av F σ sd pa := fun z => rel.dom z hn
    have h := h ⟨fun _ => none, fun _ => False, 0⟩ rfl
    cases n with
    | nl ds => obtain ⟨a, vs, e, _, r, l⟩ := h; cases e; exact ⟨pa, vs, rfl, nav, r, l.less fun _ z => .inl z⟩
    | nd ds => obtain ⟨a, vs, e, _, r, l⟩ := h; cases e; exact ⟨pa, vs, rfl, nav, .inl r, HoldsK.up (up_own fun _ z => .inl z) _ l⟩

/-! ### the promise of a def by a function on plain data -/
def PostD (mg : Str → Option Value) (B : Addr → Prop) (r : R D) (H : Hp) (Q : VK) (E : XK) : Prop := match r with
  | .ok d => ∀ v H', Same H H' → Holds H' B d v → Q v H'
  | .ex c fs => ∀ cls da H', Same H H' → ExRep mg H' B c fs cls da → E cls da H'
  | .no => False
def spD (mg : Str → Option Value) (n : Nat) (g : List D → R D) : Sp := fun vs H Q E => vs.length = n ∧ ∃ ds B, HoldsL H B ds vs ∧ (∀ a, B a → H a ≠ none) ∧ PostD mg B (g ds) H Q E
def retOf : SO → R D
  | .rt d => .ok d
  | .rn n => .ok n.d
  | .nx _ => .ok .non
  | .ex c fs _ => .ex c fs
  | _ => .no
/-- a body run: the parameters, then so many further slots -/
def runD (k : Nat) (f : SF) (ds : List D) : R D := retOf (f (ds.map .sh ++ List.replicate k .un))
section
variable {P : Program} {w : World} {K : PySem.W.Frag} {mg : Str → Option Value} {base : Heap}
theorem start_rel {H : Hp} {B : Addr → Prop} {N : List Str} {ds : List D} {vs : List V} {k : Nat} (h : HoldsL H B ds vs) (hB : ∀ a, B a → H a ≠ none) (hk : N.length - vs.length = k) : Rel ⟨H, B, 0⟩ (L2.start N vs) H (ds.map .sh ++ List.replicate k .un) := by
  subst hk
  have hl := h.length
  have hown : ∀ (i : Nat) (s : Sl), (ds.map Sl.sh ++ List.replicate (N.length - vs.length) Sl.un)[i]? = some s → s.own = false := fun i s e => by
    rcases List.mem_append.mp (List.mem_of_getElem? e) with m | m
    · obtain ⟨d, _, rfl⟩ := List.mem_map.mp m; rfl
    · rw [(List.mem_replicate.mp m).2]; rfl
  have noown : ∀ i a, ¬ OwnAt (L2.start N vs) (ds.map Sl.sh ++ List.replicate (N.length - vs.length) Sl.un) i a := fun i a ⟨t, e, o, _⟩ => by
    rw [hown i t e] at o; cases o
  refine ⟨Same.refl _, by simp [L2.start, hl], fun i s e => ?_, fun i j a h1 _ => absurd h1 (noown i a), fun a ⟨i, z⟩ => absurd z (noown i a), hB⟩
  have hi : i < (L2.start N vs).length := by
    have := (List.getElem?_eq_some_iff.mp e).1
    simpa [L2.start, hl] using this
  by_cases hd : i < ds.length
  · rw [List.getElem?_append_left (by simpa using hd), List.getElem?_map, List.getElem?_eq_getElem hd] at e
    cases e
    obtain ⟨v, ev, hv⟩ := h.get (List.getElem?_eq_getElem hd)
    refine ⟨some v, ?_, v, rfl, Holds.less hv fun a z => z.elim id fun ⟨i, z⟩ => absurd z (noown i a)⟩
    unfold L2.start
    rw [List.getElem?_append_left (by simp; omega), List.getElem?_map, ev]
    rfl
  · rw [List.getElem?_append_right (by simpa using hd)] at e
    have hs : s = .un := by
      have := List.mem_of_getElem? e
      exact (List.mem_replicate.mp this).2
    subst hs
    exact ⟨_, List.getElem?_eq_getElem hi, trivial⟩
/-- what a def's facts are, for its callers -/
structure GFn (P : Program) (w : World) (K : PySem.W.Frag) (mg : Str → Option Value) (base : Heap) (k : Nat) (x : Str) (n : Nat) (g : List D → R D) : Prop where
  ex : ∃ f fd ps, FnOk P w K mg base (L2.CX P w) k f fd ps (spD mg n g) ∧ mg x = some (.ref f) ∧ PySem.W.keepIn K (.ref f) = true ∧ Binds K fd ps []
theorem body_end {X : Cx} {k : Nat} {f : SF} {ds : List D} {vs : List V} {N : List Str} {H : Hp} {B : Addr → Prop} {Q : VK} {E : XK} (h : HoldsL H B ds vs) (hB : ∀ a, B a → H a ≠ none) (hk : N.length - vs.length = k)
    (p : PostD mg B (runD k f ds) H Q E) : TSx ⟨H, B, 0⟩ mg (fun cls d _ H' => E cls d H') f { nx := fun _ H' => Q .non H', rt := Q } (L2.start N vs) H := by
  refine ⟨_, start_rel h hB hk, ?_⟩
  unfold runD retOf at p
  cases q : f (ds.map .sh ++ List.replicate k .un) with
  | nx s' => rw [q] at p; exact fun σ' H' r _ => p _ H' r.same rfl
  | rt d => rw [q] at p; exact p
  | rn n =>
    rw [q] at p
    intro pa H' s _ nb h
    have h := h ⟨fun _ => none, fun _ => False, 0⟩ rfl
    refine p _ H' s ?_
    cases n with
    | nl ds => obtain ⟨a, vs, e, _, r, l⟩ := h; cases e; exact ⟨pa, vs, rfl, nb, r, l.less fun _ z => .inl z⟩
    | nd ds => obtain ⟨a, vs, e, _, r, l⟩ := h; cases e; exact ⟨pa, vs, rfl, nb, .inl r, HoldsK.up (up_own fun _ z => .inl z) _ l⟩
  | bk s' => rw [q] at p; exact p.elim
  | ct s' => rw [q] at p; exact p.elim
  | ex c fs s' => rw [q] at p; exact fun cls da σ' H' r _ x => p cls da H' r.same x
  | no => rw [q] at p; exact p
/-- a def's body keeps its promise -/
theorem fn_ok {x qual : Str} {st : Stmt} {f : Addr} {fd : FuncData} {N ps : List Str} {k kk n : Nat} {body : SF} (Fn : Fun K x qual st f fd) (S : FnScope N ps (defScope st)) (hn : ps.length = n) (hk : N.length - n = kk)
    (hb : ∀ (F : Fr) (W : WX) (cdv : Value) (A : Around) (outer : List Env) (s : Shared) (H : Hp) (E : XK), Room k (A.deeper (envOfC qual (defScope st) s.heap.objs.size f cdv)) →
      Takes (cxOf (L2.CX P w) P w K mg base N qual (defScope st) f cdv A outer s H E) W → PassesOwn (model P w) (A.deeper (envOfC qual (defScope st) s.heap.objs.size f cdv)) (envOfC qual (defScope st) s.heap.objs.size f cdv) (cxOf (L2.CX P w) P w K mg base N qual (defScope st) f cdv A outer s H E).xe →
      DXs F (cxOf (L2.CX P w) P w K mg base N qual (defScope st) f cdv A outer s H E) W (defBody st) body) :
    FnOk P w K mg base (L2.CX P w) (k + 1) f fd ps (spD mg n (runD kk body)) := by
  subst hn
  refine Fn.okX S (fun vs H Q E h => h.1) fun cdv A outer s H vs Q E hr h => ?_
  obtain ⟨hl, ds, B, hh, hB, p⟩ := h
  refine ⟨_, (hb ⟨H, B, 0⟩ (fun cls d _ H' => E cls d H') cdv A outer s H E hr (takes_of rfl rfl rfl rfl) (passes_of rfl)).ps, ?_⟩
  exact body_end (X := cxOf (L2.CX P w) P w K mg base N qual (defScope st) f cdv A outer s H E) hh hB (by rw [hl]; exact hk) p
theorem gfn_mk {x qual : Str} {st : Stmt} {f : Addr} {fd : FuncData} {ps : List Str} {k n : Nat} {g : List D → R D} (Fn : Fun K x qual st f fd) (h : FnOk P w K mg base (L2.CX P w) k f fd ps (spD mg n g)) (hm : mg x = some (.ref f)) (hb : Binds K fd ps []) : GFn P w K mg base k x n g :=
  ⟨f, fd, ps, h, hm, Fn.kp, hb⟩
end

/-! ### calls -/
theorem PostD.of {mg : Str → Option Value} {σ : L2.St} {sd : SD} {r : R D} {H : Hp} {Q : VK} (p : Post false mg W σ (Av F σ sd) r H Q) : PostD mg (Av F σ sd) r H Q (WE W σ) := by
  cases r with
  | ok d => exact p
  | ex c fs => exact p
  | no => exact p
theorem de_call {x : Str} {k k' n : Nat} {gf : List D → R D} {p : Pos} (G : GFn X.prog X.w X.K X.mg X.base k x n gf) (hr : Room k' X.A) (hg : Gl X x) (tk : Takes X W) (ha : DA false F X W (e :: es) fs) (hn : (e :: es).length = n := by rfl) (hfs : fs.length = n := by rfl) (hkk : k ≤ k' := by decide)
    (hdb : (x == ("__debug__" : Str)) = false := by decide) (he : starEach (e :: es) X.env = (false, eval e X.env) :: starEach es X.env := by rfl) (hpl : (backTo pos (starEach es X.env)).any (·.1) = false := by rfl) :
    DE F X W (.Call (.Name x p) (e :: es) [] pos) (eAll gf fs) := by
  obtain ⟨f, fd, ps, G, hm, hk, hb⟩ := G
  refine ⟨PE.weak (pe_callS G (hr.mono hkk) hg hm hk hb (fun σ => passAt tk σ) ha.pa hdb he hpl) fun σ H Q ⟨sd, rel, p⟩ => tas (b := false) rel p fun ds q vs H2 _ r2 hv p2 => ?_⟩
  refine ⟨?_, ds, Av F σ sd, hv.l, fun a z => r2.dom z, PostD.of p2⟩
  rw [hv.l.length]
  have : ∀ (fs : List EF) (ds : List D), evalL fs sd = .ok ds → ds.length = fs.length := fun fs => by
    induction fs with
    | nil => intro ds e; cases e; rfl
    | cons f fs ih =>
      intro ds e
      simp only [evalL] at e
      cases h1 : f sd <;> rw [h1] at e <;> try (cases e)
      rw [R.bind_ok] at e
      cases h2 : evalL fs sd <;> rw [h2] at e <;> cases e
      simp [ih _ h2]
  rw [this fs ds q]
  exact hfs

/-! ### attributes -/
def lookF (fs : List (Str × D)) (f : Str) : Option D := fs.lookup f
def opFld (Cs : List Addr) (f : Str) : D → R D
  | .ins C fs => if C ∈ Cs then (match fs.lookup f with
    | some d => .ok d
    | none => .no) else .no
  | _ => .no
theorem HoldsF.look {H : Hp} {A : Addr → Prop} {f : Str} : ∀ {ds : List (Str × D)} {vs : List (Str × V)} {d : D}, HoldsF H A ds vs → ds.lookup f = some d → ∃ v, vs.lookup f = some v ∧ Holds H A d v
  | [], _, _, _, e => by cases e
  | (k, x) :: ds, _, d, h, e => by
    obtain ⟨v, r, rfl, h1, h2⟩ := h
    rw [List.lookup_cons] at e ⊢
    cases q : f == k with
    | true => rw [q] at e; cases e; exact ⟨v, rfl, h1⟩
    | false => rw [q] at e; exact HoldsF.look h2 e
theorem HoldsF.keys {H : Hp} {A : Addr → Prop} : ∀ {ds : List (Str × D)} {vs : List (Str × V)}, HoldsF H A ds vs → vs.map (·.1) = ds.map (·.1)
  | [], _, h => by cases h; rfl
  | (k, d) :: ds, _, h => by obtain ⟨v, r, rfl, _, h2⟩ := h; simp [HoldsF.keys h2]
theorem HoldsF.nolook {H : Hp} {A : Addr → Prop} {f : Str} : ∀ {ds : List (Str × D)} {vs : List (Str × V)}, HoldsF H A ds vs → ds.lookup f = none → vs.lookup f = none
  | [], _, h, e => by cases h; rfl
  | (k, x) :: ds, _, h, e => by
    obtain ⟨v, r, rfl, h1, h2⟩ := h
    rw [List.lookup_cons] at e ⊢
    cases q : f == k with
    | true => rw [q] at e; cases e
    | false => rw [q] at e; exact HoldsF.nolook h2 e
theorem de_fld {Cs : List Addr} {x : Str} (hC : ∀ C ∈ Cs, Cls X.K C ∧ NoAttr X.K C x) (ha : DB F X W e fa) (hb : attributeBase e x X.env (eval e X.env) = eval e X.env := by rfl) : DE F X W (.Attribute e x pos) (eUn (opFld Cs x) fa) :=
  ⟨PE.weak (pe_fld ha.pe hb) fun σ H Q ⟨sd, rel, p⟩ => te1s rel p fun d q v H2 r2 hv p2 => by
    unfold opFld at p2
    split at p2
    · split at p2
      · rename_i hc
        split at p2
        · rename_i d2 hd2
          obtain ⟨a, dx, ws, rfl, r, l⟩ := hv
          obtain ⟨v, e2, h2⟩ := l.look hd2
          exact ⟨a, _, dx, ws, v, rfl, r, (hC _ hc).1, (hC _ hc).2, e2, ok_p p2 h2⟩
        · exact p2.elim
      · exact p2.elim
    · exact p2.elim⟩
def putFD (f : Str) (v : D) : List (Str × D) → List (Str × D)
  | [] => [(f, v)]
  | (g, x) :: r => if g = f then (g, v) :: r else (g, x) :: putFD f v r
theorem HoldsF.put {H : Hp} {A : Addr → Prop} (f : Str) {d : D} {v : V} (hv : Holds H A d v) : ∀ {ds : List (Str × D)} {vs : List (Str × V)}, HoldsF H A ds vs → HoldsF H A (putFD f d ds) (putF f v vs)
  | [], _, h => by cases h; exact ⟨v, [], rfl, hv, rfl⟩
  | (k, x) :: ds, _, h => by
    obtain ⟨w, r, rfl, h1, h2⟩ := h
    unfold putFD putF
    by_cases e : k = f
    · rw [if_pos e, if_pos e]; exact ⟨v, r, rfl, hv, h2⟩
    · rw [if_neg e, if_neg e]; exact ⟨w, _, rfl, h1, HoldsF.put f hv h2⟩
theorem HoldsF.length {H : Hp} {A : Addr → Prop} {ds : List (Str × D)} {vs : List (Str × V)} (h : HoldsF H A ds vs) : vs.length = ds.length := by
  have := congrArg List.length h.keys
  simpa using this
/-- self.f = e, self one's own in slot i -/
def sFldD (C0 : Addr) (i : Nat) (x : Str) (f : EF) : SF := sE f fun d s => match s[i]? with
  | some (.oi C fs) => if C = C0 ∧ fs.length < 1000 then .nx (s.set i (.oi C (putFD x d fs))) else .no
  | _ => .no
theorem ds_fld {C0 : Addr} (i : Nat) {x y : Str} {px pos' : Pos} (hC : Cls X.K C0 ∧ NoAttr X.K C0 y) (h : DE F X W e fa) (hN : X.N[i]? = some x := by rfl) (hv : Vis X.env.scope x := by first | exact Or.inl rfl | exact Or.inr (Or.inl rfl) | exact Or.inr (Or.inr rfl)) (hd : (x == ("__debug__" : Str)) = false := by decide)
    (hcd : (x == ("__classdict__" : Str)) = false := by decide) (hs : swapsWith e (some (.Attribute (.Name x px) y pos')) pos.line X.env = pure false := by rfl) : DX1 F X W (.Assign [.Attribute (.Name x px) y pos'] e pos) (sFldD C0 i y fa) :=
  ⟨PS.weak (ps_fld (pe_var hN hv hd hcd) h.pe hs) fun T σ H ⟨sd, rel, p⟩ => tsE (bb := false) rel p fun d v H2 _ s2 rel2 hv p2 => by
    split at p2
    · rename_i C fs q
      split at p2
      · rename_i hc
        obtain ⟨w, e, a, dx, ws, rfl, n, r, l⟩ := rel2.slot i _ q
        have av : Av F σ sd a := .inr ⟨i, _, q, rfl, e⟩
        have hc1 := hc.1
        subst hc1
        obtain ⟨r3, e3⟩ := rel2.write (s' := .oi C (putFD y d fs)) (o := .ins C dx (putF y v ws)) q rfl rfl e ⟨a, dx, _, rfl, n, upd_same, HoldsF.up (up_write av) _ (l.put y hv)⟩
        exact ⟨_, e, a, C, dx, ws, rfl, r, hC.1, hC.2, by rw [l.length]; exact hc.2, p2 _ _ r3 e3⟩
      · exact p2.elim
    · exact p2.elim⟩

/-! ### __init__, and the call of a class -/
def PostI (mg : Str → Option Value) (x C : Addr) (B : Addr → Prop) (r : R (List (Str × D))) (H : Hp) (Q : VK) (E : XK) : Prop := match r with
  | .ok fs => ∀ H' dx ws, (∀ b o, H b = some o → b ≠ x → H' b = some o) → H' x = some (.ins C dx ws) → HoldsF H' (fun a => B a ∨ a = x) fs ws → Q .non H'
  | .ex c fs => ∀ cls da H', (∀ b o, H b = some o → b ≠ x → H' b = some o) → ExRep mg H' B c fs cls da → E cls da H'
  | .no => False
def spI (mg : Str → Option Value) (C : Addr) (n : Nat) (g : List D → R (List (Str × D))) : Sp := fun vs H Q E => vs.length = n ∧ ∃ x dx rest ds B, vs = .ref x :: rest ∧ H x = some (.ins C dx []) ∧ HoldsL H (fun a => B a ∨ a = x) ds rest ∧ (∀ a, B a → H a ≠ none) ∧ ¬ B x ∧ PostI mg x C B (g ds) H Q E
def retI (C : Addr) : SO → R (List (Str × D))
  | .nx s => (match (s[0]? : Option Sl) with
    | some (Sl.oi C' fs) => if C' = C then .ok fs else .no
    | _ => .no)
  | .ex c fs _ => .ex c fs
  | _ => .no
def runI (C : Addr) (k : Nat) (f : SF) (ds : List D) : R (List (Str × D)) := retI C (f (.oi C [] :: (ds.map .sh ++ List.replicate k .un)))
section
variable {P : Program} {w : World} {K : PySem.W.Frag} {mg : Str → Option Value} {base : Heap}
theorem startI_rel {H : Hp} {B : Addr → Prop} {N : List Str} {ds : List D} {rest : List V} {k : Nat} {x dx C : Addr} (hx : H x = some (.ins C dx [])) (h : HoldsL H (fun a => B a ∨ a = x) ds rest) (hB : ∀ a, B a → H a ≠ none) (nB : ¬ B x) (hk : N.length - (rest.length + 1) = k) :
    Rel ⟨fun b => if b = x then none else H b, B, x⟩ (L2.start N (.ref x :: rest)) H (.oi C [] :: (ds.map .sh ++ List.replicate k .un)) := by
  subst hk
  have hl := h.length
  have hown : ∀ (i : Nat) (s : Sl), (ds.map Sl.sh ++ List.replicate (N.length - (rest.length + 1)) Sl.un)[i]? = some s → s.own = false := fun i s e => by
    rcases List.mem_append.mp (List.mem_of_getElem? e) with m | m
    · obtain ⟨d, _, rfl⟩ := List.mem_map.mp m; rfl
    · rw [(List.mem_replicate.mp m).2]; rfl
  have hst : L2.start N (.ref x :: rest) = some (.ref x) :: (rest.map some ++ List.replicate (N.length - (rest.length + 1)) none) := by simp [L2.start]
  rw [hst]
  have own0 : ∀ i a, OwnAt (some (V.ref x) :: (rest.map some ++ List.replicate (N.length - (rest.length + 1)) none)) (.oi C [] :: (ds.map Sl.sh ++ List.replicate (N.length - (rest.length + 1)) Sl.un)) i a → i = 0 ∧ a = x := fun i a ⟨t, e, o, e2⟩ => by
    cases i with
    | zero => simp at e2; exact ⟨rfl, e2.symm⟩
    | succ i =>
      rw [List.getElem?_cons_succ] at e
      rw [hown i t e] at o
      cases o
  have own : ∀ a, Own (some (V.ref x) :: (rest.map some ++ List.replicate (N.length - (rest.length + 1)) none)) (.oi C [] :: (ds.map Sl.sh ++ List.replicate (N.length - (rest.length + 1)) Sl.un)) a → a = x := fun a ⟨i, z⟩ => (own0 i a z).2
  refine ⟨fun b o q => ?_, by simp [hl], fun i s e => ?_, fun i j a h1 h2 => by rw [(own0 i a h1).1, (own0 j a h2).1], fun a z => by rw [own a z]; exact nB, hB⟩
  · have q : (if b = x then none else H b) = some o := q
    by_cases hb : b = x
    · rw [if_pos hb] at q; cases q
    · rw [if_neg hb] at q; exact q
  · cases i with
    | zero =>
      simp at e
      subst e
      exact ⟨_, rfl, x, dx, [], rfl, ⟨if_pos rfl, rfl⟩, hx, rfl⟩
    | succ i =>
      rw [List.getElem?_cons_succ] at e ⊢
      by_cases hd : i < ds.length
      · rw [List.getElem?_append_left (by simpa using hd), List.getElem?_map, List.getElem?_eq_getElem hd] at e
        cases e
        obtain ⟨v, ev, hv⟩ := h.get (List.getElem?_eq_getElem hd)
        refine ⟨some v, ?_, v, rfl, Holds.less hv fun a z => z.imp_right (own a)⟩
        rw [List.getElem?_append_left (by simp; omega), List.getElem?_map, ev]
        rfl
      · have hi : i < (rest.map some ++ List.replicate (N.length - (rest.length + 1)) (none : Option V)).length := by
          have := (List.getElem?_eq_some_iff.mp e).1
          simpa [hl] using this
        rw [List.getElem?_append_right (by simpa using hd)] at e
        have hs : s = .un := (List.mem_replicate.mp (List.mem_of_getElem? e)).2
        subst hs
        exact ⟨_, List.getElem?_eq_getElem hi, trivial⟩
theorem bodyI_end {k : Nat} {f : SF} {ds : List D} {rest : List V} {N : List Str} {H : Hp} {B : Addr → Prop} {Q : VK} {E : XK} {x dx C : Addr} (hx : H x = some (.ins C dx [])) (h : HoldsL H (fun a => B a ∨ a = x) ds rest) (hB : ∀ a, B a → H a ≠ none) (nB : ¬ B x) (hk : N.length - (rest.length + 1) = k)
    (p : PostI mg x C B (runI C k f ds) H Q E) : TSx ⟨fun b => if b = x then none else H b, B, x⟩ mg (fun cls d _ H' => E cls d H') f { nx := fun _ H' => Q .non H', rt := Q } (L2.start N (.ref x :: rest)) H := by
  refine ⟨_, startI_rel hx h hB nB hk, ?_⟩
  have off : ∀ {σ' : L2.St} {H' : Hp} {s' : SD}, Rel ⟨fun b => if b = x then none else H b, B, x⟩ σ' H' s' → ∀ b o, H b = some o → b ≠ x → H' b = some o := fun r b o q hb => r.same b o (by show (if b = x then none else H b) = some o; rw [if_neg hb]; exact q)
  unfold runI retI at p
  cases q : f (.oi C [] :: (ds.map .sh ++ List.replicate k .un)) with
  | nx s' =>
    rw [q] at p
    dsimp only at p
    intro σ' H' r _
    split at p
    · rename_i C' fs e
      split at p
      · rename_i hc
        subst hc
        obtain ⟨v, e2, a, dx', ws, rfl, n, r0, l⟩ := r.slot 0 _ e
        have ea : a = x := n.2
        subst ea
        exact p H' dx' ws (off r) r0 (HoldsF.up (up_own fun b z => z.imp_right fun z => ⟨0, _, e, rfl, by rw [z]; exact e2⟩) _ l)
      · exact p.elim
    · exact p.elim
  | rt d => rw [q] at p; exact p.elim
  | rn n => rw [q] at p; exact p.elim
  | bk s' => rw [q] at p; exact p.elim
  | ct s' => rw [q] at p; exact p.elim
  | ex c fs s' => rw [q] at p; exact fun cls da σ' H' r _ x => p cls da H' (off r) x
  | no => rw [q] at p; exact p
end
end DS
set_option Elab.async false
set_option linter.all false
set_option maxRecDepth 100000
set_option maxHeartbeats 2000000
namespace DS
open PySem L2 PyProof.Rows
variable {F : Fr} {X : Cx} {W : WX} {a b c e o : Expr} {fa fb fc : EF} {pos : Pos} {st : Stmt} {sts : List Stmt} {f g : SF} {tt : TF} {es : List Expr} {fs : List EF}

section
variable {P : Program} {w : World} {K : PySem.W.Frag} {mg : Str → Option Value} {base : Heap}
/-- an __init__ keeps its promise -/
theorem fnI_ok {x qual : Str} {st : Stmt} {f C : Addr} {fd : FuncData} {N ps : List Str} {k kk n : Nat} {body : SF} (Fn : Fun K x qual st f fd) (S : FnScope N ps (defScope st)) (hn : ps.length = n) (hk : N.length - n = kk)
    (hb : ∀ (F : Fr) (W : WX) (cdv : Value) (A : Around) (outer : List Env) (s : Shared) (H : Hp) (E : XK), Room k (A.deeper (envOfC qual (defScope st) s.heap.objs.size f cdv)) →
      Takes (cxOf (L2.CX P w) P w K mg base N qual (defScope st) f cdv A outer s H E) W → PassesOwn (model P w) (A.deeper (envOfC qual (defScope st) s.heap.objs.size f cdv)) (envOfC qual (defScope st) s.heap.objs.size f cdv) (cxOf (L2.CX P w) P w K mg base N qual (defScope st) f cdv A outer s H E).xe →
      DXs F (cxOf (L2.CX P w) P w K mg base N qual (defScope st) f cdv A outer s H E) W (defBody st) body) :
    FnOk P w K mg base (L2.CX P w) (k + 1) f fd ps (spI mg C n (runI C kk body)) := by
  subst hn
  refine Fn.okX S (fun vs H Q E h => h.1) fun cdv A outer s H vs Q E hr h => ?_
  obtain ⟨hl, x, dx, rest, ds, B, rfl, hx, hh, hB, nB, p⟩ := h
  refine ⟨_, (hb ⟨fun b => if b = x then none else H b, B, x⟩ (fun cls d _ H' => E cls d H') cdv A outer s H E hr (takes_of rfl rfl rfl rfl) (passes_of rfl)).ps, ?_⟩
  exact bodyI_end hx hh hB nB (by rw [← hk, ← hl]; rfl) p
/-- a class that can be made -/
structure GCl (P : Program) (w : World) (K : PySem.W.Frag) (mg : Str → Option Value) (base : Heap) (k : Nat) (x : Str) (C : Addr) (n : Nat) (g : List D → R (List (Str × D))) : Prop where
  ex : ∃ f fd ps, FnOk P w K mg base (L2.CX P w) k f fd ps (spI mg C n g) ∧ Mk K C f ∧ mg x = some (.ref C) ∧ Binds K fd ps []
end
theorem run_makeS {CX : CXT} {k : Nat} {f C : Addr} {fd : FuncData} {ps : List Str} {sp : Sp} {E : XK} {pins : List (Addr × Obj)} {σ : L2.St} {H : Hp} {s : Shared} {Q : VK} {us : List Value} {vs : List V} (M : Mk X.K C f) (F : FnOk X.prog X.w X.K X.mg X.base CX k f fd ps sp) (hr : Room (k + 1) X.A) (hb : Binds X.K fd ps [])
    (hx : ∀ (pins : List (Addr × Obj)) (H : Hp) (s : Shared) (e : Value) (s' : Shared), Inv X pins σ H s → CX X.stack H s E e s' → X.xe e s') (I : Inv X pins σ H s) (r : Vals vs us)
    (h : ∀ x dx, H x = none → H dx = none → dx ≠ x → sp (.ref x :: vs) (upd (upd H dx (.own x)) x (.ins C dx [])) (fun v H2 => v = .non ∧ Q (.ref x) H2) E) :
    wpAny (model X.prog X.w) X.A (call (.ref C) us) (EP X pins σ Q) X.xe s := by
  have hq := h (s.heap.objs.size + 1) s.heap.objs.size (I.hok.fresh (Nat.le_succ _)) (I.hok.fresh (Nat.le_refl _)) (Nat.ne_of_lt (Nat.lt_succ_self _))
  have I2 := Inv.made (C := C) I
  have r2 : Vals (V.ref (s.heap.objs.size + 1) :: vs) (Value.ref (s.heap.objs.size + 1) :: us) := .cons rfl r
  have hl : (Value.ref (s.heap.objs.size + 1) :: us).length = ps.length := by
    have e := r2.length
    rw [F.len _ _ _ _ hq] at e
    exact e.symm
  have b := hb { s with heap := (s.heap.push { cls := .type "dict", data := .dict #[] }).push (PySem.W.instObj C s.heap.objs.size) } (Value.ref (s.heap.objs.size + 1) :: us) I2.kIn (by rw [List.append_nil]; exact hl)
  rw [List.append_nil] at b
  refine wpAny_call (make_map (f := f) I.kIn M.makes M.init (beq_iff_eq.mp M.fn) (codeAny_mono (F.run _ X.stack _ _ ⟨Value.ref (s.heap.objs.size + 1) :: us, []⟩ (Value.ref (s.heap.objs.size + 1) :: us) _ _ E (hr.make C us [])
    (I2.env0.make C us []) b r2 hq) fun r s' hq' => ?_))
  cases r with
  | error e => exact hx pins _ _ e s' I2 hq'
  | ok fl =>
    cases fl with
    | ret u =>
      obtain ⟨v, H', I3, rv, ev, q3⟩ := I2.after hq'
      subst ev
      exact ⟨rv, ⟨V.ref (s.heap.objs.size + 1), H', I3, rfl, q3⟩⟩
    | next => exact False.elim hq'
    | brk => exact False.elim hq'
    | cont => exact False.elim hq'
def tMakeS (C : Addr) (sp : Sp) (W : WX) (t : TA) : TE := fun σ H Q => t σ H fun vs H1 => ∀ x dx, H1 x = none → H1 dx = none → dx ≠ x → sp (.ref x :: vs) (upd (upd H1 dx (.own x)) x (.ins C dx [])) (fun v H2 => v = .non ∧ Q (.ref x) H2) (WE W σ)
theorem pe_makeS {k : Nat} {f C : Addr} {fd : FuncData} {ps : List Str} {sp : Sp} {x : Str} {p : Pos} {t : TA} (M : Mk X.K C f) (F : FnOk X.prog X.w X.K X.mg X.base (L2.CX X.prog X.w) k f fd ps sp) (hr : Room (k + 1) X.A) (hg : Gl X x) (hm : X.mg x = some (.ref C)) (hb : Binds X.K fd ps []) (tk : Takes X W)
    (ha : PA X (e :: es) t) (hdb : (x == ("__debug__" : Str)) = false := by decide) (he : starEach (e :: es) X.env = (false, eval e X.env) :: starEach es X.env := by rfl) (hpl : (backTo pos (starEach es X.env)).any (·.1) = false := by rfl) :
    PE X (.Call (.Name x p) (e :: es) [] pos) (tMakeS C sp W t) := by
  refine ⟨fun pins s σ H Q I h => ?_⟩
  refine wpAny_Call_Name_kw (ld_glob I hg hm ?_ hdb)
  refine PySem.W.callWith_K (h₀ := X.base) I.ok.mod.kin M.kp (thn (ha.run pos pins s σ H _ I h) fun us s1 ⟨vs, H1, I1, r, q⟩ => ⟨I1.kIn, ?_⟩) he hpl
  exact run_makeS M F hr hb (passAt tk σ) I1 r q
theorem evalL_length {sd : SD} : ∀ {fs : List EF} {ds : List D}, evalL fs sd = .ok ds → ds.length = fs.length
  | [], ds, e => by cases e; rfl
  | f :: fs, ds, e => by
    simp only [evalL] at e
    cases h1 : f sd <;> rw [h1] at e <;> try (cases e)
    rw [R.bind_ok] at e
    cases h2 : evalL fs sd <;> rw [h2] at e <;> cases e
    simp [evalL_length h2]
/-- C(..) -/
def opMake (C : Addr) (g : List D → R (List (Str × D))) (ds : List D) : R D := (g ds).bind fun fs => .ok (.ins C fs)
theorem de_make {x : Str} {C : Addr} {k k' n : Nat} {gf : List D → R (List (Str × D))} {p : Pos} (G : GCl X.prog X.w X.K X.mg X.base k x C n gf) (hr : Room k' X.A) (hg : Gl X x) (tk : Takes X W) (ha : DA false F X W (e :: es) fs) (hfs : fs.length + 1 = n := by rfl) (hkk : k + 1 ≤ k' := by decide)
    (hdb : (x == ("__debug__" : Str)) = false := by decide) (he : starEach (e :: es) X.env = (false, eval e X.env) :: starEach es X.env := by rfl) (hpl : (backTo pos (starEach es X.env)).any (·.1) = false := by rfl) :
    DE F X W (.Call (.Name x p) (e :: es) [] pos) (eAll (opMake C gf) fs) := by
  obtain ⟨f, fd, ps, G, M, hm, hb⟩ := G
  refine ⟨PE.weak (pe_makeS M G (hr.mono hkk) hg hm hb tk ha.pa hdb he hpl) fun σ H Q ⟨sd, rel, p⟩ => tas (b := false) rel p fun ds q vs H2 _ r2 hv p2 => fun x dx hx hdx hne => ?_⟩
  have s1 : Same H2 (upd (upd H2 dx (.own x)) x (.ins C dx [])) := fun b o h => by
    rw [upd_ne (ne_of_none h hx), upd_ne (ne_of_none h hdx)]; exact h
  refine ⟨?_, x, dx, vs, ds, Av F σ sd, rfl, upd_same, ?_, fun a z => Same.dom s1 a (r2.dom z), fun z => r2.dom z hx, ?_⟩
  · rw [List.length_cons, hv.l.length, evalL_length q]; exact hfs
  · exact HoldsL.up (Up.ofOff (fun b o h _ => s1 _ _ h) fun b z => z.imp_right fun z => by rw [z]; exact hx) _ hv.l
  · unfold opMake at p2
    cases q3 : gf ds with
    | no => rw [q3] at p2; exact p2.elim
    | ex c fs =>
      rw [q3] at p2
      exact fun cls da H' s x => p2 cls da H' (fun b o h => s b o (s1 b o h) (ne_of_none h hx)) x
    | ok fs =>
      rw [q3] at p2
      refine fun H' dx' ws s h l => ⟨rfl, p2 _ H' (fun b o h => s b o (s1 b o h) (ne_of_none h hx)) ⟨x, dx', ws, rfl, fun z => r2.dom z hx, h, HoldsF.up (up_own fun a z => .inl z) _ l⟩⟩

/-! ### methods -/
structure GMt (P : Program) (w : World) (K : PySem.W.Frag) (mg : Str → Option Value) (base : Heap) (k : Nat) (m : Str) (C : Addr) (n : Nat) (g : List D → R D) : Prop where
  ex : ∃ f fd ps, FnOk P w K mg base (L2.CX P w) k f fd ps (spD mg n g) ∧ Cls K C ∧ Meth K C m f ∧ Binds K fd ps []
def tMethS (C : Addr) (m : Str) (sp : Sp) (W : WX) (ta : TE) (t : TA) : TE := fun σ H Q => ta σ H fun x H1 => ∃ a dx fs, x = .ref a ∧ H1 a = some (.ins C dx fs) ∧ fs.lookup m = none ∧ t σ H1 fun vs H2 => sp (x :: vs) H2 Q (WE W σ)
theorem pe_methS {k : Nat} {f C : Addr} {fd : FuncData} {ps : List Str} {sp : Sp} {m : Str} {apos : Pos} {ta : TE} {t : TA} {pl : Sem Bool} (he : PE X o ta) (c : Cls X.K C) (hm : Meth X.K C m f) (F : FnOk X.prog X.w X.K X.mg X.base (L2.CX X.prog X.w) k f fd ps sp) (hr : Room k X.A) (hb : Binds X.K fd ps []) (tk : Takes X W) (ha : PA X (e :: es) t)
    (hst : starEach (e :: es) X.env = (false, eval e X.env) :: starEach es X.env := by rfl) (hpl : (backTo pos (starEach es X.env)).any (·.1) = false := by rfl)
    (ht : eval (.Call (.Attribute o m apos) (e :: es) [] pos) X.env = (do
      let ov ← eval o X.env
      standAt apos.atName
      let (f, first) ← holding [ov] (getMethod ov m pl)
      callWith pos f first (backTo pos (starEach (e :: es) X.env)) (backToKw pos (keywordEach [] X.env))) := by rfl) :
    PE X (.Call (.Attribute o m apos) (e :: es) [] pos) (tMethS C m sp W ta t) := by
  refine ⟨fun pins s σ H Q I h => ?_⟩
  refine PySem.W.methodCall_KW (pl := pl) (thn (he.run pins s σ H _ I h) fun u s1 ⟨x, H1, I1, rx, a, dx, fs, ex, ea, l, q⟩ => ?_) ht
  subst ex
  obtain rfl : u = Value.ref a := rx
  refine getmeth_ok I1 ea c hm l ?_
  refine PySem.W.callWith_K (first := [.ref a]) (h₀ := X.base) I.ok.mod.kin hm.kp (thn (ha.run pos pins s1 σ H1 _ I1 q) fun us s2 ⟨vs, H2, I2, r, q2⟩ => ⟨I2.kIn, ?_⟩) hst hpl
  exact run_fnS (E := WE W) (us := .ref a :: us) (vs := .ref a :: vs) F hr hb (passAt tk σ) I2 (.cons rfl r) q2
theorem pe_meth0S {k : Nat} {f C : Addr} {fd : FuncData} {ps : List Str} {sp : Sp} {m : Str} {apos : Pos} {ta : TE} {pl : Sem Bool} (he : PE X o ta) (c : Cls X.K C) (hm : Meth X.K C m f) (F : FnOk X.prog X.w X.K X.mg X.base (L2.CX X.prog X.w) k f fd ps sp) (hr : Room k X.A) (hb : Binds X.K fd ps []) (tk : Takes X W)
    (ht : eval (.Call (.Attribute o m apos) [] [] pos) X.env = (do
      let ov ← eval o X.env
      standAt apos.atName
      let (f, first) ← holding [ov] (getMethod ov m pl)
      callWith pos f first (backTo pos (starEach [] X.env)) (backToKw pos (keywordEach [] X.env))) := by rfl) :
    PE X (.Call (.Attribute o m apos) [] [] pos) (tMethS C m sp W ta tNil) := by
  refine ⟨fun pins s σ H Q I h => ?_⟩
  refine PySem.W.methodCall_KW (pl := pl) (thn (he.run pins s σ H _ I h) fun u s1 ⟨x, H1, I1, rx, a, dx, fs, ex, ea, l, q⟩ => ?_) ht
  subst ex
  obtain rfl : u = Value.ref a := rx
  refine getmeth_ok I1 ea c hm l ?_
  exact PySem.W.callWith_K0 (first := [.ref a]) I1.kIn hm.kp (run_fnS (E := WE W) (us := [.ref a]) (vs := [.ref a]) F hr hb (passAt tk σ) I1 (.cons rfl .nil) q)
/-- o.m(..), o an instance of C without an attribute of the name -/
def opMeth (C : Addr) (m : Str) (g : List D → R D) (x : D) (ds : List D) : R D := match x with
  | .ins C' fs => if C' = C ∧ fs.lookup m = none then g (.ins C' fs :: ds) else .no
  | _ => .no
def isIns (C : Addr) (m : Str) : D → Bool
  | .ins C' fs => decide (C' = C) && (fs.lookup m).isNone
  | _ => false
def eMeth (C : Addr) (m : Str) (g : List D → R D) (fa : EF) (fs : List EF) : EF := fun s => (fa s).bind fun x => if isIns C m x = true then (evalL fs s).bind fun ds => g (x :: ds) else .no
theorem de_meth {m : Str} {C : Addr} {k k' n : Nat} {gf : List D → R D} {apos : Pos} {pl : Sem Bool} (G : GMt X.prog X.w X.K X.mg X.base k m C n gf) (hr : Room k' X.A) (tk : Takes X W) (ho : DE F X W o fa) (ha : DA false F X W (e :: es) fs) (hfs : fs.length + 1 = n := by rfl) (hkk : k ≤ k' := by decide)
    (hst : starEach (e :: es) X.env = (false, eval e X.env) :: starEach es X.env := by rfl) (hpl : (backTo pos (starEach es X.env)).any (·.1) = false := by rfl)
    (ht : eval (.Call (.Attribute o m apos) (e :: es) [] pos) X.env = (do
      let ov ← eval o X.env
      standAt apos.atName
      let (f, first) ← holding [ov] (getMethod ov m pl)
      callWith pos f first (backTo pos (starEach (e :: es) X.env)) (backToKw pos (keywordEach [] X.env))) := by rfl) :
    DE F X W (.Call (.Attribute o m apos) (e :: es) [] pos) (eMeth C m gf fa fs) := by
  obtain ⟨f, fd, ps, G, hc, hm, hb⟩ := G
  refine ⟨PE.weak (pe_methS ho.pe hc hm G (hr.mono hkk) hb tk ha.pa hst hpl ht) fun σ H Q ⟨sd, rel, p⟩ => te1s rel p fun d q v H1 r1 hv p1 => ?_⟩
  cases hd : isIns C m d with
  | false => rw [hd] at p1; exact p1.elim
  | true =>
    rw [hd, if_pos rfl] at p1
    have hv : Holds H1 (Av F σ sd) d v := hv
    cases d with
    | ins C' ds0 =>
      have hv' := hv
      obtain ⟨a, dx, ws, rfl, na, r, l⟩ := hv'
      simp only [isIns, Bool.and_eq_true, decide_eq_true_eq, Option.isNone_iff_eq_none] at hd
      obtain ⟨hC, hn⟩ := hd
      subst hC
      refine ⟨a, dx, ws, rfl, r, l.nolook hn, tas (b := false) r1 p1 fun ds q2 vs H2 s2 r2 hvs p2 => ?_⟩
      refine ⟨by rw [List.length_cons, hvs.l.length, evalL_length q2]; exact hfs, .ins C' ds0 :: ds, Av F σ sd, ⟨_, _, rfl, ?_, hvs.l⟩, fun a z => r2.dom z, PostD.of p2⟩
      exact Holds.same s2 hv
    | _ => cases hd
def eMeth0 (C : Addr) (m : Str) (g : List D → R D) (fa : EF) : EF := fun s => (fa s).bind fun x => if isIns C m x = true then g [x] else .no
theorem de_meth0 {m : Str} {C : Addr} {k k' : Nat} {gf : List D → R D} {apos : Pos} {pl : Sem Bool} (G : GMt X.prog X.w X.K X.mg X.base k m C 1 gf) (hr : Room k' X.A) (tk : Takes X W) (ho : DE F X W o fa) (hkk : k ≤ k' := by decide)
    (ht : eval (.Call (.Attribute o m apos) [] [] pos) X.env = (do
      let ov ← eval o X.env
      standAt apos.atName
      let (f, first) ← holding [ov] (getMethod ov m pl)
      callWith pos f first (backTo pos (starEach [] X.env)) (backToKw pos (keywordEach [] X.env))) := by rfl) :
    DE F X W (.Call (.Attribute o m apos) [] [] pos) (eMeth0 C m gf fa) := by
  obtain ⟨f, fd, ps, G, hc, hm, hb⟩ := G
  refine ⟨PE.weak (pe_meth0S ho.pe hc hm G (hr.mono hkk) hb tk ht) fun σ H Q ⟨sd, rel, p⟩ => te1s rel p fun d q v H1 r1 hv p1 => ?_⟩
  cases hd : isIns C m d with
  | false => rw [hd] at p1; exact p1.elim
  | true =>
    rw [hd, if_pos rfl] at p1
    have hv : Holds H1 (Av F σ sd) d v := hv
    cases d with
    | ins C' ds0 =>
      have hv' := hv
      obtain ⟨a, dx, ws, rfl, na, r, l⟩ := hv'
      simp only [isIns, Bool.and_eq_true, decide_eq_true_eq, Option.isNone_iff_eq_none] at hd
      obtain ⟨hC, hn⟩ := hd
      subst hC
      refine ⟨a, dx, ws, rfl, r, l.nolook hn, rfl, [.ins C' ds0], Av F σ sd, ⟨_, _, rfl, hv, rfl⟩, fun a z => r1.dom z, PostD.of p1⟩
    | _ => cases hd
end DS
set_option Elab.async false
set_option linter.all false
set_option maxRecDepth 100000
set_option maxHeartbeats 2000000
namespace PySem
section
variable {prog : Program} {w : World} {K : Type} [DecidableEq K] {knd : KeyKind prog w K} {A : Around} {E : Value → Shared → Prop} {s : Shared}
theorem dm_dictPut {d : Addr} {kvs : List (K × Value)} {k : K} {key v : Value} {Q : Unit → Shared → Prop} (hkey : knd.is k key = true) (hm : s.heap.DictOf knd d kvs)
    (hQ : ∀ h', h'.DictOf knd d (stored kvs k v) → Heap.SameBut d s.heap h' → Q () { s with heap := h' })
    (hsz : kvs.length ≤ sizeLine) :
    wpAny (model prog w) A (dictPut d (knd.hash k) key v) Q E s := by
  obtain ⟨o, es, ep, ho, hc, hd, hk, hp, hn⟩ := hm
  have hes : es.size ≤ sizeLine := by have e1 := hp.length; have e2 : es.toList.length = es.size := by simp
                                      omega
  unfold dictPut
  refine wpAny_bind (wpAny_dictFind_of hkey ho hd hk ?_)
  have hidx : (es.findIdx? fun e => knd.is k e.key) = kvs.findIdx? fun kv => decide (kv.1 = k) := by
    rw [← hp.findIdx k]; obtain ⟨l⟩ := es; simp
  cases hi : es.findIdx? fun e => knd.is k e.key with
  | some i =>
    refine wpAny_updateDict ho hd (hQ _ ⟨_, _, ep, Heap.get?_update_self _ ho (Obj.isFreed_of_dict (Obj.data_mapDict hd _)),
      hc.mapDict _, Obj.data_mapDict hd _, hk.modify _ _, ?_, ?_⟩ (Heap.SameBut.update ..))
    · rw [stored, if_pos (any_of_findIdx_some (hidx ▸ hi))]
      have hl : (es.toList.findIdx? fun e => knd.is k e.key) = some i := by rw [← hi]; obtain ⟨l⟩ := es; simp
      have := hp.modify hn hl v
      obtain ⟨l⟩ := es
      simpa using this
    · rw [stored, if_pos (any_of_findIdx_some (hidx ▸ hi)), keys_map_store]; exact hn
  | none =>
    have hnot : k ∉ kvs.map (·.1) := not_mem_of_findIdx_none (hidx ▸ hi)
    have hany : ¬ (kvs.any fun kv => decide (kv.1 = k)) = true := by
      rw [List.any_eq_true]; rintro ⟨kv, hkv, he⟩
      exact hnot (List.mem_map.mpr ⟨kv, hkv, of_decide_eq_true he⟩)
    refine wpAny_updateDictKeys (hz := hes) ho hd (hQ _ ⟨_, _, ep + 1, Heap.get?_update_self _ ho (Obj.isFreed_of_dict (Obj.data_mapDictKeys hd _)),
      hc.mapDictKeys _, Obj.data_mapDictKeys hd _, hk.push hkey _, ?_, ?_⟩ (Heap.SameBut.update ..))
    · rw [stored, if_neg hany]
      have := hp.append hkey (knd.hash k) v
      obtain ⟨l⟩ := es
      simpa using this
    · rw [stored, if_neg hany, List.map_append, List.nodup_append]
      refine ⟨hn, by simp, ?_⟩
      intro a ha b hb
      simp only [List.map_cons, List.map_nil, List.mem_singleton] at hb
      subst hb
      exact fun e => hnot (e ▸ ha)
theorem dm_merge {d o : Addr} {kvs more : List (K × Value)} {Q : Unit → Shared → Prop} (nk : ∀ k v, knd.is k v = true → ∀ a, v ≠ .ref a) (hdo : d ≠ o) (hoS : (o == sysModules) = false)
    (hd : s.heap.DictOf knd d kvs) (ho : s.heap.DictOf knd o more)
    (hQ : ∀ h', h'.DictOf knd d (merged kvs more) → h'.DictOf knd o more → Heap.SameBut d s.heap h' → Q () { s with heap := h' })
    (hsz : kvs.length + more.length ≤ sizeLine) :
    wpAny (model prog w) A (mergeMapping d (.ref o) false) Q E s := by
  obtain ⟨od, esd, epd, hod, hcd, hdd, hkd, hpd, hnd⟩ := id hd
  obtain ⟨oo, eso, epo, hoo, hco, hdo', hko, hpo, hno⟩ := id ho
  have hlen : more.length = eso.size := by rw [← hpo.length]; simp
  have loop : wpAny (model prog w) A (do
      let l ← dictEntries o
      let epoch ← dictEpoch o
      forIn (List.range l.size) PUnit.unit fun i (_ : PUnit) => (do
          let l' ← dictEntries o
          match l'[i]? with
            | some e => do
              holding [e.key, e.val] (dictPut d e.hash e.key e.val)
              let ep' ← dictEpoch o
              if (ep' != epoch) = true then do
                  (unsupported "dict.changed-during-merge" : Sem PUnit)
                  pure (ForInStep.yield PUnit.unit)
                else pure (ForInStep.yield PUnit.unit)
            | _ => do
              (unsupported "dict.changed-during-merge" : Sem PUnit)
              pure (ForInStep.yield PUnit.unit) : Sem (ForInStep PUnit))
      pure ()) Q E s := by
    refine wpAny_bind (wpAny_dictEntries hoo hdo' ?_)
    refine wpAny_bind (wpAny_dictEpoch hoo hdo' ?_)
    refine wpAny_bind ?_
    rw [List.range_eq_range']
    refine wpAny_forIn_list _
      (fun rest _ s' => ∃ h' i, s' = { s with heap := h' } ∧ rest = List.range' i (eso.size - i) ∧ i ≤ eso.size ∧ h'.DictOf knd d (merged kvs (more.take i)) ∧ h'.get? o = some oo ∧ Heap.SameBut d s.heap h')
      _ ?_ ?_ _ _ ⟨s.heap, 0, rfl, by simp, Nat.zero_le _, by simpa [merged] using hd, hoo, Heap.SameBut.refl _ _⟩
    · rintro x rest b s' ⟨h', i, rfl, hr, hi, hd', hoo', hs'⟩
      have hlt : i < eso.size := by
        rcases Nat.lt_or_ge i eso.size with h | h
        · exact h
        · rw [Nat.sub_eq_zero_of_le h] at hr; simp at hr
      obtain ⟨rfl, hrest⟩ : x = i ∧ rest = List.range' (i + 1) (eso.size - (i + 1)) := by
        have e : eso.size - i = (eso.size - (i + 1)) + 1 := by omega
        rw [e, List.range'_succ] at hr
        injection hr with h1 h2
        exact ⟨h1, h2⟩
      refine wpAny_bind (wpAny_dictEntries hoo' hdo' ?_)
      rw [Array.getElem?_eq_getElem hlt]
      obtain ⟨kv, hkv⟩ : ∃ kv, more[x]? = some kv := ⟨more[x]'(by rw [hlen]; exact hlt), List.getElem?_eq_getElem _⟩
      obtain ⟨k, v⟩ := kv
      obtain ⟨hkey, hval⟩ := hpo.get? (e := eso[x]) (by simp [hlt]) hkv
      obtain ⟨k', hkey', hhash⟩ := hko eso[x] (Array.getElem_mem hlt)
      obtain rfl : k' = k := knd.inj _ _ _ hkey' hkey
      show wpAny _ _ (holding [eso[x].key, eso[x].val] (dictPut d eso[x].hash eso[x].key eso[x].val) >>= _) _ _ _
      rw [hhash, hval]
      have hmx : (merged kvs (more.take x)).length ≤ sizeLine := by
        have e1 := merged_length_le kvs (more.take x)
        have e2 : (more.take x).length ≤ more.length := by rw [List.length_take]; omega
        omega
      refine wpAny_bind (wpAny_holding (dm_dictPut (hsz := hmx) hkey hd' fun h'' hd'' hs'' => ?_))
      have hoo'' : h''.get? o = some oo := (hs''.2 o (Ne.symm hdo)).trans hoo'
      refine wpAny_bind (wpAny_dictEpoch hoo'' hdo' ?_)
      rw [if_neg (by simp)]
      exact wpAny_pure ⟨h'', x + 1, rfl, hrest, hlt, by rw [merged_take_succ kvs more x (k', v) hkv]; exact hd'', hoo'', hs'.trans hs''⟩
    · rintro b s' ⟨h', i, rfl, hr, hi, hd', hoo', hs'⟩
      have hin : i = eso.size := by
        rcases Nat.lt_or_ge i eso.size with h | h
        · have e : eso.size - i = (eso.size - (i + 1)) + 1 := by omega
          rw [e, List.range'_succ] at hr; exact nomatch hr
        · exact Nat.le_antisymm hi h
      refine wpAny_pure (hQ h' ?_ ⟨oo, eso, epo, hoo', hco, hdo', hko, hpo, hno⟩ hs')
      rw [hin, ← hlen, List.take_length] at hd'; exact hd'
  unfold mergeMapping
  refine wpAny_bind (wpAny_isInstance ho.typeIs isSubtype_dict_dict ?_)
  simp only [if_true]
  refine wpAny_bind (wpAny_specialOf ho.typeIs F.slot_dict_iter.lookup ?_)
  refine wpAny_bind (wpAny_pure ?_)
  simp only [beq_self_eq_true]
  rw [if_neg (by rw [hoS]; exact Bool.false_ne_true)]
  refine wpAny_bind (wpAny_dictEntries hod hdd ?_)
  simp only [Bool.false_eq_true, if_false]
  split
  · refine wpAny_bind (wpAny_dictEntries hoo hdo' ?_)
    refine wpAny_bind ?_
    obtain ⟨l⟩ := eso
    rw [List.forIn_toArray]
    refine wpAny_forIn_list _ (fun rest _ s' => s' = s ∧ ∀ e ∈ rest, e ∈ l) _ ?_ ?_ _ _ ⟨rfl, fun e h => h⟩
    · rintro x rest b s' ⟨rfl, hr⟩
      obtain ⟨k, hk, _⟩ := hko x (by simpa using hr x List.mem_cons_self)
      have nr := nk k x.key hk
      split
      · rename_i a he
        exact absurd he (nr a)
      · exact wpAny_pure ⟨rfl, fun e h => hr e (List.mem_cons_of_mem _ h)⟩
    · rintro b s' ⟨rfl, _⟩
      exact loop
  · exact loop
/-- a dict merged into the display, as the display says it -/
theorem dm_one {d o : Addr} {kvs more : List (K × Value)} {kk : Value → Sem Unit} {tc : Value → Sem Unit} {k2 : Value → Sem Unit} {Q : Unit → Shared → Prop} (nk : ∀ k v, knd.is k v = true → ∀ a, v ≠ .ref a) (hdo : d ≠ o) (hoS : (o == sysModules) = false)
    (hd : s.heap.DictOf knd d kvs) (ho : s.heap.DictOf knd o more)
    (hQ : ∀ h', h'.DictOf knd d (merged kvs more) → h'.DictOf knd o more → Heap.SameBut d s.heap h' → Q () { s with heap := h' })
    (hsz : kvs.length + more.length ≤ sizeLine) {vs : List Value} :
    wpAny (model prog w) A ((((holding vs (mergeMapping d (.ref o) false)).onRaise kk).tryCatch tc).onRaise k2) Q E s := by
  refine wpAny_onRaise (wpAny_tryCatch (wpAny_onRaise (wpAny_holding ?_)))
  exact dm_merge nk hdo hoS hd ho hQ hsz
theorem dm_disp2 {m1 m2 : Sem Value} {Q : Value → Shared → Prop} (nk : ∀ k v, knd.is k v = true → ∀ a, v ≠ .ref a)
    (h : wpAny (model prog w) A m1 (fun x1 s1 => ∃ o1 more1, x1 = .ref o1 ∧ s.heap.objs.size ≠ o1 ∧ (o1 == sysModules) = false ∧ s1.heap.DictOf knd s.heap.objs.size [] ∧ s1.heap.DictOf knd o1 more1 ∧ more1.length ≤ sizeLine ∧
      ∀ h1, h1.DictOf knd s.heap.objs.size (merged [] more1) → Heap.SameBut s.heap.objs.size s1.heap h1 → wpAny (model prog w) A m2 (fun x2 s2 => ∃ o2 kvs2 more2, x2 = .ref o2 ∧ s.heap.objs.size ≠ o2 ∧ (o2 == sysModules) = false ∧ s2.heap.DictOf knd s.heap.objs.size kvs2 ∧ s2.heap.DictOf knd o2 more2 ∧ kvs2.length + more2.length ≤ sizeLine ∧
        ∀ h2, h2.DictOf knd s.heap.objs.size (merged kvs2 more2) → Heap.SameBut s.heap.objs.size s2.heap h2 → Q (.ref s.heap.objs.size) { s2 with heap := h2 }) E { s1 with heap := h1 }) E
      { s with heap := s.heap.push { cls := .type "dict", data := .dict #[] } }) :
    wpAny (model prog w) A (dictDisplay [(none, m1), (none, m2)]) Q E s := by
  unfold dictDisplay
  simp only [List.forIn_cons, List.forIn_nil, List.isEmpty_nil, if_true, pure_bind, bind_assoc]
  refine wpAny_bind (wpAny_alloc ?_)
  refine wpAny_bind (wpAny_holding (wpAny_mono h (fun x1 s1 h1 => ?_) fun _ _ e => e))
  obtain ⟨o1, more1, rfl, ho1, hS1, hd1, hm1, hz1, h1⟩ := h1
  refine wpAny_bind (dm_one nk ho1 hS1 hd1 hm1 (fun ha hda hoa hsa => ?_) (by simpa using hz1))
  refine wpAny_bind (wpAny_holding (wpAny_mono (h1 ha hda hsa) (fun x2 s2 h2 => ?_) fun _ _ e => e))
  obtain ⟨o2, kvs2, more2, rfl, ho2, hS2, hd2, hm2, hz2, h2⟩ := h2
  refine wpAny_bind (dm_one nk ho2 hS2 hd2 hm2 (fun hb hdb hob hsb => ?_) hz2)
  exact wpAny_pure (h2 hb hdb hsb)
theorem dm_dispK {m1 : Sem Value} {p : Sem Value × Sem Value} {more : List (Sem Value × Sem Value)} {Q : Value → Shared → Prop} (hl : more = [] ∨ ∃ q, more = [q]) (nk : ∀ k v, knd.is k v = true → ∀ a, v ≠ .ref a)
    (h : wpAny (model prog w) A m1 (fun x1 s1 => ∃ o1 more1, x1 = .ref o1 ∧ s.heap.objs.size ≠ o1 ∧ (o1 == sysModules) = false ∧ s1.heap.DictOf knd s.heap.objs.size [] ∧ s1.heap.DictOf knd o1 more1 ∧ more1.length ≤ sizeLine ∧
      ∀ h1, h1.DictOf knd s.heap.objs.size (merged [] more1) → Heap.SameBut s.heap.objs.size s1.heap h1 → s.heap.objs.size ≠ h1.objs.size ∧ (h1.objs.size == sysModules) = false ∧ wpAny (model prog w) A (evalPairs (p :: more)) (fun vs s2 => ∃ kvs2 kvs, Carries knd vs kvs ∧ s2.heap.DictOf knd h1.objs.size [] ∧ s2.heap.DictOf knd s.heap.objs.size kvs2 ∧ kvs2.length + kvs.length ≤ sizeLine ∧
        ∀ h2 h3, h2.DictOf knd h1.objs.size (merged [] kvs) → Heap.SameBut h1.objs.size s2.heap h2 → h3.DictOf knd s.heap.objs.size (merged kvs2 (merged [] kvs)) → Heap.SameBut s.heap.objs.size h2 h3 → Q (.ref s.heap.objs.size) { s2 with heap := h3, toks := s2.toks + vs.length }) E { s1 with heap := h1.push { cls := .type "dict", data := .dict #[] } }) E
      { s with heap := s.heap.push { cls := .type "dict", data := .dict #[] } }) :
    wpAny (model prog w) A (dictDisplay ((none, m1) :: ((p :: more).map fun p => (some p.1, p.2)))) Q E s := by
  have key : ∀ (d : Addr) (s0 : Shared) (h1 : Heap), wpAny (model prog w) A (evalPairs (p :: more)) (fun vs s2 => ∃ kvs2 kvs, Carries knd vs kvs ∧ s2.heap.DictOf knd h1.objs.size [] ∧ s2.heap.DictOf knd d kvs2 ∧ kvs2.length + kvs.length ≤ sizeLine ∧
        ∀ h2 h3, h2.DictOf knd h1.objs.size (merged [] kvs) → Heap.SameBut h1.objs.size s2.heap h2 → h3.DictOf knd d (merged kvs2 (merged [] kvs)) → Heap.SameBut d h2 h3 → Q (.ref d) { s2 with heap := h3, toks := s2.toks + vs.length }) E { s0 with heap := h1.push { cls := .type "dict", data := .dict #[] } } → d ≠ h1.objs.size → (h1.objs.size == sysModules) = false →
      wpAny (model prog w) A (do
        let sub ← holding [.ref d] (subDict (p :: more))
        ((holding [.ref d, .ref sub] (mergeMapping d (.ref sub) false)).onRaise fun x => do let _ ← holding [.ref d, x] (runValue (.builtin "proto.let_go" {})))
        pure (Value.ref d)) Q E { s0 with heap := h1 } := fun d s0 h1 hw hne hS => by
    have hlen : (p :: more).length ≤ 15 := by rcases hl with rfl | ⟨q, rfl⟩ <;> simp
    refine wpAny_bind (wpAny_holding (wpAny_subDict (knd := knd) (s := { s0 with heap := h1 }) hlen (wpAny_mono hw (fun vs s2 h2 => ?_) fun _ _ e => e)))
    obtain ⟨kvs2, kvs, c, hd0, hd, hz, h2⟩ := h2
    refine ⟨kvs, c, hd0, fun ha hda hsa => ?_⟩
    have hd' := hd.sameBut hsa hne
    have hz2 : kvs2.length + (merged [] kvs).length ≤ sizeLine := by
      have := merged_length_le ([] : List (K × Value)) kvs
      simp only [List.length_nil, Nat.zero_add] at this
      omega
    refine wpAny_bind (wpAny_onRaise (wpAny_holding (dm_merge (s := { s2 with heap := ha, toks := s2.toks + vs.length }) nk hne hS hd' hda (fun hb hdb _ hsb => ?_) hz2)))
    exact wpAny_pure (h2 ha hb hda hsa hdb hsb)
  unfold dictDisplay
  rcases hl with rfl | ⟨q, rfl⟩
  · simp only [List.map_cons, List.map_nil, List.forIn_cons, List.forIn_nil, List.isEmpty_nil, if_true, pure_bind, bind_assoc, List.nil_append, List.length_cons, List.length_nil]
    refine wpAny_bind (wpAny_alloc ?_)
    refine wpAny_bind (wpAny_holding (wpAny_mono h (fun x1 s1 h1 => ?_) fun _ _ e => e))
    obtain ⟨o1, more1, rfl, ho1, hS1, hd1, hm1, hz1, h1⟩ := h1
    refine wpAny_bind (dm_one nk ho1 hS1 hd1 hm1 (fun ha hda hoa hsa => ?_) (by simpa using hz1))
    obtain ⟨hn, hS, hw⟩ := h1 ha hda hsa
    simp only [show (0 + 1 == 17) = false from rfl, show (0 + 1 + 1 == 17) = false from rfl, Bool.false_eq_true, if_false, pure_bind, bind_assoc, List.isEmpty_cons, List.cons_append, List.nil_append, List.length_cons, List.length_nil]
    exact key _ s1 ha hw hn hS
  · simp only [List.map_cons, List.map_nil, List.forIn_cons, List.forIn_nil, List.isEmpty_nil, if_true, pure_bind, bind_assoc, List.nil_append, List.length_cons, List.length_nil, List.cons_append]
    refine wpAny_bind (wpAny_alloc ?_)
    refine wpAny_bind (wpAny_holding (wpAny_mono h (fun x1 s1 h1 => ?_) fun _ _ e => e))
    obtain ⟨o1, more1, rfl, ho1, hS1, hd1, hm1, hz1, h1⟩ := h1
    refine wpAny_bind (dm_one nk ho1 hS1 hd1 hm1 (fun ha hda hoa hsa => ?_) (by simpa using hz1))
    obtain ⟨hn, hS, hw⟩ := h1 ha hda hsa
    simp only [show (0 + 1 == 17) = false from rfl, show (0 + 1 + 1 == 17) = false from rfl, Bool.false_eq_true, if_false, pure_bind, bind_assoc, List.isEmpty_cons, List.cons_append, List.nil_append, List.length_cons, List.length_nil]
    exact key _ s1 ha hw hn hS
end
end PySem
set_option Elab.async false
set_option linter.all false
set_option maxRecDepth 100000
set_option maxHeartbeats 2000000
namespace DS
open PySem L2
variable {F : Fr} {X : Cx} {W : WX} {a b c e o : Expr} {fa fb fc : EF} {pos : Pos} {st : Stmt} {sts : List Stmt} {f g : SF} {tt : TF} {es : List Expr} {fs : List EF}

theorem mix_noref {P : Program} {w : World} : ∀ (k : L2.Key) (v : Value), (mixKind P w).is k v = true → ∀ a, v ≠ .ref a := fun k v h a e => by
  subst e
  rcases keyIs_shape h with ⟨i, t, _, e⟩ | ⟨x, t, _, e⟩ <;> cases e
def mergeD (kvs more : List (L2.Key × D)) : List (L2.Key × D) := more.foldl (fun acc kv => putD acc kv.1 kv.2) kvs
theorem HoldsK.merge {H : Hp} {A : Addr → Prop} : ∀ {more : List (L2.Key × D)} {ms : List (L2.Key × V)} {kvs : List (L2.Key × D)} {ws : List (L2.Key × V)}, HoldsK H A more ms → HoldsK H A kvs ws → HoldsK H A (mergeD kvs more) (mergeK ws ms)
  | [], _, _, _, h, k => by cases h; exact k
  | (k', d) :: more, _, kvs, ws, h, k => by
    obtain ⟨v, r, rfl, h1, h2⟩ := h
    exact HoldsK.merge (kvs := putD kvs k' d) (ws := putK ws k' v) h2 (k.put k' h1)
/-- one more address to keep off -/
theorem Rel.more {σ : L2.St} {H H' : Hp} {sd : SD} {p : Addr} (rel : Rel F σ H sd) (hD : H p = none) (s : Same H H') (hD' : H' p ≠ none) : Rel ⟨F.H0, fun a => F.B a ∨ a = p, F.S⟩ σ H' sd := by
  have av : ∀ a, Av ⟨F.H0, fun a => F.B a ∨ a = p, F.S⟩ σ sd a → Av F σ sd a ∨ a = p := fun a z => z.elim (fun z => z.imp_left .inl) fun z => .inl (.inr z)
  have u : Up H (Av F σ sd) H' (Av ⟨F.H0, fun a => F.B a ∨ a = p, F.S⟩ σ sd) := Up.ofOff (fun b o h _ => s _ _ h) fun b z => (av b z).imp_right fun z => by rw [z]; exact hD
  refine ⟨rel.same.trans s, rel.len, fun i t e => ?_, rel.inj, fun a z q => q.elim (rel.nb a z) fun q => ?_, fun a z => z.elim (fun z => Same.dom s a (rel.bdom a z)) fun z => by rw [z]; exact hD'⟩
  · obtain ⟨v, ev, h⟩ := rel.slot i t e
    refine ⟨v, ev, ?_⟩
    cases t with
    | un => trivial
    | xc => exact h
    | sh d => obtain ⟨x, e, h⟩ := h; exact ⟨x, e, Holds.up u d h⟩
    | bw d => obtain ⟨x, e, h⟩ := h; exact ⟨x, e, HoldsB.less (fun a ha na => u.off a (Same.dom rel.same a ha) na) h⟩
    | ol ds => obtain ⟨a, vs, e, n, r, l⟩ := h; exact ⟨a, vs, e, n, s _ _ r, HoldsL.up u _ l⟩
    | od ds => obtain ⟨a, vs, e, n, r, l⟩ := h; exact ⟨a, vs, e, n, s _ _ r, HoldsK.up u _ l⟩
    | oi C ds => obtain ⟨a, dx, vs, e, n, r, l⟩ := h; exact ⟨a, dx, vs, e, n, s _ _ r, HoldsF.up u _ l⟩
  · rw [q] at z
    exact (rel.odom z).1 hD
def asDk {α : Type} (d : D) (f : List (L2.Key × D) → R α) : R α := match d with
  | .dk ks => f ks
  | _ => .no
def merge2D (ks ls : List (L2.Key × D)) : R ND := if ks.length + ls.length ≤ sizeLine then .ok (.nd (mergeD (mergeD [] ks) ls)) else .no
def nMerge2 (fa fb : EF) : NF := fun s => (fa s).bind fun x => asDk x fun ks => (fb s).bind fun y => asDk y fun ls => merge2D ks ls
theorem length_putD (kvs : List (L2.Key × D)) (k : L2.Key) (d : D) : (putD kvs k d).length ≤ kvs.length + 1 := by
  unfold putD
  split
  · simp
  · simp
theorem length_mergeD : ∀ (more kvs : List (L2.Key × D)), (mergeD kvs more).length ≤ kvs.length + more.length
  | [], kvs => Nat.le_refl _
  | kv :: r, kvs => by
    have h1 := length_putD kvs kv.1 kv.2
    have h2 := length_mergeD r (putD kvs kv.1 kv.2)
    show (mergeD (putD kvs kv.1 kv.2) r).length ≤ _
    simp only [List.length_cons]
    omega
theorem post_more {mg : Str → Option Value} {σ : L2.St} {sd : SD} {n0 : Addr} {H Hx : Hp} {Qx : VK} {c : Str} {fs' : List (Str × D)} (s2 : Same H Hx) (p : ∀ cls da H', Same H H' → ExRep mg H' (Av F σ sd) c fs' cls da → W cls da σ H') :
    Post false mg W σ (Av ⟨F.H0, fun a => F.B a ∨ a = n0, F.S⟩ σ sd) (.ex c fs') Hx Qx := fun cls da H' s3 x => p cls da H' (s2.trans s3) (by
    rcases x with ⟨C, h1, h2, h3⟩ | x
    · exact .inl ⟨C, h1, h2, h3.imp_right fun ⟨d, ws, e1, e2, e3⟩ => ⟨d, ws, e1, e2, HoldsF.up (up_own fun a z => z.elim (fun z => .inl (.inl z)) .inr) _ e3⟩⟩
    · exact .inr x)
theorem dn_merge2 (ha : ∀ F, DE F X W a fa) (hb : ∀ F, DE F X W b fb) : DN F X W (.Dict [none, none] [a, b] pos) (nMerge2 fa fb) := ⟨⟨fun pins s σ H Q I ⟨sd, rel, p⟩ => by
  rw [arm_eval_Dict]
  refine wpAny_bind (wpAny_standAt ?_)
  show wpAny _ _ (dictDisplay [(none, do let x ← eval a X.env; standAt pos; pure x), (none, do let x ← eval b X.env; standAt pos; pure x)]) _ _ _
  refine dm_disp2 (knd := mixKind X.prog X.w) mix_noref ?_
  generalize hD : s.heap.objs.size = n0
  have hn : H n0 = none := I.hok.fresh (Nat.le_of_eq hD)
  have I1 : Inv X pins σ (upd H n0 (.dK [])) { s with heap := s.heap.push { cls := .type "dict", data := .dict #[] } } :=
    I.laid (a := n0) (o := .dK []) (t' := s.toks) (fun _ _ q => Heap.get?_push_of_some _ q) (Nat.le_of_eq hD) (by rw [← hD]; exact dk_empty s.heap I.big)
  have r1 := rel.more hn (same_upd (o := .dK []) hn) (by rw [upd_same]; simp)
  have avA : ∀ a, (Av F σ sd a ∨ a = n0) → Av ⟨F.H0, fun a => F.B a ∨ a = n0, F.S⟩ σ sd a := fun a z => z.elim (fun z => z.elim (fun z => .inl (.inl z)) .inr) fun z => .inl (.inr z)
  unfold nMerge2 at p
  cases q1 : fa sd with
  | no => rw [q1] at p; exact p.elim
  | ex c fs =>
    rw [q1] at p
    refine wpAny_bind (thn ((ha _).pe.run pins _ σ _ (fun _ _ => False) I1 ⟨sd, r1, by rw [q1]; exact post_more (same_upd hn) p⟩) fun u s1 hu => ?_)
    obtain ⟨_, _, _, _, z⟩ := hu
    exact z.elim
  | ok x =>
    rw [q1, R.bind_ok] at p
    refine wpAny_bind (thn ((ha _).pe.run pins _ σ _ (fun v H2 => Same (upd H n0 (.dK [])) H2 ∧ Holds H2 (Av ⟨F.H0, fun a => F.B a ∨ a = n0, F.S⟩ σ sd) x v) I1 ⟨sd, r1, by rw [q1]; exact fun v H2 s2 hv => ⟨s2, hv⟩⟩) fun u s1 hu => wpAny_bind (wpAny_standAt (wpAny_pure ?_)))
    obtain ⟨v, H2, I2, rv, s2, hv⟩ := hu
    cases x with
    | dk ks =>
      replace p : match ((fb sd).bind fun y => asDk y fun ls => merge2D ks ls) with
        | .ok n => ∀ p H', Same H H' → H p = none → H' p ≠ none → (∀ F' : Fr, F'.H0 p = none → SlOk F' H' (fun a => Av F σ sd a ∨ a = p) (some (.ref p)) n.sl) → Q (.ref p) H'
        | .ex c fs => Post false X.mg W σ (Av F σ sd) (.ex c fs) H Q
        | .no => False := p
      obtain ⟨a1, ws, rfl, na1, rd1, l1⟩ := hv
      cases rv
      obtain ⟨z1, hS1, vs1, kv1, dd1⟩ := dk_rd I2.hok rd1
      have e0 : H2 n0 = some (.dK []) := s2 _ _ upd_same
      obtain ⟨z0, hS0, vs0, kv0, dd0⟩ := dk_of I2.hok e0
      cases kv0
      refine ⟨a1, vs1, rfl, fun z => na1 (avA _ (.inr z.symm)), hS1, dd0, dd1, by rw [← kv1.length]; exact z1, fun h1 hd1 hs1 => ?_⟩
      have hl : (mergeK [] ws).length ≤ sizeLine := Nat.le_trans (length_mergeK ws []) (by simpa using z1)
      have I3 : Inv X pins σ (upd H2 n0 (.dK (mergeK [] ws))) { s1 with heap := h1 } := d_write (t' := s1.toks) I2 (by rw [e0]; exact True.intro) hs1 (let ⟨q, _, _, hq, _⟩ := hd1; ⟨q, hq⟩) (dk_new hl hS0 (kv1.merge .nil) hd1)
      have s3 : Same H (upd H2 n0 (.dK (mergeK [] ws))) := fun b o h => by
        rw [upd_ne (ne_of_none h hn)]; exact s2 _ _ (same_upd hn b o h)
      have r3 := rel.more hn s3 (by rw [upd_same]; simp)
      cases q2 : fb sd with
      | no => rw [q2] at p; exact p.elim
      | ex c fs =>
        rw [q2] at p
        refine wpAny_bind (thn ((hb _).pe.run pins _ σ _ (fun _ _ => False) I3 ⟨sd, r3, by rw [q2]; exact post_more s3 p⟩) fun u s1 hu => ?_)
        obtain ⟨_, _, _, _, z⟩ := hu
        exact z.elim
      | ok y =>
        rw [q2, R.bind_ok] at p
        refine wpAny_bind (thn ((hb _).pe.run pins _ σ _ (fun v H4 => Same (upd H2 n0 (.dK (mergeK [] ws))) H4 ∧ Holds H4 (Av ⟨F.H0, fun a => F.B a ∨ a = n0, F.S⟩ σ sd) y v) I3 ⟨sd, r3, by rw [q2]; exact fun v H2 s2 hv => ⟨s2, hv⟩⟩) fun u2 s4 hu2 => wpAny_bind (wpAny_standAt (wpAny_pure ?_)))
        obtain ⟨v2, H4, I4, rv2, s4', hv2⟩ := hu2
        cases y with
        | dk ls =>
          by_cases hz : ks.length + ls.length ≤ sizeLine
          · replace p : ∀ p H', Same H H' → H p = none → H' p ≠ none → (∀ F' : Fr, F'.H0 p = none → SlOk F' H' (fun a => Av F σ sd a ∨ a = p) (some (.ref p)) (.od (mergeD (mergeD [] ks) ls))) → Q (.ref p) H' := by
              unfold asDk merge2D at p
              simp only [hz, if_true] at p
              exact p
            obtain ⟨a2, ws2, rfl, na2, rd2, l2⟩ := hv2
            cases rv2
            obtain ⟨z2, hS2, vs2, kv2, dd2⟩ := dk_rd I4.hok rd2
            have e4 : H4 n0 = some (.dK (mergeK [] ws)) := s4' _ _ upd_same
            obtain ⟨z4, hS4, vs4, kv4, dd4⟩ := dk_of I4.hok e4
            have hz4 : (mergeK [] ws).length + ws2.length ≤ sizeLine := by
              have := length_mergeK ws []
              have h1 := l1.length
              have h2 := l2.length
              simp only [List.length_nil, Nat.zero_add] at this
              omega
            refine ⟨a2, vs4, vs2, rfl, fun z => na2 (avA _ (.inr z.symm)), hS2, dd4, dd2, by rw [← kv4.length, ← kv2.length]; exact hz4, fun h2 hd2 hs2 => ?_⟩
            have hl2 : (mergeK (mergeK [] ws) ws2).length ≤ sizeLine := Nat.le_trans (length_mergeK ws2 _) hz4
            have I5 : Inv X pins σ (upd H4 n0 (.dK (mergeK (mergeK [] ws) ws2))) { s4 with heap := h2 } := d_write (t' := s4.toks) I4 (by rw [e4]; exact True.intro) hs2 (let ⟨q, _, _, hq, _⟩ := hd2; ⟨q, hq⟩) (dk_new hl2 hS4 (kv2.merge kv4) hd2)
            have s5 : Same H (upd H4 n0 (.dK (mergeK (mergeK [] ws) ws2))) := fun b o h => by
              rw [upd_ne (ne_of_none h hn)]; exact s4' _ _ (s3 b o h)
            refine ⟨.ref n0, _, I5, rfl, p n0 _ s5 hn (by rw [upd_same]; simp) fun F' h0 => ⟨n0, _, rfl, h0, upd_same, ?_⟩⟩
            have offD : ∀ {Ha Hb : Hp}, (∀ b o, Ha b = some o → b ≠ n0 → Hb b = some o) → Up Ha (Av ⟨F.H0, fun a => F.B a ∨ a = n0, F.S⟩ σ sd) Hb (fun a => Av F σ sd a ∨ a = n0) := fun h => Up.ofOff (fun b o q n => h b o q fun z => n (avA _ (.inr z))) fun b z => .inl (avA b z)
            have m2 : HoldsK (upd H4 n0 (.dK (mergeK (mergeK [] ws) ws2))) (fun a => Av F σ sd a ∨ a = n0) ls ws2 := HoldsK.up (offD fun b o h hb => by rw [upd_ne hb]; exact h) _ l2
            have m1 : HoldsK (upd H4 n0 (.dK (mergeK (mergeK [] ws) ws2))) (fun a => Av F σ sd a ∨ a = n0) ks ws := HoldsK.up (offD fun b o h hb => by rw [upd_ne hb]; exact s4' _ _ (by rw [upd_ne hb]; exact h)) _ l1
            exact m2.merge (m1.merge (kvs := []) (ws := []) rfl)
          · exfalso
            unfold asDk merge2D at p
            simp only [hz, if_false] at p
        | _ => exact p.elim
    | _ => exact p.elim⟩⟩
end DS
set_option Elab.async false
set_option linter.all false
set_option maxRecDepth 100000
set_option maxHeartbeats 2000000
namespace DS
open PySem L2
variable {F : Fr} {X : Cx} {W : WX} {a b c e : Expr} {fa fb fc : EF} {pos : Pos} {st : Stmt} {sts : List Stmt} {f g : SF} {tt : TF} {es : List Expr} {fs : List EF}

/-! ### dict comprehensions -/
def lcD (g : GF) (t : TF) (ek ev : EF) (s0 : SD) : List (L2.Key × D) → List D → R (List (L2.Key × D))
  | acc, [] => .ok acc
  | acc, d :: ds => match g d s0 with
    | none => .no
    | some s1 => (noX (t s1)).bind fun b => if b = true then (noX (ek s1)).bind fun k => (noX (ev s1)).bind fun v => (match keyD k with
        | some kk => if acc.length < sizeLine then lcD g t ek ev s0 (putD acc kk v) ds else .no
        | none => .no) else lcD g t ek ev s0 acc ds
def nDc (it : IF) (g : GF) (t : TF) (ek ev : EF) (vs : List Nat) : NF := fun s => (it s).bind fun ds => (lcD g t ek ev (wipeS (blkS s) vs) [] ds).bind fun r => .ok (.nd r)
theorem noX_ok {α : Type} {r : R α} {x : α} (h : noX r = .ok x) : r = .ok x := by cases r <;> first | exact h | cases h
theorem lcD_ex {g : GF} {t : TF} {ek ev : EF} {s0 : SD} : ∀ {ds : List D} {acc c fs}, lcD g t ek ev s0 acc ds ≠ .ex c fs
  | [], _, _, _ => fun z => by cases z
  | d :: ds, acc, c, fs => fun z => by
    unfold lcD at z
    cases q : g d s0 with
    | none => rw [q] at z; cases z
    | some s1 =>
      rw [q] at z
      dsimp only at z
      cases q2 : t s1 with
      | no => rw [q2] at z; cases z
      | ex _ _ => rw [q2] at z; cases z
      | ok b =>
        rw [q2] at z
        simp only [noX, R.bind_ok] at z
        cases b with
        | false => rw [if_neg Bool.false_ne_true] at z; exact lcD_ex z
        | true =>
          rw [if_pos rfl] at z
          cases q3 : ek s1 with
          | no => rw [q3] at z; cases z
          | ex _ _ => rw [q3] at z; cases z
          | ok k =>
            rw [q3] at z
            simp only [noX, R.bind_ok] at z
            cases q4 : ev s1 with
            | no => rw [q4] at z; cases z
            | ex _ _ => rw [q4] at z; cases z
            | ok v =>
              rw [q4] at z
              simp only [noX, R.bind_ok] at z
              cases q5 : keyD k with
              | none => rw [q5] at z; cases z
              | some kk =>
                rw [q5] at z
                dsimp only at z
                by_cases hl : acc.length < sizeLine
                · rw [if_pos hl] at z; exact lcD_ex z
                · rw [if_neg hl] at z; cases z
theorem dn_dc {kx vx tg iter : Expr} {ifs : List Expr} {scope : Scope} (own : List (Str × Nat)) {fi : IF} {gg : GF} {tl : List Nat} {fk fe : EF} (hc : X.calm = true) (hN : X.N.Nodup) (hi : DI F X W tg iter fi) (ok : BlkOk X.N X.env.scope scope own)
    (hg : ∀ (F : Fr) (s : Shared) (H : Hp) (C : Addr) (cl : List (Str × Addr)) (fp : List Addr), DG F (X.blk s H scope (compEnvC scope cl C X.env) fp) tg gg tl)
    (ht : ∀ (F : Fr) (s : Shared) (H : Hp) (C : Addr) (cl : List (Str × Addr)) (fp : List Addr), DTs F (X.blk s H scope (compEnvC scope cl C X.env) fp) W0 ifs tt)
    (hk : ∀ (F : Fr) (s : Shared) (H : Hp) (C : Addr) (cl : List (Str × Addr)) (fp : List Addr), DE F (X.blk s H scope (compEnvC scope cl C X.env) fp) W0 kx fk)
    (he : ∀ (F : Fr) (s : Shared) (H : Hp) (C : Addr) (cl : List (Str × Addr)) (fp : List Addr), DE F (X.blk s H scope (compEnvC scope cl C X.env) fp) W0 vx fe)
    (hsub : ∀ i ∈ tl, i ∈ own.map (·.2)) (hs : ∀ x, foldedSetIterable iter X.env x = pure x := by intro _; rfl) :
    DN F X W (.DictComp kx vx [⟨tg, iter, ifs, 0⟩] scope pos) (nDc fi gg tt fk fe (own.map (·.2))) :=
  ⟨PE.weak (pe_dc hc hN hi.pi ok (fun s H C cl fp => PG.exF (t := fun F => TGx F gg tl) fun F => (hg F s H C cl fp).pg) (fun s H C cl fp => PTs.exF (t := fun F => TTx F X.mg W0 tt) fun F => (ht F s H C cl fp).pt) (fun s H C cl fp => PE.exF (t := fun F => TEx false F X.mg W0 fk) fun F => (hk F s H C cl fp).pe) (fun s H C cl fp => PE.exF (t := fun F => TEx false F X.mg W0 fe) fun F => (he F s H C cl fp).pe) hs) fun σ H Q ⟨sd, rel, p⟩ => ⟨sd, rel, by
    unfold nDc at p
    cases q : fi sd with
    | no => rw [q] at p; exact p
    | ex c fs => rw [q] at p; exact p
    | ok ds =>
      rw [q, R.bind_ok] at p
      intro J H1 s1 y D hD
      have rel1 := rel.mono s1
      generalize own.map (·.2) = vs at p hsub ⊢
      cases q2 : lcD gg tt fk fe (wipeS (blkS sd) vs) [] ds with
      | no => rw [q2] at p; exact p.elim
      | ex c fs => exact absurd q2 lcD_ex
      | ok out =>
        rw [q2, R.bind_ok] at p
        refine ⟨fun i m H' => m = ds.length - i ∧ i ≤ ds.length ∧ ∃ accD accV, H' D = some (.dK accV) ∧ HoldsK H' (fun a => Av F σ sd a ∨ a = D) accD accV ∧ Same H1 H' ∧ lcD gg tt fk fe (wipeS (blkS sd) vs) accD (ds.drop i) = .ok out,
          ⟨ds.length, rfl, Nat.zero_le _, [], [], upd_same, rfl, same_upd hD, q2⟩, ?_⟩
        rintro i m H2 ⟨rfl, hi, accD, accV, eD, hA, s2, er⟩
        have rb := (rel1.block hD s2 (by rw [eD]; simp)).wipe vs
        generalize hF : (⟨H1, fun a => Av F σ sd a ∨ a = D, 0⟩ : Fr) = F' at rb
        generalize hs0 : wipeS (blkS sd) vs = s0 at rb er ⊢
        have avB : ∀ {σ' : St} {sd' : SD} (a : Addr), (Av F σ sd a ∨ a = D) → Av F' σ' sd' a := fun a z => .inl (by rw [← hF]; exact z)
        have noAv : ∀ a, Av F' (L2.wipe σ vs) s0 a → Av F σ sd a ∨ a = D := fun a z => by
          rcases z with z | z
          · rw [← hF] at z; exact z
          · obtain ⟨j, s', e, o, _⟩ := z
            rw [← hs0] at e
            rw [wipeS_own sd vs j s' e] at o
            cases o
        have u2 : Up H1 (Av F σ sd) H2 (Av F' (L2.wipe σ vs) s0) := Up.ofOff (fun b o h _ => s2 _ _ h) fun b z => (noAv b z).imp_right fun z => by rw [z]; exact hD
        have yy := y i H2 (Av F' (L2.wipe σ vs) s0) u2 (fun b o h _ => s2 _ _ h) (fun a z => rb.dom z)
        by_cases hlt : i < ds.length
        · refine .inr ⟨(yy.1 hlt).1, fun H' => ∃ accD accV, H' D = some (.dK accV) ∧ HoldsK H' (fun a => Av F σ sd a ∨ a = D) accD accV ∧ Same H1 H' ∧ lcD gg tt fk fe s0 accD (ds.drop (i + 1)) = .ok out, fun H' h => ⟨ds.length - (i + 1), by omega, rfl, hlt, h⟩, fun x H3 yx => ?_⟩
          obtain ⟨s3, d, ed, hd⟩ := (yy.1 hlt).2 x H3 yx
          have edrop : ds.drop i = d :: ds.drop (i + 1) := by
            rw [List.drop_eq_getElem_cons hlt]
            congr 1
            rw [List.getElem?_eq_getElem hlt] at ed
            exact Option.some.inj ed
          rw [edrop] at er
          unfold lcD at er
          have r3 := rb.mono s3
          refine ⟨F', s0, d, r3, hd, ?_⟩
          cases q3 : gg d s0 with
          | none => rw [q3] at er; cases er
          | some s4 =>
            rw [q3] at er
            dsimp only at er
            intro σ4 r4 own4 off4
            refine ⟨wipe_wipe_off off4 hsub, F', s4, r4, ?_⟩
            cases q4 : tt s4 with
            | no => rw [q4] at er; cases er
            | ex c fs => rw [q4] at er; cases er
            | ok bb =>
              rw [q4] at er
              simp only [noX, R.bind_ok] at er
              intro H5 s5
              have r5 := r4.mono s5
              have s25 : Same H2 H5 := s3.trans s5
              cases bb with
              | false =>
                rw [if_neg Bool.false_ne_true] at er ⊢
                exact ⟨accD, accV, s25 _ _ eD, hA.same s25, s2.trans s25, er⟩
              | true =>
                rw [if_pos rfl] at er ⊢
                refine ⟨F', s4, r5, ?_⟩
                cases q5 : fk s4 with
                | no => rw [q5] at er; cases er
                | ex c fs => rw [q5] at er; cases er
                | ok kv =>
                  rw [q5] at er
                  simp only [noX, R.bind_ok] at er
                  intro v H6 s6 hv
                  have s26 : Same H2 H6 := s25.trans s6
                  refine ⟨F', s4, r5.mono s6, ?_⟩
                  cases q6 : fe s4 with
                  | no => rw [q6] at er; cases er
                  | ex c fs => rw [q6] at er; cases er
                  | ok yv =>
                    rw [q6] at er
                    simp only [noX, R.bind_ok] at er
                    intro z H7 s7 hz
                    have s27 : Same H2 H7 := s26.trans s7
                    cases q7 : keyD kv with
                    | none => rw [q7] at er; cases er
                    | some kk =>
                      rw [q7] at er
                      dsimp only at er
                      by_cases hl : accD.length < sizeLine
                      · rw [if_pos hl] at er
                        have hz' : Holds H7 (fun a => Av F σ sd a ∨ a = D) yv z := Holds.less hz fun a z => avB a z
                        refine ⟨accV, kk, keyD_v (Holds.b hv) q7, s27 _ _ eD, by rw [hA.length]; exact hl, putD accD kk yv, putK accV kk z, upd_same, ?_, fun b o h => ?_, er⟩
                        · have uD : Up H7 (fun a => Av F σ sd a ∨ a = D) (upd H7 D (.dK (putK accV kk z))) (fun a => Av F σ sd a ∨ a = D) := Up.ofOff (fun b q e n => by rw [upd_ne (fun z => n (.inr z))]; exact e) fun b z => .inl z
                          exact HoldsK.up uD _ ((hA.same s27).put kk hz')
                        · rw [upd_ne (ne_of_none h hD)]
                          exact (s2.trans s27) _ _ h
                      · rw [if_neg hl] at er; cases er
        · have ei : i = ds.length := by omega
          subst ei
          rw [List.drop_length] at er
          unfold lcD at er
          cases er
          refine .inl ⟨yy.2 (Nat.le_refl _), p D H2 (s1.trans s2) (s1.free hD) (by rw [eD]; simp) fun F2 h0 => ⟨D, accV, rfl, h0, eD, hA⟩⟩⟩⟩
end DS
set_option Elab.async false
set_option linter.all false
set_option maxRecDepth 100000
set_option maxHeartbeats 2000000
namespace DS
open PySem L2
variable {F : Fr} {X : Cx} {W : WX} {a b c e : Expr} {fa fb fc : EF} {pos : Pos} {st : Stmt} {sts : List Stmt} {f g : SF} {tt : TF} {es : List Expr} {fs : List EF}

theorem te1S {b b' : Bool} {fa : EF} {op : D → R D} {mg : Str → Option Value} {σ : L2.St} {H : Hp} {Q : VK} {r : V → Hp → Prop} {sd : SD} (rel : Rel F σ H sd)
    (p : Post b' mg W σ (Av F σ sd) ((fa sd).bind op) H Q)
    (hr : ∀ (d : D), fa sd = .ok d → ∀ (v : V) (H2 : Hp), Same H H2 → Rel F σ H2 sd → (if b = true then HoldsB H2 (Av F σ sd) d v else Holds H2 (Av F σ sd) d v) → Post b' mg W σ (Av F σ sd) (op d) H2 Q → r v H2) :
    TEx b F mg W fa σ H r := by
  refine ⟨sd, rel, ?_⟩
  cases q : fa sd with
  | ok d =>
    rw [q] at p
    intro v H2 s h
    exact hr d q v H2 s (rel.mono s) h (p.mono s)
  | ex c fs => rw [q] at p; exact p
  | no => rw [q] at p; exact p
/-! ### d.get(k, z) -/
def opGet (k : D) (kvs : List (L2.Key × D)) (z : D) : R D := match keyD k with
  | some kk => .ok ((valD kvs kk).getD z)
  | none => .no
def eGet2 (fa fb fc : EF) : EF := fun s => (fa s).bind fun x => asDk x fun kvs => (fb s).bind fun k => (fc s).bind fun z => opGet k kvs z
theorem de_get2 {o : Expr} {apos cpos : Pos} (hu : X.A.units + 64 < cLine) (ho : DB F X W o fa) (hb : DB F X W b fb) (hc : DE F X W c fc) (m : M2 X o "get" apos b c cpos := by exact ⟨rfl, rfl, rfl, rfl⟩) :
    DE F X W (.Call (.Attribute o "get" apos) [b, c] [] cpos) (eGet2 fa fb fc) :=
  ⟨PE.weak (pe_dget2 (by omega) ho.pe hb.pe hc.pe m) fun σ H Q ⟨sd, rel, p⟩ => te1S rel p fun d q v H1 s1 r1 hv p1 => by
    have hv : HoldsB H1 (Av F σ sd) d v := hv
    cases d with
    | dk kvs =>
      obtain ⟨a1, ws, rfl, rd, l⟩ := hv
      refine ⟨a1, rfl, .inl ⟨_, rd⟩, te1S (b' := false) r1 p1 fun k _ y H2 s2 r2 h1 p2 => te1S (b' := false) r2 p2 fun z _ w H3 s3 r3 h3 p3 => ?_⟩
      have h1 : HoldsB H2 (Av F σ sd) k y := h1
      unfold opGet at p3
      cases qk : keyD k with
      | none => rw [qk] at p3; exact p3.elim
      | some kk =>
        rw [qk] at p3
        have ev := keyD_v h1 qk
        refine ⟨valV ws kk, .inl ⟨ws, kk, rd_same (s2.trans s3) rd, ev, rfl⟩, p3 _ H3 (Same.refl H3) ?_⟩
        rcases (l.same (s2.trans s3)).val kk with ⟨e1, e2⟩ | ⟨d, v, e1, e2, hh⟩
        · rw [e1, e2]; exact h3
        · rw [e1, e2]; exact hh
    | _ => exact p1.elim⟩
def eGet1 (fa fb : EF) : EF := fun s => (fa s).bind fun x => asDk x fun kvs => (fb s).bind fun k => opGet k kvs .non
theorem de_get1 {o : Expr} {apos cpos : Pos} (hu : X.A.units + 64 < cLine) (ho : DB F X W o fa) (hb : DB F X W b fb) (m : M1 X o "get" apos b cpos := by exact ⟨rfl, rfl, rfl, rfl⟩) :
    DE F X W (.Call (.Attribute o "get" apos) [b] [] cpos) (eGet1 fa fb) :=
  ⟨PE.weak (pe_dget1 (by omega) ho.pe hb.pe m) fun σ H Q ⟨sd, rel, p⟩ => te1S rel p fun d q v H1 s1 r1 hv p1 => by
    have hv : HoldsB H1 (Av F σ sd) d v := hv
    cases d with
    | dk kvs =>
      obtain ⟨a1, ws, rfl, rd, l⟩ := hv
      refine ⟨a1, rfl, .inl ⟨_, rd⟩, te1S (b' := false) r1 p1 fun k _ y H2 s2 r2 h1 p3 => ?_⟩
      have h1 : HoldsB H2 (Av F σ sd) k y := h1
      unfold opGet at p3
      cases qk : keyD k with
      | none => rw [qk] at p3; exact p3.elim
      | some kk =>
        rw [qk] at p3
        have ev := keyD_v h1 qk
        refine ⟨valV ws kk, .inl ⟨ws, kk, rd_same s2 rd, ev, rfl⟩, p3 _ H2 (Same.refl H2) ?_⟩
        rcases (l.same s2).val kk with ⟨e1, e2⟩ | ⟨d, v, e1, e2, hh⟩
        · rw [e1, e2]; rfl
        · rw [e1, e2]; exact hh
    | _ => exact p1.elim⟩

/-! ### sorted -/
def sortI (ns : List Int) : List Int := ns.mergeSort fun a b => decide (a ≤ b)
theorem sortI_perm (ns : List Int) : (sortI ns).Perm ns := List.mergeSort_perm _ _
theorem sortI_pw (ns : List Int) : (sortI ns).Pairwise (· ≤ ·) := by
  have := List.pairwise_mergeSort (le := fun a b : Int => decide (a ≤ b)) (fun a b c h1 h2 => by simp only [decide_eq_true_eq] at *; omega) (fun a b => by simp only [Bool.or_eq_true, decide_eq_true_eq]; omega) ns
  exact this.imp fun h => by simpa using h
theorem sortI_uniq {ns ys : List Int} (p : ys.Perm ns) (w : ys.Pairwise (· ≤ ·)) : ys = sortI ns :=
  List.Perm.eq_of_pairwise (le := (· ≤ ·)) (fun a b _ _ h1 h2 => Int.le_antisymm h1 h2) w (sortI_pw ns) (p.trans (sortI_perm ns).symm)
def keysI : List (L2.Key × D) → Option (List Int)
  | [] => some []
  | (.inl i, _) :: r => (keysI r).map (i :: ·)
  | (.inr _, _) :: _ => none
theorem keysI_map : ∀ {kvs : List (L2.Key × D)} {ns : List Int}, keysI kvs = some ns → kvs.map (·.1) = ns.map Sum.inl
  | [], ns, h => by cases h; rfl
  | (.inl i, d) :: r, ns, h => by
    unfold keysI at h
    cases q : keysI r with
    | none => rw [q] at h; cases h
    | some ms =>
      rw [q] at h
      cases h
      simp only [List.map_cons]
      rw [keysI_map q]
  | (.inr _, _) :: _, _, h => by cases h
def opSorted : List D → R D
  | [.lst xs] => match intsD xs with
    | some ns => .ok (.lst ((sortI ns).map D.int))
    | none => .no
  | [.dk kvs] => match keysI kvs with
    | some ns => if ns.length < 64 then .ok (.lst ((sortI ns).map D.int)) else .no
    | none => .no
  | _ => .no
def rSortedA (K : PySem.W.Frag) : List V → Hp → VK → Prop := fun xs H Q => rSortedI K xs H Q ∨ (∃ (a : Addr) (kvs : List (Key × V)) (ks : List Int), xs = [.ref a] ∧ Rd H a (.dK kvs) ∧ kvs.map (·.1) = ks.map Sum.inl ∧ ks.length < 64 ∧ ∀ (ys : List Int) (p : Addr), ys.Perm ks → ys.Pairwise (· ≤ ·) → H p = none → Q (.ref p) (upd H p (.lst (ys.map V.int))))
theorem or_sorted (hc : X.calm = true) : CallR X (.builtin "sorted") (rSortedA X.K) := CallR.or cr_sortedI (call_sortedDI hc)
theorem ok_sorted {K : PySem.W.Frag} : CallOk (rSortedA K) opSorted := by
  intro mg W σ A ds vs H Q dm hv p
  unfold opSorted at p
  split at p
  · rename_i xs
    obtain ⟨v, r, rfl, h1, h2⟩ := hv
    cases h2
    obtain ⟨a, ws, rfl, rd, l⟩ := h1
    split at p
    · rename_i ns q
      have e := intsD_v q l
      subst e
      refine .inl ⟨a, ns, rfl, SqL.of rd, fun ns' p' pe pw hp => ?_⟩
      rw [sortI_uniq pe pw]
      exact new_lst dm p (HoldsL.ints _) p' hp
    · exact p.elim
  · rename_i kvs
    obtain ⟨v, r, rfl, h1, h2⟩ := hv
    cases h2
    obtain ⟨a, ws, rfl, rd, l⟩ := h1
    split at p
    · rename_i ns q
      by_cases hl : ns.length < 64
      · rw [if_pos hl] at p
        refine .inr ⟨a, ws, ns, rfl, rd, by rw [l.keys, keysI_map q], hl, fun ns' p' pe pw hp => ?_⟩
        rw [sortI_uniq pe pw]
        exact new_lst dm p (HoldsL.ints _) p' hp
      · rw [if_neg hl] at p; exact p.elim
    · exact p.elim
  · exact p.elim

/-! ### list(range(..)) -/
def rangeL (i j : Int) : List D := (List.range (j - i).toNat).map fun (k : Nat) => D.int (i + k)
def RgS (i j : Int) : Prop := i.natAbs < 2 ^ 61 ∧ j.natAbs < 2 ^ 61 ∧ (j - i).toNat ≤ sizeLine
instance (i j : Int) : Decidable (RgS i j) := by unfold RgS; infer_instance
theorem RgS.ok {i j : Int} (h : RgS i j) : RgOk i j := by
  obtain ⟨h1, h2, h3⟩ := h
  exact ⟨by omega, by omega, by omega, by omega, h3⟩
theorem holds_range {H : Hp} {A : Addr → Prop} {i : Int} : ∀ (l : List Nat), HoldsL H A (l.map fun (k : Nat) => D.int (i + k)) (l.map fun (k : Nat) => V.int (i + k))
  | [] => rfl
  | k :: l => ⟨_, _, rfl, rfl, holds_range l⟩
def nRg1 : List D → R ND
  | [.int n] => if RgS 0 n then .ok (.nl (rangeL 0 n)) else .no
  | _ => .no
def nRg2 : List D → R ND
  | [.int i, .int j] => if RgS i j then .ok (.nl (rangeL i j)) else .no
  | _ => .no
theorem nRg1_ex (ds : List D) (c : Str) (fs' : List (Str × D)) : nRg1 ds ≠ .ex c fs' := by unfold nRg1; split <;> (try split) <;> exact fun z => by cases z
theorem nRg2_ex (ds : List D) (c : Str) (fs' : List (Str × D)) : nRg2 ds ≠ .ex c fs' := by unfold nRg2; split <;> (try split) <;> exact fun z => by cases z
theorem tn1 {b : Bool} {op : D → R ND} {mg : Str → Option Value} {σ : L2.St} {H : Hp} {Q : VK} {r : V → Hp → Prop} {sd : SD} (rel : Rel F σ H sd)
    (hn : TNx F mg W (fun s => (fa s).bind op) σ H Q) : True := trivial
def PostN (mg : Str → Option Value) (W : WX) (F : Fr) (σ : L2.St) (sd : SD) (r : R ND) (H : Hp) (Q : VK) : Prop := match r with
  | .ok n => ∀ p H', Same H H' → H p = none → H' p ≠ none → (∀ F' : Fr, F'.H0 p = none → SlOk F' H' (fun a => Av F σ sd a ∨ a = p) (some (.ref p)) n.sl) → Q (.ref p) H'
  | .ex c fs => ∀ cls da H', Same H H' → ExRep mg H' (Av F σ sd) c fs cls da → W cls da σ H'
  | .no => False
theorem PostN.mono {mg : Str → Option Value} {σ : L2.St} {sd : SD} {r : R ND} {H H' : Hp} {Q : VK} (s : Same H H') (p : PostN mg W F σ sd r H Q) : PostN mg W F σ sd r H' Q := by
  cases r with
  | ok n => exact fun p' H2 s2 h1 h2 h3 => p p' H2 (s.trans s2) (s.free h1) h2 h3
  | ex c fs => exact fun cls da H2 s2 x => p cls da H2 (s.trans s2) x
  | no => exact p
theorem te1N {b : Bool} {fa : EF} {op : D → R ND} {mg : Str → Option Value} {σ : L2.St} {H : Hp} {Q : VK} {r : V → Hp → Prop} {sd : SD} (rel : Rel F σ H sd)
    (p : PostN mg W F σ sd ((fa sd).bind op) H Q)
    (hr : ∀ (d : D), fa sd = .ok d → ∀ (v : V) (H2 : Hp), Same H H2 → Rel F σ H2 sd → (if b = true then HoldsB H2 (Av F σ sd) d v else Holds H2 (Av F σ sd) d v) → PostN mg W F σ sd (op d) H2 Q → r v H2) :
    TEx b F mg W fa σ H r := by
  refine ⟨sd, rel, ?_⟩
  cases q : fa sd with
  | ok d =>
    rw [q] at p
    intro v H2 s h
    exact hr d q v H2 s (rel.mono s) h (p.mono s)
  | ex c fs => rw [q] at p; exact p
  | no => rw [q] at p; exact p
def nRange1 (fa : EF) : NF := fun s => (fa s).bind fun x => nRg1 [x]
def nRange2 (fa fb : EF) : NF := fun s => (fa s).bind fun x => (fb s).bind fun y => nRg2 [x, y]
theorem new_nl {mg : Str → Option Value} {σ : L2.St} {sd : SD} {H : Hp} {Q : VK} {ds : List D} {vs : List V} (rel : Rel F σ H sd) (p : PostN mg W F σ sd (.ok (.nl ds)) H Q) (l : HoldsL H (Av F σ sd) ds vs) (q : Addr) (hn : H q = none) : Q (.ref q) (upd H q (.lst vs)) :=
  p q _ (same_upd hn) hn (by rw [upd_same]; simp) fun F' h0 => slok_lst l (fun a z => rel.dom z) hn h0
theorem dn_listRg1 {p1 p2 pos2 : Pos} {x y : Str} (hx : x = "list") (hy : y = "range") (hc : X.calm = true) (hg : Gl X "list") (hm : X.mg "list" = none) (hg2 : Gl X "range") (hm2 : X.mg "range" = none) (ha : DB F X W a fa)
    (hs : starEach [.Call (.Name y p2) [a] [] pos2] X.env = (false, eval (.Call (.Name y p2) [a] [] pos2) X.env) :: starEach [] X.env := by rfl) (hs2 : starEach [a] X.env = (false, eval a X.env) :: starEach [] X.env := by rfl) :
    DN F X W (.Call (.Name x p1) [.Call (.Name y p2) [a] [] pos2] [] pos) (nRange1 fa) := by
  subst hx; subst hy
  exact ⟨PE.weak (pe_listRg hc hg hm (prg_1 hg2 hm2 ha.pe hs2) hs) fun σ H Q ⟨sd, rel, p⟩ => te1N rel p fun d q v H1 s1 r1 hv p1 => by
    unfold nRg1 at p1
    split at p1
    · rename_i n e
      cases e
      by_cases hr : RgS 0 n
      · rw [if_pos hr] at p1
        cases hv
        exact ⟨n, rfl, hr.ok, fun q' hq => new_nl r1 p1 (holds_range _) q' hq⟩
      · rw [if_neg hr] at p1; exact p1.elim
    · exact p1.elim⟩
theorem dn_listRg2 {p1 p2 pos2 : Pos} {x y : Str} (hx : x = "list") (hy : y = "range") (hc : X.calm = true) (hg : Gl X "list") (hm : X.mg "list" = none) (hg2 : Gl X "range") (hm2 : X.mg "range" = none) (ha : DB F X W a fa) (hb : DB F X W b fb)
    (hs : starEach [.Call (.Name y p2) [a, b] [] pos2] X.env = (false, eval (.Call (.Name y p2) [a, b] [] pos2) X.env) :: starEach [] X.env := by rfl) (hs2 : starEach [a, b] X.env = (false, eval a X.env) :: starEach [b] X.env := by rfl)
    (hs3 : starEach [b] X.env = (false, eval b X.env) :: starEach [] X.env := by rfl) (hs4 : (backTo pos2 (starEach [b] X.env)).any (·.1) = false := by rfl) :
    DN F X W (.Call (.Name x p1) [.Call (.Name y p2) [a, b] [] pos2] [] pos) (nRange2 fa fb) := by
  subst hx; subst hy
  exact ⟨PE.weak (pe_listRg hc hg hm (prg_2 hg2 hm2 ha.pe hb.pe hs2 hs3 hs4) hs) fun σ H Q ⟨sd, rel, p⟩ => te1N rel p fun d q v H1 s1 r1 hv p1 => te1N r1 p1 fun d2 q2 v2 H2 s2 r2 hv2 p2 => by
    unfold nRg2 at p2
    split at p2
    · rename_i i j e
      cases e
      by_cases hr : RgS i j
      · rw [if_pos hr] at p2
        cases hv
        cases hv2
        exact ⟨i, j, rfl, rfl, hr.ok, fun q' hq => new_nl r2 p2 (holds_range _) q' hq⟩
      · rw [if_neg hr] at p2; exact p2.elim
    · exact p2.elim⟩

/-! ### isinstance -/
inductive Tag where
  | non | bl | int | str | lst | tup | dk | ins (C : Addr) | exc (C : Addr) | oth
  deriving DecidableEq, Inhabited
def tagD : D → Tag
  | .non => .non
  | .bl _ => .bl
  | .int _ => .int
  | .str _ => .str
  | .scr _ => .lst
  | .lst _ => .lst
  | .tup _ => .tup
  | .dk _ => .dk
  | .ins C _ => .ins C
  | .kt _ _ => .oth
  | .exc _ C _ => .exc C
def Tag.ty : Tag → Value
  | .non => .type "NoneType"
  | .bl => .type "bool"
  | .int => .type "int"
  | .str => .type "str"
  | .lst => .type "list"
  | .tup => .type "tuple"
  | .dk => .type "dict"
  | .ins C => .ref C
  | .exc C => .ref C
  | .oth => .none
structure TyC (K : PySem.W.Frag) (C : Addr) : Prop where
  c : Cls K C
  f : PySem.W.findIn K (.ref C) "__class__" = some (some (.builtin "object.__class__"))
  g : PySem.W.specialIn K (.builtin "object.__class__") "__get__" = some (some (.builtin "getset_descriptor.__get__"))
  t : PySem.W.takesIn K (.builtin "object.__class__") = some true
  m : PySem.W.mroIn K C (.type "object") = some true
def TagOk (K : PySem.W.Frag) (u : Value) (tb : Tag × Bool) : Prop := PySem.W.kitOne K tb.1.ty u = some tb.2 ∧ match tb.1 with
  | .ins C => TyC K C
  | .exc _ => False
  | .oth => False
  | _ => True
theorem tag_ty {K : PySem.W.Frag} {u : Value} {H : Hp} {A : Addr → Prop} {d : D} {v : V} {x : Bool} (h : HoldsB H A d v) (o : TagOk K u (tagD d, x)) : TyX K H v (tagD d).ty := by
  cases d with
  | non => cases h; exact .base .non
  | bl b => cases h; exact .base (.bl _)
  | int b => cases h; exact .base (.int _)
  | str b => cases h; exact .base (.str _)
  | scr xs =>
    obtain ⟨a, rfl, _, r⟩ := h
    rcases r with r | ⟨o, r⟩
    · exact .base (.lst r)
    · exact .base (.frz r)
  | lst xs => obtain ⟨a, vs, rfl, r, _⟩ := h; exact .base (.lst r)
  | tup xs => obtain ⟨a, vs, rfl, _, r, _⟩ := h; exact .base (.tup r)
  | dk xs =>
    obtain ⟨a, vs, rfl, r, _⟩ := h
    rcases r with r | ⟨o, r⟩
    · exact .base (.dK r)
    · exact .fDict r
  | ins C fs => obtain ⟨a, dx, ws, rfl, r, _⟩ := h; exact .base (.ins r o.2.c o.2.f o.2.g o.2.t o.2.m)
  | kt T xs => exact o.2.elim
  | exc c C fs => exact o.2.elim
def opIsi (tb : List (Tag × Bool)) (d : D) : R D := match tb.lookup (tagD d) with
  | some b => .ok (.bl b)
  | none => .no
theorem lookup_mem {α β : Type} [BEq α] [LawfulBEq α] {k : α} {v : β} : ∀ {l : List (α × β)}, l.lookup k = some v → (k, v) ∈ l
  | (k', v') :: l, h => by
    rw [List.lookup_cons] at h
    split at h
    · rename_i e
      cases h
      rw [eq_of_beq e]
      exact .head _
    · exact .tail _ (lookup_mem h)
theorem de_isi {cv : V} {u : Value} {p1 : Pos} (tb : List (Tag × Bool)) (hg : Gl X "isinstance") (hm : X.mg "isinstance" = none) (ha : DB F X W a fa) (hb : PE X b (tC cv)) (hu : ClsV cv u) (ht : ∀ q ∈ tb, TagOk X.K u q)
    (hs : starEach [a, b] X.env = (false, eval a X.env) :: starEach [b] X.env := by rfl) (hs2 : starEach [b] X.env = (false, eval b X.env) :: starEach [] X.env := by rfl) (hpl : (backTo pos (starEach [b] X.env)).any (·.1) = false := by rfl) :
    DE F X W (.Call (.Name "isinstance" p1) [a, b] [] pos) (eUn (opIsi tb) fa) :=
  ⟨PE.weak (pe_callB call_isi hg hm (by decide +kernel) (pa_cons ha.pe (pa_cons hb pa_nil hs2) hs) (by decide) (by decide) hs hpl) fun σ H Q ⟨sd, rel, p⟩ => te1S rel p fun d q v H1 s1 r1 hv p1 => by
    have hv : HoldsB H1 (Av F σ sd) d v := hv
    unfold opIsi at p1
    cases ql : tb.lookup (tagD d) with
    | none => rw [ql] at p1; exact p1.elim
    | some bb =>
      rw [ql] at p1
      have o := ht _ (lookup_mem ql)
      exact ⟨v, cv, _, u, bb, rfl, hu, tag_ty hv o, o.1, p1 _ _ (Same.refl _) rfl⟩⟩
end DS
set_option Elab.async false
set_option linter.all false
set_option maxRecDepth 100000
set_option maxHeartbeats 2000000
namespace DS
open PySem L2
variable {F : Fr} {X : Cx} {W : WX} {a b c e : Expr} {fa fb fc : EF} {pos : Pos} {st : Stmt} {sts : List Stmt} {f g : SF} {tt : TF} {es : List Expr} {fs : List EF}

/-! ### special methods of one's own classes -/
structure GSp (P : Program) (w : World) (K : PySem.W.Frag) (mg : Str → Option Value) (base : Heap) (k : Nat) (m : Str) (C : Addr) (n : Nat) (g : List D → R D) : Prop where
  ex : ∃ f fd ps, FnOk P w K mg base (L2.CX P w) k f fd ps (spD mg n g) ∧ PySem.W.findIn K (.ref C) m = some (some (.ref f)) ∧ PySem.W.isFn K (.ref f) = true ∧ PySem.W.fnIn K f = true ∧ Binds K fd ps []
theorem run_fn1 {CX : CXT} {k : Nat} {f : Addr} {fd : FuncData} {ps : List Str} {sp : Sp} {E : L2.St → XK} {pins : List (Addr × Obj)} {σ : L2.St} {H : Hp} {s : Shared} {Q : VK} {us : List Value} {vs : List V} (F : FnOk X.prog X.w X.K X.mg X.base CX k f fd ps sp) (hr : Room (k + 1) X.A) (hb : Binds X.K fd ps []) (hx : PassesAt CX X σ (E σ))
    (I : Inv X pins σ H s) (r : Vals vs us) (h : sp vs H Q (E σ)) : wpAny (model X.prog X.w) X.A.in1 (call (.ref f) us) (EP X pins σ Q) X.xe s := by
  have hl : us.length = ps.length := by rw [← r.length]; exact F.len _ _ _ _ h
  have b := hb s us I.kIn (by rw [List.append_nil]; exact hl)
  rw [List.append_nil] at b
  refine wpAny_call (codeAny_mono (F.run X.A.in1 X.stack s H ⟨us, []⟩ us vs Q (E σ) hr.in1 I.env0.in1 b r h) fun r s' hq => ?_)
  cases r with
  | error e => exact hx pins H s e s' I hq
  | ok fl =>
    cases fl with
    | ret u => exact I.after hq
    | next => exact False.elim hq
    | brk => exact False.elim hq
    | cont => exact False.elim hq
theorem ins_inst {pins : List (Addr × Obj)} {σ : L2.St} {H : Hp} {s : Shared} {a C dx : Addr} {ws : List (Str × V)} (I : Inv X pins σ H s) (h : H a = some (.ins C dx ws)) : ∃ od, PySem.W.InstAt s.heap a (PySem.W.instObj C dx) C (some od) := by
  have q := I.hok a _ h
  simp only [ObjOk] at q
  obtain ⟨_, _, _, q, mA, n1, _⟩ := q
  have : ∃ od, s.heap.get? dx = some od := by
    obtain ⟨o, _, _, e, _⟩ := n1
    exact ⟨o, e⟩
  obtain ⟨od, hd⟩ := this
  exact ⟨od, q, rfl, rfl, hd⟩
def opSp2 (C : Addr) (g : List D → R D) (x y : D) : R D := match x with
  | .ins C' fs => if C' = C then g [.ins C' fs, y] else .no
  | _ => .no
/-- x[i], x an instance -/
theorem de_getI {C : Addr} {k k' : Nat} {gf : List D → R D} (G : GSp X.prog X.w X.K X.mg X.base k "__getitem__" C 2 gf) (hr : Room k' X.A) (tk : Takes X W) (ha : DE F X W a fa) (hb : DE F X W b fb) (hkk : k + 1 ≤ k' := by decide)
    (hs : ∀ v u, subscripted b true v u = runValue (.builtin "lifetime.subscript" ⟨[v, u], []⟩) := by intro _ _; with_unfolding_all rfl) : DE F X W (.Subscript a b pos) (eBin (opSp2 C gf) fa fb) := by
  obtain ⟨f, fd, ps, G, hf, hfn, hfi, hb2⟩ := G
  refine ⟨⟨fun pins s σ H Q I ⟨sd, rel, p⟩ => ?_⟩⟩
  refine PyProof.Rows.Subscript_ (binT ha.pe hb.pe I (R := fun x y H2 => ∃ a dx ws, x = .ref a ∧ H2 a = some (.ins C dx ws) ∧ spD X.mg 2 gf [x, y] H2 Q (WE W σ)) (te2s (b' := false) rel p fun d e q1 q2 v w H2 dm h1 h2 p2 => ?_) fun v u s2 x y H2 I2 rx ry q => ?_)
  · have h1 : Holds H2 (Av F σ sd) d v := h1
    cases d with
    | ins C' fs =>
      unfold opSp2 at p2
      dsimp only at p2
      by_cases hC : C' = C
      · rw [if_pos hC] at p2
        subst hC
        obtain ⟨a1, dx, ws, rfl, na, r, l⟩ := h1
        exact ⟨a1, dx, ws, rfl, r, rfl, [.ins C' fs, e], Av F σ sd, ⟨_, _, rfl, ⟨a1, dx, ws, rfl, na, r, l⟩, _, _, rfl, h2, rfl⟩, dm, PostD.of p2⟩
      · rw [if_neg hC] at p2; exact p2.elim
    | _ => exact p2.elim
  · obtain ⟨a1, dx, ws, rfl, r, q⟩ := q
    cases (show v = Value.ref a1 from rx)
    obtain ⟨od, J⟩ := ins_inst I2 r
    obtain ⟨m, hF⟩ := I2.fr
    exact PySem.W.sub_K (f := f) hF I2.ok.mod.kin J hf hfi hfn (run_fn1 (E := WE W) (us := [.ref a1, u]) (vs := [.ref a1, y]) G (hr.mono hkk) hb2 (passAt tk σ) I2 (.cons rfl (.cons ry .nil)) q) (hs _ _)
/-- x op y, both instances of C -/
def opSp22 (C : Addr) (g : List D → R D) (x y : D) : R D := match x, y with
  | .ins C' fs, .ins C2 gs => if C' = C ∧ C2 = C then g [.ins C' fs, .ins C2 gs] else .no
  | _, _ => .no
theorem de_binI {o : Operator} {C : Addr} {k k' : Nat} {gf : List D → R D} (G : GSp X.prog X.w X.K X.mg X.base k (PySem.dunder o.info.2) C 2 gf) (hc : PySem.W.selfFirst X.K C = true) (hr : Room k' X.A) (tk : Takes X W) (ha : DE F X W a fa) (hb : DE F X W b fb) (hkk : k ≤ k' := by decide) :
    DE F X W (.BinOp a o b pos) (eBin (opSp22 C gf) fa fb) := by
  obtain ⟨f, fd, ps, G, hf, hfn, hfi, hb2⟩ := G
  refine ⟨⟨fun pins s σ H Q I ⟨sd, rel, p⟩ => ?_⟩⟩
  refine wpAny_BinOp (binT ha.pe hb.pe I (R := fun x y H2 => ∃ a dx ws b dy wt, x = .ref a ∧ y = .ref b ∧ H2 a = some (.ins C dx ws) ∧ H2 b = some (.ins C dy wt) ∧ spD X.mg 2 gf [x, y] H2 Q (WE W σ)) (te2s (b' := false) rel p fun d e q1 q2 v w H2 dm h1 h2 p2 => ?_) fun v u s2 x y H2 I2 rx ry q => ?_)
  · have h1 : Holds H2 (Av F σ sd) d v := h1
    have h2 : Holds H2 (Av F σ sd) e w := h2
    unfold opSp22 at p2
    split at p2
    · rename_i C' fs C2 gs
      split at p2
      · rename_i hC
        obtain ⟨hC1, hC2⟩ := hC
        subst hC1; subst hC2
        have h1c := h1
        have h2c := h2
        obtain ⟨a1, dx, ws, rfl, na, r, l⟩ := h1
        obtain ⟨a2, dy, wt, rfl, na2, r2, l2⟩ := h2
        exact ⟨a1, dx, ws, a2, dy, wt, rfl, rfl, r, r2, rfl, [_, _], Av F σ sd, ⟨_, _, rfl, h1c, _, _, rfl, h2c, rfl⟩, dm, PostD.of p2⟩
      · exact p2.elim
    · exact p2.elim
  · obtain ⟨a1, dx, ws, b1, dy, wt, rfl, rfl, r, r2, q⟩ := q
    cases (show v = Value.ref a1 from rx)
    cases (show u = Value.ref b1 from ry)
    obtain ⟨od, J⟩ := ins_inst I2 r
    obtain ⟨od2, J2⟩ := ins_inst I2 r2
    obtain ⟨m, hF⟩ := I2.fr
    refine PySem.W.binop_K (f := f) hF I2.ok.mod.kin J J2.type hc hf hfn ?_
    refine wpAny_mono (run_fnS (E := WE W) (us := [.ref a1, .ref b1]) (vs := [.ref a1, .ref b1]) G (hr.mono hkk) hb2 (passAt tk σ) I2 (.cons rfl (.cons rfl .nil)) q) (fun w s' z => ?_) fun _ _ x => x
    obtain ⟨z', H', I', rz, qz⟩ := z
    exact SlX.cmpback rz ⟨z', H', I', rz, qz⟩
/-- ~x -/
def opSp1 (C : Addr) (g : List D → R D) (x : D) : R D := match x with
  | .ins C' fs => if C' = C then g [.ins C' fs] else .no
  | _ => .no
theorem de_inv {C : Addr} {k k' : Nat} {gf : List D → R D} (G : GSp X.prog X.w X.K X.mg X.base k "__invert__" C 1 gf) (hr : Room k' X.A) (tk : Takes X W) (ha : DE F X W a fa) (hkk : k ≤ k' := by decide) :
    DE F X W (.UnaryOp .Invert a pos) (eUn (opSp1 C gf) fa) := by
  obtain ⟨f, fd, ps, G, hf, hfn, hfi, hb2⟩ := G
  refine ⟨⟨fun pins s σ H Q I ⟨sd, rel, p⟩ => ?_⟩⟩
  refine PyProof.Rows.UnaryOp_ (thn (ha.pe.run pins s σ H (fun x H2 => ∃ a dx ws, x = .ref a ∧ H2 a = some (.ins C dx ws) ∧ spD X.mg 1 gf [x] H2 Q (WE W σ)) I (te1S rel p fun d q v H1 s1 r1 hv p1 => ?_)) fun v s1 ⟨x, H1, I1, r1, q1⟩ => ?_)
  · have hv : Holds H1 (Av F σ sd) d v := hv
    cases d with
    | ins C' fs =>
      unfold opSp1 at p1
      dsimp only at p1
      by_cases hC : C' = C
      · rw [if_pos hC] at p1
        subst hC
        obtain ⟨a1, dx, ws, rfl, na, r, l⟩ := hv
        exact ⟨a1, dx, ws, rfl, r, rfl, [.ins C' fs], Av F σ sd, ⟨_, _, rfl, ⟨a1, dx, ws, rfl, na, r, l⟩, rfl⟩, fun a z => r1.dom z, PostD.of p1⟩
      · rw [if_neg hC] at p1; exact p1.elim
    | _ => exact p1.elim
  · obtain ⟨a1, dx, ws, rfl, r, q⟩ := q1
    cases (show v = Value.ref a1 from r1)
    obtain ⟨od, J⟩ := ins_inst I1 r
    obtain ⟨m, hF⟩ := I1.fr
    exact PySem.W.ksp_inv (f := f) hF I1.ok.mod.kin J hf hfn (run_fnS (E := WE W) (us := [.ref a1]) (vs := [.ref a1]) G (hr.mono hkk) hb2 (passAt tk σ) I1 (.cons rfl .nil) q)
/-- x op k, x an instance, k a whole number -/
structure BinT (K : PySem.W.Frag) (C : Addr) (o : Operator) (T : String) : Prop where
  sf : PySem.W.selfFirst K C = true
  r : PySem.W.findIn K (.ref C) (PySem.dunderR o.info.2) = some none
  h1 : ∃ fo, PySem.W.findIn K (.type T) (PySem.dunder o.info.2) = some fo
  h2 : ∃ ro, PySem.W.findIn K (.type T) (PySem.dunderR o.info.2) = some ro
  sub : PySem.W.subIn K (.type T) (.ref C) = some false
def opSp2i (C : Addr) (g : List D → R D) (x y : D) : R D := match x, y with
  | .ins C' fs, .int i => if C' = C then g [.ins C' fs, .int i] else .no
  | _, _ => .no
theorem de_binT {o : Operator} {C : Addr} {k k' : Nat} {gf : List D → R D} (G : GSp X.prog X.w X.K X.mg X.base k (PySem.dunder o.info.2) C 2 gf) (hc : BinT X.K C o "int") (hr : Room k' X.A) (tk : Takes X W) (ha : DE F X W a fa) (hb : DE F X W b fb) (hkk : k ≤ k' := by decide) :
    DE F X W (.BinOp a o b pos) (eBin (opSp2i C gf) fa fb) := by
  obtain ⟨f, fd, ps, G, hf, hfn, hfi, hb2⟩ := G
  refine ⟨⟨fun pins s σ H Q I ⟨sd, rel, p⟩ => ?_⟩⟩
  refine wpAny_BinOp (binT ha.pe hb.pe I (R := fun x y H2 => ∃ a dx ws i, x = .ref a ∧ y = .int i ∧ H2 a = some (.ins C dx ws) ∧ spD X.mg 2 gf [x, y] H2 Q (WE W σ)) (te2s (b' := false) rel p fun d e q1 q2 v w H2 dm h1 h2 p2 => ?_) fun v u s2 x y H2 I2 rx ry q => ?_)
  · have h1 : Holds H2 (Av F σ sd) d v := h1
    have h2 : Holds H2 (Av F σ sd) e w := h2
    unfold opSp2i at p2
    split at p2
    · rename_i C' fs i
      split at p2
      · rename_i hC
        subst hC
        have h1c := h1
        obtain ⟨a1, dx, ws, rfl, na, r, l⟩ := h1
        have h2c := h2
        cases h2
        exact ⟨a1, dx, ws, _, rfl, rfl, r, rfl, [_, _], Av F σ sd, ⟨_, _, rfl, h1c, _, _, rfl, h2c, rfl⟩, dm, PostD.of p2⟩
      · exact p2.elim
    · exact p2.elim
  · obtain ⟨a1, dx, ws, i, rfl, rfl, r, q⟩ := q
    cases (show v = Value.ref a1 from rx)
    obtain ⟨t, rfl⟩ := (show ∃ t, u = Value.int i t from ry)
    obtain ⟨od, J⟩ := ins_inst I2 r
    obtain ⟨m, hF⟩ := I2.fr
    obtain ⟨fo, h1⟩ := hc.h1
    obtain ⟨ro, h2⟩ := hc.h2
    refine PySem.W.ksp_binT (f := f) (T := "int") hF I2.ok.mod.kin J rfl hc.sf hf hfn hc.r (.inl rfl) h1 h2 hc.sub ?_
    refine wpAny_mono (run_fnS (E := WE W) (us := [.ref a1, .int i t]) (vs := [.ref a1, .int i]) G (hr.mono hkk) hb2 (passAt tk σ) I2 (.cons rfl (.cons ⟨t, rfl⟩ .nil)) q) (fun w s' z => ?_) fun _ _ x => x
    obtain ⟨z', H', I', rz, qz⟩ := z
    exact SlX.cmpback rz ⟨z', H', I', rz, qz⟩
end DS
set_option Elab.async false
set_option linter.all false
set_option maxRecDepth 100000
set_option maxHeartbeats 2000000
namespace DS
open PySem L2
variable {F : Fr} {X : Cx} {W : WX} {a b c e : Expr} {fa fb fc : EF} {pos : Pos} {st : Stmt} {sts : List Stmt} {f g : SF} {tt : TF} {es : List Expr} {fs : List EF}

/-! ### return [x.pop(e) for .. in ..], x one's own list -/
def offA (H : Hp) (a : Addr) : Hp := fun b => if b = a then none else H b
theorem offA_ne {H : Hp} {a b : Addr} (h : b ≠ a) : offA H a b = H b := if_neg h
theorem offA_same {H : Hp} {a b : Addr} {o : HO} (h : offA H a b = some o) : b ≠ a ∧ H b = some o := by
  unfold offA at h
  by_cases z : b = a
  · rw [if_pos z] at h; cases h
  · rw [if_neg z] at h; exact ⟨z, h⟩
theorem Rel.blockE {σ : L2.St} {H H' : Hp} {sd : SD} {D a : Addr} {i : Nat} {ds0 : List DS.D} (rel : Rel F σ H sd) (q : sd[i]? = some (.ol ds0)) (ea : σ[i]? = some (some (.ref a))) (hD : H D = none) (s : Same (offA H a) H') (hD' : H' D ≠ none) (ha' : H' a ≠ none) :
    Rel ⟨offA H a, fun b => Av F σ sd b ∨ b = D, 0⟩ σ H' ((blkS sd).set i .un) := by
  have own : OwnAt σ sd i a := ⟨_, q, rfl, ea⟩
  have ava : Av F σ sd a := .inr ⟨i, own⟩
  have h0 : F.H0 a = none := (rel.odom ⟨i, own⟩).2
  have noown : ∀ j b, ¬ OwnAt σ ((blkS sd).set i .un) j b := fun j b ⟨t, e, o, _⟩ => by
    by_cases hj : i = j
    · subst hj
      rw [List.getElem?_set] at e
      simp only [if_true] at e
      split at e
      · cases e; cases o
      · cases e
    · rw [List.getElem?_set_ne hj] at e
      unfold blkS at e
      rw [List.getElem?_map, Option.map_eq_some_iff] at e
      obtain ⟨t', _, rfl⟩ := e
      rw [bwS_own] at o
      cases o
  have av : ∀ b, Av ⟨offA H a, fun b => Av F σ sd b ∨ b = D, 0⟩ σ ((blkS sd).set i .un) b → Av F σ sd b ∨ b = D := fun b z => z.elim id fun ⟨i, z⟩ => absurd z (noown i b)
  have s' : ∀ b o, H b = some o → ¬ Av F σ sd b → H' b = some o := fun b o h n => s b o (by rw [offA_ne fun z => n (by rw [z]; exact ava)]; exact h)
  have nn : ∀ b, Av ⟨offA H a, fun b => Av F σ sd b ∨ b = D, 0⟩ σ ((blkS sd).set i .un) b → Av F σ sd b ∨ H b = none := fun b z => (av b z).imp_right fun z => by rw [z]; exact hD
  have u : Up H (Av F σ sd) H' (Av ⟨offA H a, fun b => Av F σ sd b ∨ b = D, 0⟩ σ ((blkS sd).set i .un)) := Up.ofOff s' nn
  have u0 : Up H (Av F σ sd) (offA H a) (Av ⟨offA H a, fun b => Av F σ sd b ∨ b = D, 0⟩ σ ((blkS sd).set i .un)) := Up.ofOff (fun b o h n => by rw [offA_ne fun z => n (by rw [z]; exact ava)]; exact h) nn
  have sF : Same F.H0 (offA H a) := fun b o h => by
    rw [offA_ne fun z => by rw [z, h0] at h; cases h]
    exact rel.same b o h
  have k : ∀ b, offA H a b ≠ none → ¬ Av F σ sd b → ¬ Av ⟨offA H a, fun b => Av F σ sd b ∨ b = D, 0⟩ σ ((blkS sd).set i .un) b := fun b h n => u0.off b (fun z => h (by
    unfold offA
    by_cases z2 : b = a
    · rw [if_pos z2]
    · rw [if_neg z2]; exact z)) n
  refine ⟨s, by simp [blkS, rel.len], fun j t e => ?_, fun i j b h1 _ => absurd h1 (noown i b), fun b ⟨i, z⟩ => absurd z (noown i b), fun b z => z.elim (fun z w => ?_) fun z => by rw [z]; exact hD'⟩
  · by_cases hj : i = j
    · subst hj
      rw [List.getElem?_set] at e
      simp only [if_true] at e
      split at e
      · cases e; exact ⟨_, ea, trivial⟩
      · cases e
    · rw [List.getElem?_set_ne hj] at e
      unfold blkS at e
      rw [List.getElem?_map, Option.map_eq_some_iff] at e
      obtain ⟨t', e, rfl⟩ := e
      obtain ⟨v, ev, h⟩ := rel.slot j t' e
      refine ⟨v, ev, ?_⟩
      cases t' with
      | un => trivial
      | xc => trivial
      | sh d => obtain ⟨x, e, h⟩ := h; exact ⟨x, e, Holds.up u d h⟩
      | bw d => obtain ⟨x, e, h⟩ := h; exact ⟨x, e, HoldsB.less k (HoldsB.same sF h)⟩
      | ol ds =>
        obtain ⟨a', vs, e2, n, r, l⟩ := h
        have ne : a' ≠ a := fun z => hj (rel.inj i j a own ⟨_, e, rfl, by rw [ev, e2, z]⟩)
        exact ⟨_, e2, (show HoldsB (offA H a) _ (.lst ds) _ from ⟨a', vs, rfl, by rw [offA_ne ne]; exact r, HoldsL.up u0 _ l⟩)⟩
      | od ds =>
        obtain ⟨a', vs, e2, n, r, l⟩ := h
        have ne : a' ≠ a := fun z => hj (rel.inj i j a own ⟨_, e, rfl, by rw [ev, e2, z]⟩)
        exact ⟨_, e2, (show HoldsB (offA H a) _ (.dk ds) _ from ⟨a', vs, rfl, .inl (by rw [offA_ne ne]; exact r), HoldsK.up u0 _ l⟩)⟩
      | oi C ds =>
        obtain ⟨a', dx, vs, e2, n, r, l⟩ := h
        have ne : a' ≠ a := fun z => hj (rel.inj i j a own ⟨_, e, rfl, by rw [ev, e2, z]⟩)
        exact ⟨_, e2, (show HoldsB (offA H a) _ (.ins C ds) _ from ⟨a', dx, vs, rfl, by rw [offA_ne ne]; exact r, HoldsF.up u0 _ l⟩)⟩
  · by_cases hz : b = a
    · rw [hz] at w; exact ha' w
    · cases qb : H b with
      | none => exact rel.dom z qb
      | some o => rw [s b o (by rw [offA_ne hz]; exact qb)] at w; cases w
def popI (ds : List D) (k : Int) : Option (D × List D) := if k.natAbs < 2 ^ 61 then match seqIndex? k ds.length with
  | some n => match ds[n]? with
    | some y => some (y, ds.eraseIdx n)
    | none => none
  | none => none
  else none
def popL (g : GF) (ei : EF) (s0 : SD) : List D → List D → R (List D)
  | cur, [] => .ok []
  | cur, d :: js => match g d s0 with
    | none => .no
    | some s1 => (noX (ei s1)).bind fun k => match k with
      | .int k => match popI cur k with
        | some (y, cur') => (popL g ei s0 cur' js).bind fun r => .ok (y :: r)
        | none => .no
      | _ => .no
def sRetPop (i : Nat) (it : IF) (g : GF) (ei : EF) (vs : List Nat) : SF := fun s => match s[i]? with
  | some (.ol ds) => match it s with
    | .ok js => match popL g ei (wipeS ((blkS s).set i .un) vs) ds js with
      | .ok r => if r.length ≤ sizeLine then .rt (.lst r) else .no
      | _ => .no
    | _ => .no
  | _ => .no
theorem wipeS_own' {sd : SD} (h : ∀ (b : Nat) (s' : Sl), sd[b]? = some s' → s'.own = false) : ∀ (vs : List Nat) (b : Nat) (s' : Sl), (wipeS sd vs)[b]? = some s' → s'.own = false
  | [], b, s', e => h b s' e
  | v :: vs, b, s', e => by
    unfold wipeS at e
    rw [List.getElem?_set] at e
    split at e
    · split at e
      · cases e; rfl
      · cases e
    · exact wipeS_own' h vs b s' e
theorem ds_retPop (i : Nat) {x : Str} {px apos cpos : Pos} {tg iter : Expr} {scope : Scope} (own : List (Str × Nat)) {fi : IF} {gg : GF} {tl : List Nat} {fe : EF} {lpos : Pos} (hc : X.calm = true) (hN : X.N.Nodup) (hi : DI F X W tg iter fi) (ok : BlkOk X.N X.env.scope scope own)
    (hg : ∀ (F : Fr) (s : Shared) (H : Hp) (C : Addr) (cl : List (Str × Addr)) (fp : List Addr), DG F (X.blk s H scope (compEnvC scope cl C X.env) fp) tg gg tl)
    (hx : ∀ (s : Shared) (H : Hp) (C : Addr) (cl : List (Str × Addr)) (fp : List Addr), PE (X.blk s H scope (compEnvC scope cl C X.env) fp) (.Name x px) (tVar i))
    (he : ∀ (F : Fr) (s : Shared) (H : Hp) (C : Addr) (cl : List (Str × Addr)) (fp : List Addr), DE F (X.blk s H scope (compEnvC scope cl C X.env) fp) W0 e fe)
    (hsub : ∀ j ∈ tl, j ∈ own.map (·.2)) (hni : i ∉ own.map (·.2)) (hnt : i ∉ tl)
    (hbase : ∀ (s : Shared) (H : Hp) (C : Addr) (cl : List (Str × Addr)) (fp : List Addr), attributeBase (.Name x px) "pop" (X.blk s H scope (compEnvC scope cl C X.env) fp).env (eval (.Name x px) (X.blk s H scope (compEnvC scope cl C X.env) fp).env) = eval (.Name x px) (X.blk s H scope (compEnvC scope cl C X.env) fp).env := by intros; rfl)
    (hfew : ∀ (s : Shared) (H : Hp) (C : Addr) (cl : List (Str × Addr)) (fp : List Addr), ((backTo cpos (starEach [e] (X.blk s H scope (compEnvC scope cl C X.env) fp).env)).all (fun x => !x.1) && (backToKw cpos (keywordEach [] (X.blk s H scope (compEnvC scope cl C X.env) fp).env)).all (fun x => x.1.isSome)
      && decide (([e] : List Expr).length + ([] : List Keyword).length + (if ([] : List Keyword).isEmpty then 0 else 1) < 30)) = true := by intros; rfl)
    (hline : (apos.endLine == cpos.line) = true := by rfl)
    (hs1 : ∀ (s : Shared) (H : Hp) (C : Addr) (cl : List (Str × Addr)) (fp : List Addr), starEach [e] (X.blk s H scope (compEnvC scope cl C X.env) fp).env = (false, eval e (X.blk s H scope (compEnvC scope cl C X.env) fp).env) :: starEach [] (X.blk s H scope (compEnvC scope cl C X.env) fp).env := by intros; rfl)
    (hpl : ∀ (s : Shared) (H : Hp) (C : Addr) (cl : List (Str × Addr)) (fp : List Addr), (backTo cpos (starEach [] (X.blk s H scope (compEnvC scope cl C X.env) fp).env)).any (·.1) = false := by intros; rfl)
    (hs : ∀ x, foldedSetIterable iter X.env x = pure x := by intro _; rfl) :
    DX1 F X W (.Return (some (.ListComp (.Call (.Attribute (.Name x px) "pop" apos) [e] [] cpos) [⟨tg, iter, [], 0⟩] scope lpos)) pos) (sRetPop i fi gg fe (own.map (·.2))) :=
  ⟨PS.weak (ps_ret (pe_lc (te := tBM X.K "list" rPopAt (tVar i) (tCons (fun σ H Q => ∃ F, TEx false F X.mg W0 fe σ H Q) tNil)) hc hN hi.pi ok (fun s H C cl fp => PG.exF (t := fun F => TGx F gg tl) fun F => (hg F s H C cl fp).pg) (fun s H C cl fp => pts_nil)
      (fun s H C cl fp => pe_bm PySem.F.plainAttrs_list PySem.F.slot_list_pop PySem.F.type_list_pop mt_popAt (hx s H C cl fp) (pa_cons (PE.exF (t := fun F => TEx false F X.mg W0 fe) fun F => (he F s H C cl fp).pe) pa_nil (hs1 s H C cl fp)) (hbase s H C cl fp) (hfew s H C cl fp) hline (hs1 s H C cl fp) (hpl s H C cl fp)) hs)) fun T σ H ⟨sd, rel, p⟩ => by
    unfold sRetPop at p
    split at p
    · rename_i ds0 qi
      split at p
      · rename_i js qj
        split at p
        · rename_i out qo
          split at p
          · rename_i hz
            refine ⟨sd, rel, ?_⟩
            rw [qj]
            intro J H1 s1 y D hD
            have rel1 := rel.mono s1
            generalize own.map (·.2) = vs at hsub hni qo ⊢
            obtain ⟨a, lv, ea, n0, ra, la, ava⟩ := own_slot rel1 qi
            have hDa : D ≠ a := fun z => by rw [z, ra] at hD; cases hD
            refine ⟨fun k m H' => m = js.length - k ∧ k ≤ js.length ∧ ∃ accD accV curD curV rest, H' D = some (.lst accV) ∧ H' a = some (.lst curV) ∧ HoldsL H' (fun a => Av F σ sd a ∨ a = D) accD accV ∧ HoldsL H' (fun a => Av F σ sd a ∨ a = D) curD curV ∧ Same (offA H1 a) H' ∧ popL gg fe (wipeS ((blkS sd).set i .un) vs) curD (js.drop k) = .ok rest ∧ out = accD ++ rest,
              ⟨js.length, rfl, Nat.zero_le _, [], [], ds0, lv, out, upd_same, by rw [upd_ne (Ne.symm hDa)]; exact ra, rfl, ?_, fun b o h => by rw [upd_ne (ne_of_none (offA_same h).2 hD)]; exact (offA_same h).2, qo, rfl⟩, ?_⟩
            · exact HoldsL.up (Up.ofOff (fun b o h _ => same_upd hD b o h) fun b z => z.imp_right fun z => by rw [z]; exact hD) _ la
            rintro k m H2 ⟨rfl, hk, accD, accV, curD, curV, rest, eD, ea2, hA, hC, s2, er, eo⟩
            have rb := (rel1.blockE qi ea hD s2 (by rw [eD]; simp) (by rw [ea2]; simp)).wipe vs
            generalize hF : (⟨offA H1 a, fun b => Av F σ sd b ∨ b = D, 0⟩ : Fr) = F' at rb
            have hun : (wipeS ((blkS sd).set i .un) vs)[i]? = (wipeS ((blkS sd).set i .un) vs)[i]? := rfl
            have noown : ∀ (b : Nat) (s' : Sl), (wipeS ((blkS sd).set i .un) vs)[b]? = some s' → s'.own = false := fun b s' e => wipeS_own' (fun b s' e => by
              rw [List.getElem?_set] at e
              split at e
              · split at e
                · cases e; rfl
                · cases e
              · unfold blkS at e
                rw [List.getElem?_map, Option.map_eq_some_iff] at e
                obtain ⟨t', _, rfl⟩ := e
                exact bwS_own t') vs b s' e
            generalize hs0 : wipeS ((blkS sd).set i .un) vs = s0 at rb er noown ⊢
            have avB : ∀ {σ' : L2.St} {sd' : SD} (b : Addr), (Av F σ sd b ∨ b = D) → Av F' σ' sd' b := fun a z => .inl (by rw [← hF]; exact z)
            have noAv : ∀ b, Av F' (L2.wipe σ vs) s0 b → Av F σ sd b ∨ b = D := fun a z => by
              rcases z with z | z
              · rw [← hF] at z; exact z
              · obtain ⟨j, s', e, o, _⟩ := z
                rw [noown j s' e] at o
                cases o
            have off2 : ∀ b o, H1 b = some o → ¬ Av F σ sd b → H2 b = some o := fun b o h n => s2 b o (by rw [offA_ne fun z => n (by rw [z]; exact ava)]; exact h)
            have u2 : Up H1 (Av F σ sd) H2 (Av F' (L2.wipe σ vs) s0) := Up.ofOff off2 fun b z => (noAv b z).imp_right fun z => by rw [z]; exact hD
            have yy := y k H2 (Av F' (L2.wipe σ vs) s0) u2 off2 (fun a z => rb.dom z)
            by_cases hlt : k < js.length
            · refine .inr ⟨(yy.1 hlt).1, fun H' => ∃ accD accV curD curV rest, H' D = some (.lst accV) ∧ H' a = some (.lst curV) ∧ HoldsL H' (fun a => Av F σ sd a ∨ a = D) accD accV ∧ HoldsL H' (fun a => Av F σ sd a ∨ a = D) curD curV ∧ Same (offA H1 a) H' ∧ popL gg fe s0 curD (js.drop (k + 1)) = .ok rest ∧ out = accD ++ rest, fun H' h => ⟨js.length - (k + 1), by omega, rfl, hlt, h⟩, fun x H3 yx => ?_⟩
              obtain ⟨s3, d, ed, hd⟩ := (yy.1 hlt).2 x H3 yx
              have edrop : js.drop k = d :: js.drop (k + 1) := by
                rw [List.drop_eq_getElem_cons hlt]
                congr 1
                rw [List.getElem?_eq_getElem hlt] at ed
                exact Option.some.inj ed
              rw [edrop] at er
              unfold popL at er
              have r3 := rb.mono s3
              refine ⟨F', s0, d, r3, hd, ?_⟩
              cases q3 : gg d s0 with
              | none => rw [q3] at er; cases er
              | some s4 =>
                rw [q3] at er
                dsimp only at er
                intro σ4 r4 own4 off4
                refine ⟨wipe_wipe_off off4 hsub, ?_⟩
                show tBM X.K "list" rPopAt (tVar i) (tCons (fun σ H Q => ∃ F, TEx false F X.mg W0 fe σ H Q) tNil) σ4 H3 _
                have e4 : σ4[i]? = some (some (.ref a)) := by
                  rw [off4.2 i hnt, wipe_get, if_neg (fun z => hni z.1)]
                  exact ea
                refine ⟨_, e4, .inl ⟨rfl, curV, SqL.of (s3 _ _ ea2)⟩, F', s4, r4, ?_⟩
                cases q5 : fe s4 with
                | no => rw [q5] at er; cases er
                | ex c fs => rw [q5] at er; cases er
                | ok yv =>
                  rw [q5] at er
                  simp only [noX, R.bind_ok] at er
                  intro v H6 s6 hv
                  have s26 : Same H2 H6 := s3.trans s6
                  cases yv with
                  | int kk =>
                    dsimp only at er
                    cases hv
                    unfold popI at er
                    by_cases hb : kk.natAbs < 2 ^ 61
                    · rw [if_pos hb] at er
                      cases qs : seqIndex? kk curD.length with
                      | none => rw [qs] at er; cases er
                      | some nn =>
                        rw [qs] at er
                        dsimp only at er
                        cases qn : curD[nn]? with
                        | none => rw [qn] at er; cases er
                        | some yd =>
                          rw [qn] at er
                          dsimp only at er
                          have hC6 := hC.same s26
                          obtain ⟨yw, ew, hw⟩ := hC6.get qn
                          cases q6 : popL gg fe s0 (curD.eraseIdx nn) (js.drop (k + 1)) with
                          | no => rw [q6] at er; cases er
                          | ex c fs => rw [q6] at er; cases er
                          | ok r =>
                            rw [q6] at er
                            cases er
                            refine ⟨a, curV, kk, nn, yw, rfl, rfl, s26 _ _ ea2, by omega, by omega, by rw [hC.length]; exact qs, ew, ?_⟩
                            have hl := hA.length
                            have hlen : accD.length < out.length := by rw [eo]; simp
                            refine ⟨accV, by rw [upd_ne hDa]; exact s26 _ _ eD, by omega, accD ++ [yd], accV ++ [yw], curD.eraseIdx nn, curV.eraseIdx nn, r, upd_same, ?_, ?_, ?_, fun b o h => ?_, q6, by rw [eo]; simp⟩
                            · rw [upd_ne (Ne.symm hDa), upd_same]
                            · have uD : Up H6 (fun a => Av F σ sd a ∨ a = D) (upd (upd H6 a (.lst (curV.eraseIdx nn))) D (.lst (accV ++ [yw]))) (fun a => Av F σ sd a ∨ a = D) := Up.ofOff (fun b q e n => by rw [upd_ne (fun z => n (.inr z)), upd_ne (fun z => n (.inl (by rw [z]; exact ava)))]; exact e) fun b z => .inl z
                              exact HoldsL.up uD _ ((hA.same s26).snoc hw)
                            · have uD : Up H6 (fun a => Av F σ sd a ∨ a = D) (upd (upd H6 a (.lst (curV.eraseIdx nn))) D (.lst (accV ++ [yw]))) (fun a => Av F σ sd a ∨ a = D) := Up.ofOff (fun b q e n => by rw [upd_ne (fun z => n (.inr z)), upd_ne (fun z => n (.inl (by rw [z]; exact ava)))]; exact e) fun b z => .inl z
                              exact HoldsL.up uD _ (hC6.eraseIdx nn)
                            · rw [upd_ne (ne_of_none (offA_same h).2 hD), upd_ne (offA_same h).1]
                              exact (s2.trans s26) _ _ h
                    · rw [if_neg hb] at er; cases er
                  | _ => cases er
            · have ei : k = js.length := by omega
              subst ei
              rw [List.drop_length] at er
              unfold popL at er
              cases er
              rw [List.append_nil] at eo
              subst eo
              have sF : Same F.H0 H2 := fun b o h => s2 b o (by rw [offA_ne fun z => by rw [z, n0] at h; cases h]; exact rel1.same b o h)
              refine .inl ⟨yy.2 (Nat.le_refl _), p (.ref D) H2 sF ⟨D, accV, rfl, fun z => rel1.bdom D z hD, eD, hA.less fun b z => .inl (.inl z)⟩⟩
          · exact p.elim
        · exact p.elim
      · exact p.elim
    · exact p.elim⟩
end DS
set_option Elab.async false
set_option linter.all false
set_option maxRecDepth 100000
set_option maxHeartbeats 2000000
namespace DS
open PySem L2 PyProof.Rows
/-! ### the top: facts as tests of the written part -/
abbrev Ts := List (PySem.W.Frag → Bool)
def tell (ts : Ts) (fn : List He.DefD) (K : PySem.W.Frag) : Bool × List He.FnW := ((ts.all fun t => t K) && (fn.all fun d => d.ok K), fn.map fun d => He.fnW K d.at_)
def told (fn : List He.DefD) : Bool × List He.FnW := (true, fn.map He.DefD.val)
def look (n : Nat) (ts : Ts) (fn : List He.DefD) (g : Addr → Option Obj) : Bool × List He.FnW := tell ts fn (He.frG g (He.asD g n))
def hookT (n : Nat) (ts : Ts) (fn : List He.DefD) : PySem.W.Hook where
  α := Bool × List He.FnW
  obs := fun s => look n ts fn s.heap.get?
  val := fun _ => told fn
  says := fun _ h => ∃ K : PySem.W.Frag, K.In h ∧ tell ts fn K = told fn
  of := fun _ _ e => ⟨_, He.frG_in, e⟩
  keeps := fun _ _ _ h k => h.elim fun K h => ⟨K, PySem.W.Frag.In.keeps h.1 k, h.2⟩
theorem look_eq {n : Nat} {ts : Ts} {fn : List He.DefD} {g : Addr → Option Obj} {s : Shared} (h : ∀ a, g a = s.heap.get? a) : look n ts fn g = (hookT n ts fn).obs s :=
  (congrArg (look n ts fn) (funext h)).trans rfl
section
variable {ts : Ts} {fn : List He.DefD} {K : PySem.W.Frag}
theorem fact_of (c : tell ts fn K = told fn) (i : Nat) {t : PySem.W.Frag → Bool} (h : ts[i]? = some t) : t K = true := by
  have c1 : ((ts.all fun t => t K) && (fn.all fun d => d.ok K)) = true := congrArg (fun z => z.1) c
  rw [Bool.and_eq_true] at c1
  exact List.all_eq_true.mp c1.1 t (List.mem_of_getElem? h)
theorem def_of (c : tell ts fn K = told fn) (i : Nat) {d : He.DefD} (h : fn[i]? = some d) : ∃ fd, FunD K d.name d.qual d.params d.body d.scope (d.dvs K) (d.kws K) (He.fAd K d.at_) fd := by
  have c1 : ((ts.all fun t => t K) && (fn.all fun d => d.ok K)) = true := congrArg (fun z => z.1) c
  rw [Bool.and_eq_true] at c1
  have e : fn.map (fun d => He.fnW K d.at_) = fn.map He.DefD.val := congrArg (fun z => z.2) c
  have e2 : (fn.map fun d => He.fnW K d.at_)[i]? = (fn.map He.DefD.val)[i]? := congrArg (fun l => l[i]?) e
  rw [List.getElem?_map, List.getElem?_map, h] at e2
  exact He.DefD.funD (Option.some.inj e2) (List.all_eq_true.mp c1.2 d (List.mem_of_getElem? h))
end
/-! more facts -/
def tSp (x m : Str) (K : PySem.W.Frag) : Bool := He.eqO (PySem.W.findIn K (.ref (He.ga K x)) m) (some (some (.ref (He.ma K (He.ga K x) m)))) && (PySem.W.isFn K (.ref (He.ma K (He.ga K x) m)) && PySem.W.fnIn K (He.ma K (He.ga K x) m))
theorem tSp_ok {x m : Str} {K : PySem.W.Frag} (h : tSp x m K = true) : PySem.W.findIn K (.ref (He.ga K x)) m = some (some (.ref (He.ma K (He.ga K x) m))) ∧ PySem.W.isFn K (.ref (He.ma K (He.ga K x) m)) = true ∧ PySem.W.fnIn K (He.ma K (He.ga K x) m) = true := by
  unfold tSp at h
  rw [Bool.and_eq_true, Bool.and_eq_true] at h
  exact ⟨He.eqO_ok h.1, h.2⟩
def tTyC (x : Str) (K : PySem.W.Frag) : Bool := He.eqO (PySem.W.findIn K (.ref (He.ga K x)) "__class__") (some (some (.builtin "object.__class__"))) && (He.eqO (PySem.W.specialIn K (.builtin "object.__class__") "__get__") (some (some (.builtin "getset_descriptor.__get__"))) &&
  (decide (PySem.W.takesIn K (.builtin "object.__class__") = some true) && decide (PySem.W.mroIn K (He.ga K x) (.type "object") = some true)))
theorem tTyC_ok {x : Str} {K : PySem.W.Frag} (c : Cls K (He.ga K x)) (h : tTyC x K = true) : TyC K (He.ga K x) := by
  unfold tTyC at h
  rw [Bool.and_eq_true, Bool.and_eq_true, Bool.and_eq_true] at h
  exact ⟨c, He.eqO_ok h.1, He.eqO_ok h.2.1, of_decide_eq_true h.2.2.1, of_decide_eq_true h.2.2.2⟩
/-- a tag by a class's name -/
inductive TagN where
  | non | bl | int | str | lst | tup | dk | i (x : Str)
def TagN.t (K : PySem.W.Frag) : TagN → Tag
  | .non => .non
  | .bl => .bl
  | .int => .int
  | .str => .str
  | .lst => .lst
  | .tup => .tup
  | .dk => .dk
  | .i x => .ins (He.ga K x)
inductive ClN where
  | ty (n : String) | own (x : Str)
def ClN.v (K : PySem.W.Frag) : ClN → V
  | .ty n => .ty n
  | .own x => .ref (He.ga K x)
def ClN.u (K : PySem.W.Frag) : ClN → Value
  | .ty n => .type n
  | .own x => .ref (He.ga K x)
theorem ClN.ok {K : PySem.W.Frag} (c : ClN) : ClsV (c.v K) (c.u K) := by cases c <;> constructor
def tIsi (c : ClN) (tb : List (TagN × Bool)) (K : PySem.W.Frag) : Bool := tb.all fun q => decide (PySem.W.kitOne K (q.1.t K).ty (c.u K) = some q.2)
def isiT (K : PySem.W.Frag) (tb : List (TagN × Bool)) : List (Tag × Bool) := tb.map fun q => (q.1.t K, q.2)
def tyAll (K : PySem.W.Frag) : List (TagN × Bool) → Prop
  | [] => True
  | (.i x, _) :: r => TyC K (He.ga K x) ∧ tyAll K r
  | _ :: r => tyAll K r
theorem tyAll_mem {K : PySem.W.Frag} : ∀ {tb : List (TagN × Bool)}, tyAll K tb → ∀ x b, (TagN.i x, b) ∈ tb → TyC K (He.ga K x)
  | (t, b0) :: r, h, x, b, m => by
    cases m with
    | head =>
      have h' : TyC K (He.ga K x) ∧ tyAll K r := h
      exact h'.1
    | tail _ m =>
      cases t with
      | i y =>
        have h' : TyC K (He.ga K y) ∧ tyAll K r := h
        exact tyAll_mem h'.2 x b m
      | _ =>
        have h' : tyAll K r := h
        exact tyAll_mem h' x b m
theorem tIsi_ok {c : ClN} {tb : List (TagN × Bool)} {K : PySem.W.Frag} (h : tIsi c tb K = true) (hc : tyAll K tb) : ∀ q ∈ isiT K tb, TagOk K (c.u K) q := by
  intro q hq
  obtain ⟨p, hp, rfl⟩ := List.mem_map.mp hq
  refine ⟨of_decide_eq_true (List.all_eq_true.mp h p hp), ?_⟩
  obtain ⟨t, b⟩ := p
  cases t <;> first | trivial | exact tyAll_mem hc _ b hp
theorem one_mem {α : Type} {P : α → Prop} {a : α} (h : P a) : ∀ b ∈ [a], P b := fun b hb => by
  cases hb with
  | head => exact h
  | tail _ z => cases z
theorem takes0 {X : Cx} : Takes X W0 := fun _ _ ⟨_, _, _, _, _, _, _, _, _, _, _, _, _, _, _, _, w⟩ => w.elim
/-- no list stands in the written part -/
def tNoList (K : PySem.W.Frag) : Bool := K.all fun p => decide (p.2.cls ≠ .type "list")
theorem lookup_mem' {β : Type} {k : Addr} {v : β} : ∀ {l : List (Addr × β)}, l.lookup k = some v → ∃ k', (k', v) ∈ l
  | (k', v') :: l, h => by
    rw [List.lookup_cons] at h
    split at h
    · cases h; exact ⟨k', .head _⟩
    · obtain ⟨q, z⟩ := lookup_mem' h
      exact ⟨q, .tail _ z⟩
theorem noList {K : PySem.W.Frag} (h : tNoList K = true) {H : Hp} {a : Addr} {xs : List V} (s : SqL K H a xs) : Rd H a (.lst xs) := by
  rcases s with s | ⟨o, its, n, hl, hc, _⟩
  · exact s
  · obtain ⟨k', hm⟩ := lookup_mem' hl
    have := List.all_eq_true.mp h _ hm
    exact absurd hc (of_decide_eq_true this)
/-- the law's end: its plain reading is True at every script -/
theorem end_of {l : PySem.W.OpenLaw} {n k : Nat} {q : Program} {loose : List Str} {XP : (Str → Option Value) → Heap → Prop} {d : DefRec} {x : Str} {m : Nat} {ts : Ts} {fn : List He.DefD}
    (hn : l.most = some n) (hn2 : n ≤ sizeLine) (hdf : d.params.defaults = []) (hr : Room k callerA)
    (Fl : ∀ (w : World) (mg : Str → Option Value) (fa : Addr) (K : PySem.W.Frag) (h : Heap), K.In h → tell ts fn K = told fn → h.Ns mainGlobals mg → mg d.name = some (.ref fa) →
      tNoList K = true ∧ ∃ (fd : FuncData) (g : List D → R D), (∀ (s : Shared) (u : Value), BindsTo s fd ⟨[u], []⟩ [(x, u)]) ∧
        (∀ ns : List Int, ns.length ≤ n → (∀ z ∈ ns, Builtin.Int.intBits z ≤ 1048576) → g [.scr ns] = .ok (.bl true)) ∧
        ∀ base : Heap, K.In base → base.Ns mainGlobals mg → FnOk l.prog w K mg base (L2.CX l.prog w) k fa fd [x] (spD mg 1 g)) :
    PySem.W.WalkO q loose XP (hookT m ts fn).says l.row.toRowW d [] (fun f vs => PySem.call f vs) :=
  Att.attach_callB hn hdf fun w s0 s1 mg mb fa o pm cd doc a vs ns G Y ho hd hcd hmg hobj hints hlen hbits hg => by
    obtain ⟨K, hK, hT⟩ := Y
    obtain ⟨hL, fd, g, hb, hv, hF⟩ := Fl w mg fa K _ hK hT G.T.g hmg
    refine law_call hK G.T.g G.T.b G.T.builtins G.T.nolimit hg hobj hints (Nat.le_trans hlen hn2) hr hF hb (fun H _ hS => ?_) fun H e s' z => ?_
    · have hp : PostD mg (fun _ => False) (g [.scr ns]) H (fun v _ => v = .bl true) fun _ _ _ => False := by
        rw [hv ns hlen hbits]
        exact fun v H' _ h => h
      exact ⟨rfl, [.scr ns], fun _ => False, ⟨_, _, rfl, ⟨a, rfl, fun z => z, noList hL hS⟩, rfl⟩, fun a z => z.elim, hp⟩
    · obtain ⟨_, _, _, _, _, _, _, _, _, _, _, _, z⟩ := z
      exact z.elim
end DS
set_option Elab.async false
set_option linter.all false
set_option maxRecDepth 100000
set_option maxHeartbeats 2000000
/-! The __init__ of an own exception class that begins with super().__init__(text), then keeps its one argument (or nothing). -/
namespace DS
open PySem L2 PyProof.Rows PySem.Calls

abbrev veTl : List Value := [.type "ValueError", .type "Exception", .type "BaseException", .type "object"]
/-- what the written part says of such a class and its __init__ -/
structure ExC (P : Program) (K : PySem.W.Frag) (mg : Str → Option Value) (C f : Addr) (fd : FuncData) (nm qual : Str) (params : Arguments) (body : List Stmt) (scope : Scope) : Prop where
  ex : ∃ (oc ct : Value) (od an : Option Addr) (dV kV doc pm : Value) (cda cc : Addr) (osl : Array (Option Value)) (ccl cl : Value) (cdd cld : Option Addr) (vs : Array Value) (ccs csl : Array (Option Value)) (file : Str) (tf : Tok) (cdD : ClassData),
    fd = PySem.W.ksFn nm qual params body scope dV kV doc pm an (.ref cda) ct cc ∧ K.lookup f = some ⟨oc, od, .func fd, osl⟩ ∧ PySem.W.codeIn K (.ref cda) qual = true ∧
    K.lookup cda = some ⟨ccl, cdd, .fields vs, ccs⟩ ∧ vs[2]? = some (.str file tf) ∧ (P.main.file == file) = true ∧
    K.lookup cc = some ⟨cl, cld, .cell (some (.ref C)), csl⟩ ∧ PySem.W.clsIn K C = some cdD
  top : (P.main.scope.names.lookup ("super" : Str)).isSome = false
  sub : PySem.W.mroIn K C (.ref C) = some true
  mgs : mg "super" = none
  ini : PySem.W.ks_superIn K C C "__init__" = some (some (.builtin "ValueError.__init__"))
  opq : PySem.W.nsIn K cStatics "thirdparty.any" = some none
  sve : PySem.W.subIn K (.ref C) (.type "ValueError") = some true
  exi : PySem.W.excInitIn K C veTl "ValueError.__new__" = true
  oex : OexC K C
/-- its promise: the argument is kept under the name -/
def spEx (C : Addr) (fld : Str) : Sp := fun vs H Q _ => ∃ a v, vs = [.ref a, v] ∧ H a = some (exo a C none) ∧ ∀ d, H d = none → d ≠ a → Q .non (upd (upd H d (exd d [(fld, v)])) a (exo a C (some d)))
def spEx0 (C : Addr) : Sp := fun vs H Q _ => ∃ a, vs = [.ref a] ∧ H a = some (exo a C none) ∧ Q .non H
theorem ks_to {name qual : Str} {params : Arguments} {body : List Stmt} {scope : Scope} {dV kV doc pm cdv ct : Value} {an : Option Addr} {cc L f : Addr} :
    callEnv (PySem.W.ksFn name qual params body scope dV kV doc pm an cdv ct cc) L f = PySem.W.ksEnv qual scope L f cdv cc := rfl

section
variable {P : Program} {w : World} {K : PySem.W.Frag} {mg : Str → Option Value} {base : Heap} {C f : Addr} {fd : FuncData} {nm qual : Str} {params : Arguments} {body : List Stmt} {scope : Scope}
/-- super().__init__(text): the exception's args are laid anew, nothing else is seen -/
theorem super_init {A : Around} {E : Value → Shared → Prop} {Q : Flow → Shared → Prop} {hG : Heap} {L x cda cc : Addr} {t1 : Addr} {m : Str → Option Value} {s : Shared} {txt : Str} {p0 p1 p2 p3 p4 p5 : Pos} {jk : Nat}
    {vs : Array Value} {ccl cl : Value} {cdd cld : Option Addr} {ccs csl : Array (Option Value)} {file : Str} {tf : Tok} {cdD : ClassData} {ar : Arg} {oc : Value} {od : Option Addr} {osl : Array (Option Value)} {body0 : List Stmt}
    (M0 : Mod K mg base) (hb : ∀ b o, base.get? b = some o → hG.get? b = some o) (F : PyProof.Rows.Fr hG L s.heap m) (N : News hG L s.heap [(x, PySem.W.excObj C t1 none .none)])
    (hf : K.lookup f = some ⟨oc, od, .func fd, osl⟩) (hp : (fd.params.posonlyargs ++ fd.params.args).head? = some ar) (hv : m ar.arg = some (.ref x))
    (hcode : K.lookup cda = some ⟨ccl, cdd, .fields vs, ccs⟩) (hvs : vs[2]? = some (.str file tf)) (hfile : (P.main.file == file) = true)
    (hcell : K.lookup cc = some ⟨cl, cld, .cell (some (.ref C)), csl⟩) (hD : PySem.W.clsIn K C = some cdD) (hsub : PySem.W.mroIn K C (.ref C) = some true) (hsuper : mg "super" = none)
    (hks : scope.names.lookup ("super" : Str) = some .globalImplicit) (hkc : scope.names.lookup ("__class__" : Str) = some .free) (hka : scope.names.lookup ar.arg = some .local) (hk : scope.kind = .function)
    (htop : (P.main.scope.names.lookup ("super" : Str)).isSome = false)
    (hini : PySem.W.ks_superIn K C C "__init__" = some (some (.builtin "ValueError.__init__"))) (hopq : PySem.W.nsIn K cStatics "thirdparty.any" = some none) (hsve : PySem.W.subIn K (.ref C) (.type "ValueError") = some true)
    (hexi : PySem.W.excInitIn K C veTl "ValueError.__new__" = true)
    {pl : Env → Sem Bool} (he : ∀ env : Env, eval (.Call (.Attribute (.Call (.Name "super" p0) [] [] p1) "__init__" p2) [.Constant (.str txt) jk p3] [] p4) env = (do
      let ov ← attributeBase (.Call (.Name "super" p0) [] [] p1) "__init__" env (eval (.Call (.Name "super" p0) [] [] p1) env)
      standAt p2.atName
      let (f, first) ← holding [ov] (getMethod ov "__init__" (pl env))
      callWith p4 f first (backTo p4 (starEach [.Constant (.str txt) jk p3] env)) []))
    (h : ∀ h' t' tk, PyProof.Rows.Fr hG L h' m → h'.get? x = some (PySem.W.excObj C t' none .none) → Q .next { s with heap := h', toks := tk }) :
    _root_.PySem.wpAt (model P w) A (.func body0 (PySem.W.ksEnv qual scope L f (.ref cda) cc)) (exec (.Expr (.Call (.Attribute (.Call (.Name "super" p0) [] [] p1) "__init__" p2) [.Constant (.str txt) jk p3] [] p4) p5) (PySem.W.ksEnv qual scope L f (.ref cda) cc)) Q E s := by
  have KG : K.In hG := M0.kin.keeps hb
  have X0 : K.In s.heap := KG.keeps F.keep
  obtain ⟨hh, g, d, t, os⟩ := s
  obtain ⟨mb, hmb, hmb2⟩ := M0.blt
  have kb : ∀ b o, base.get? b = some o → hh.get? b = some o := fun b o e => F.keep b o (hb b o e)
  have hxx : hh.get? x = some (PySem.W.excObj C t1 none .none) := (N _ (.head _)).1
  have IA : PySem.W.InstAt hh x (PySem.W.excObj C t1 none .none) C none := ⟨hxx, rfl, rfl, trivial⟩
  obtain ⟨oD, hD1, hD2⟩ : ∃ oD, hh.get? C = some oD ∧ oD.data = .cls cdD := by
    unfold PySem.W.clsIn at hD
    split at hD
    · rename_i ho
      cases hD
      exact ⟨_, X0 _ _ ho, rfl⟩
    · cases hD
  have hi0 : interactive (PySem.W.ksEnv qual scope L f (.ref cda) cc) = false := by
    unfold interactive
    rw [show (PySem.W.ksEnv qual scope L f (.ref cda) cc).scope.kind = .function from hk]
    rfl
  refine ks_wpAt_Expr_any (hi := hi0) (ks_wpAt_MethodCall (pl := pl _) ?_ (he _))
  refine ks_wpAt_super_base (env := PySem.W.ksEnv qual scope L f (.ref cda) cc) hks hkc (by decide) rfl (X0 _ _ hf) rfl hp rfl (X0 _ _ hcode) rfl hvs hfile htop ?_
  refine PySem.W.ks_loadName_global hk hks (loadGlobal_builtin (env := PySem.W.ksEnv qual scope L f (.ref cda) cc) (M0.glob.keeps kb) hsuper (hmb.keeps kb) ((hmb2 _ (by decide)).trans (by decide +kernel : bootBuiltins ("super" : Str) = some (.type "super"))) ⟨rfl, ?_⟩)
  refine wpAny_loadName_free hk hkc rfl ⟨_, X0 _ _ hcell, rfl⟩ ?_
  refine wpAny_loadName_local hk hka F.ns hv ?_
  refine ks_wpAny_isType_cls hD1 hD2 ⟨rfl, ?_⟩
  refine ks_wpAny_call_super hD1 hD2 IA.at_ IA.cls (fun c e => by cases e) (PySem.W.looks_mroIn X0 hsub) (fun h1 e1 k1 => ?_)
  obtain ⟨F1, N1, _⟩ := PySem.W.ks_newsPush (s := ⟨hh, g, d, t, os⟩) F N rfl e1 k1
  have IA1 : PySem.W.InstAt h1 x (PySem.W.excObj C t1 none .none) C none := ⟨k1 _ _ hxx, rfl, rfl, trivial⟩
  refine PySem.W.kxs_method (s := ⟨h1, g, d, t, os⟩) PySem.W.kxs_ValueError F1 KG N1 (.head _) IA1 hopq hini hsve (by decide) fun q h2 F2 N2 _ => ?_
  refine PySem.W.kxs_callWith1 (s := ⟨h2, g, d, t + 1, os⟩) N2 (.head _) ?_
  refine spliced_cons ?_
  show wpAny _ _ (eval (Expr.Constant (Const.str txt) jk p3) _) _ _ _
  refine Constant_str ?_
  refine spliced_nil ⟨(N2 _ (.head _)).1, ?_⟩
  have hxe : ∀ p ∈ [(q, PySem.W.kxs_mw "ValueError.__init__" x), (hh.objs.size, PySem.W.ks_superObj C x C)], p.1 ≠ x := fun p hp e => by
    rcases List.mem_cons.mp hp with rfl | hp
    · have z1 := (N2 _ (.head _)).1
      have z2 := (N2 _ (.tail _ (.tail _ (.head _)))).1
      dsimp only at e z1 z2
      rw [e, z2] at z1
      cases z1
    · rw [List.mem_singleton.mp hp] at e
      have z1 := (N2 _ (.tail _ (.head _))).1
      have z2 := (N2 _ (.tail _ (.tail _ (.head _)))).1
      dsimp only at e z1 z2
      rw [e, z2] at z1
      cases z1
  refine PySem.W.kxs_call (s := ⟨h2, g, d, t + 1 + 1, os⟩) (news := (q, PySem.W.kxs_mw "ValueError.__init__" x) :: (hh.objs.size, PySem.W.ks_superObj C x C) :: [(x, PySem.W.excObj C t1 none .none)]) (t := t1) (dv := none) (c2 := .none)
    F2 KG N2 PySem.F.excBase_ValueError hexi (.head _) (.tail (hxe _ (.head _)) (.tail (hxe _ (.tail _ (.head _))) (.head (fun p hp => nomatch hp)))) (by simp [sizeLine_eq]) fun t' h3 F3 N3 _ => ?_
  exact h h3 t' _ F3 (N3 _ (.tail _ (.tail _ (.tail _ (.head _))))).1
/-- THE RULE for an __init__ of two rows: super().__init__(text); self.fld = prm -/
theorem exI_ok {txt slf prm fld : Str} {p0 p1 p2 p3 p4 p5 p6 p7 p8 p9 : Pos} {jk : Nat} {ar : Arg} {pl : Env → Sem Bool}
    (T : ExC P K mg C f fd nm qual params [.Expr (.Call (.Attribute (.Call (.Name "super" p0) [] [] p1) "__init__" p2) [.Constant (.str txt) jk p3] [] p4) p5, .Assign [.Attribute (.Name slf p6) fld p7] (.Name prm p8) p9] scope)
    (hno : PySem.W.findIn K (.ref C) fld = some none) (hp : (params.posonlyargs ++ params.args).head? = some ar) (har : ar.arg = slf) (hne : slf ≠ prm)
    (hks : scope.names.lookup ("super" : Str) = some .globalImplicit) (hkc : scope.names.lookup ("__class__" : Str) = some .free) (hsl : scope.names.lookup slf = some .local) (hpr : scope.names.lookup prm = some .local) (hk : scope.kind = .function)
    (hcell : ∀ x ∈ scope.names, x.2 ≠ .cell) (hco : scope.isCoroutine = false) (hgen : scope.isGenerator = false) (hd1 : (slf == ("__debug__" : Str)) = false) (hd2 : (prm == ("__debug__" : Str)) = false)
    (hs : ∀ env, swapsWith (.Name prm p8) (some (.Attribute (.Name slf p6) fld p7)) p9.line env = pure false)
    (he : ∀ env : Env, eval (.Call (.Attribute (.Call (.Name "super" p0) [] [] p1) "__init__" p2) [.Constant (.str txt) jk p3] [] p4) env = (do
      let ov ← attributeBase (.Call (.Name "super" p0) [] [] p1) "__init__" env (eval (.Call (.Name "super" p0) [] [] p1) env)
      standAt p2.atName
      let (f, first) ← holding [ov] (getMethod ov "__init__" (pl env))
      callWith p4 f first (backTo p4 (starEach [.Constant (.str txt) jk p3] env)) [])) : FnOk P w K mg base (L2.CX P w) 1 f fd [slf, prm] (spEx C fld) := by
  refine ⟨fun vs H Q E h => by obtain ⟨a, v, rfl, _⟩ := h; rfl, fun A outer s H args us vs Q E hr e0 hb r hsp => ?_⟩
  obtain ⟨a, v, rfl, ea, q⟩ := hsp
  obtain ⟨oc, ct, od, an, dV, kV, doc, pm, cda, cc, osl, ccl, cl, cdd, cld, vs, ccs, csl, file, tf, cdD, rfl, lk, hcd, hcode, hvs, hfile, hcel, hD⟩ := T.ex
  cases r with
  | @cons _ u0 _ ur ra rw' =>
  cases rw' with
  | @cons _ u _ ur2 rv rn =>
  cases rn
  obtain rfl : u0 = Value.ref a := ra
  obtain ⟨hp0, g, d, t, os⟩ := s
  have KX : K.In hp0 := e0.mod.kin.keeps fun b o e => (e0.bs b o e).1
  have lim : hp0.NoLimit := e0.mod.nolimit.keeps fun b o e => (e0.bs b o e).1
  obtain ⟨t1, ho⟩ := exo_at e0.hok ea
  have gG : ∀ b o, hp0.get? b = some o → b ≠ a → (PySem.W.hideAll hp0 [a]).get? b = some o := fun b o e n => PySem.W.hideAll_get _ e fun z => n (List.mem_singleton.mp z)
  have bG : ∀ b o, base.get? b = some o → (PySem.W.hideAll hp0 [a]).get? b = some o := fun b o e => gG b o (e0.bs b o e).1 fun z => by
    have := (e0.bs b o e).2
    rw [z, ea] at this
    cases this
  refine ks_codeAny_call_defAt (hr.depth) (KX _ _ lk) rfl lim (PySem.W.codeRec_of KX hcd) rfl hb hcell (fun x hx => ?_) (fun h0 hns hk0 => ?_) hco hgen hk
  · rcases List.mem_cons.mp hx with e | hx
    · rw [e]; exact hsl
    · rw [List.mem_singleton.mp hx]; exact hpr
  have F0 : PyProof.Rows.Fr (PySem.W.hideAll hp0 [a]) hp0.objs.size h0 (fun x => ([slf, prm].zip [Value.ref a, u]).reverse.lookup x) := ⟨hns, fun b o e => hk0 b o (PySem.W.of_hideAll _ e), Nat.le_of_eq (PySem.W.hideAll_size _ _)⟩
  have N0 : News (PySem.W.hideAll hp0 [a]) hp0.objs.size h0 [(a, PySem.W.excObj C t1 none .none)] := fun p hp => by
    rw [List.mem_singleton.mp hp]
    exact ⟨hk0 _ _ ho, Nat.ne_of_lt (Heap.lt_size ho), PySem.W.hideAll_none _ (.head _)⟩
  have m1 : ([slf, prm].zip [Value.ref a, u]).reverse.lookup slf = some (Value.ref a) := by
    show List.lookup slf [(prm, u), (slf, Value.ref a)] = _
    rw [List.lookup_cons, show (slf == prm) = false from beq_eq_false_iff_ne.mpr hne, List.lookup_cons, beq_self_eq_true]
  have m2 : ([slf, prm].zip [Value.ref a, u]).reverse.lookup prm = some u := by
    show List.lookup prm [(prm, u), (slf, Value.ref a)] = _
    rw [List.lookup_cons, beq_self_eq_true]
  refine ks_wpAt_execs_cons (super_init (s := ⟨h0, g, d, t + _, os⟩) e0.mod bG F0 N0 lk hp (by rw [har]; exact m1) hcode hvs hfile hcel hD T.sub T.mgs hks hkc (by rw [har]; exact hsl) hk T.top T.ini T.opq T.sve T.exi he fun h1 t2 tk F1 hx1 => ?_)
  refine ks_wpAt_execs_cons (ks_wpAt_Assign_Attr (hs := hs _) (wpAt_of_wpAny (wpAny_Name (wpAny_loadName_local hk hpr F1.ns m2 (wpAny_Name (wpAny_loadName_local hk hsl F1.ns m1 ?_) hd1)) hd2)))
  obtain ⟨nm', q', N', bs, bm, sn, sub, ab, col, dd, k0, k1, k2, k3, k5, hC, hbm⟩ := T.oex.cls
  have hcl : PySem.W.clsIn K C = some { name := nm', bases := bs, mro := .ref C :: bm, ns := N', qualname := q', hasDict := true, slotNames := sn, subclasses := sub, abstract := ab, collection := col, hasDel := false } := by unfold PySem.W.clsIn; rw [hC] <;> rfl
  have K1 : K.In h1 := e0.mod.kin.keeps fun b o e => F1.keep b o (bG b o e)
  refine PySem.W.set_plain K1 (ox := PySem.W.excObj C t2 none .none) (od := none) ⟨hx1, rfl, rfl, trivial⟩ T.oex.sa ?_
  refine PySem.HandSPX.exc_osa K1 hx1 hcl (show PySem.HandSPX.refsVE (.ref C :: bm) = true from hbm) rfl hno (fun h2 tk2 dx k2' dxn dxa hx2 hn2 => ?_)
  refine wpAt_of_wpAny (wpAny_execs_nil ?_)
  have up : ∀ b o, hp0.get? b = some o → b ≠ a → h1.get? b = some o ∧ h2.get? b = some o := fun b o e n => by
    have z := F1.keep b o (gG b o e n)
    exact ⟨z, k2' b o n z⟩
  have szL : hp0.objs.size ≤ dx := by
    obtain ⟨_, _, _, hL, _⟩ := F1.ns
    exact Nat.le_trans (Nat.le_of_lt (Heap.lt_size hL)) dxn
  have hnd : H dx = none := e0.hok.fresh szL
  have na : ∀ {b : Addr}, H b = none → b ≠ a := fun {b} n z => by
    rw [z, ea] at n
    cases n
  have nd : ∀ {b : Addr} {o : Obj}, hp0.get? b = some o → b ≠ dx := fun {b o} e => Nat.ne_of_lt (Nat.lt_of_lt_of_le (Heap.lt_size e) szL)
  refine ⟨.non, _, rfl, e0.bare, ⟨fun b o e n _ _ => (up b o e (na n)).2, fun b o e n _ _ => ⟨o.slots, (up b o e (na n)).2⟩, fun b o e n _ => ?_, fun b o e _ => ?_, fun b xs e => ?_, fun b o x e => ?_, fun b ps e => ⟨#[], ?_⟩⟩, fun b o e => ?_, rfl, q dx hnd dxa⟩
  · rw [upd_ne (na n), upd_ne (nd e)]; exact n
  · by_cases z : b = a
    · rw [z]; exact ⟨_, hx2⟩
    · exact ⟨o, (up b o e z).2⟩
  · rw [upd_ne (at_ne ea e exo_tup), upd_ne (ne_of_none e hnd)]; exact e
  · rw [upd_ne (at_ne ea e exo_frz), upd_ne (ne_of_none e hnd)]; exact e
  · rw [upd_ne (at_ne ea e exo_tbl), upd_ne (ne_of_none e hnd), e]; simp
  · by_cases z : b = a
    · subst z
      rw [upd_same] at e
      cases e
      exact exo_ok hx2
    · rw [upd_ne z] at e
      by_cases z2 : b = dx
      · subst z2
        rw [upd_same] at e
        cases e
        exact exd_ok hn2 (relO_put (fs := []) rv fun g => True.intro)
      · rw [upd_ne z2] at e
        exact (e0.hok b o e).stay (fun c x hc y => (up c x y (by
            rcases hc with hc | hc
            · rw [hc]; exact z
            · exact at_ne ea hc exo_own)).2)
          (fun c hc => by rw [upd_ne (at_ne ea hc exo_own), upd_ne (ne_of_none hc hnd)]; exact hc) (fun c xs hc => by rw [upd_ne (at_ne ea hc exo_tup), upd_ne (ne_of_none hc hnd)]; exact hc)
end
end DS
set_option Elab.async false
set_option linter.all false
set_option maxRecDepth 100000
set_option maxHeartbeats 2000000
/-! Several except clauses, each with a name or without. -/
namespace DS
open PySem L2 PyProof.Rows PySem.Spec
abbrev SuT := Addr → Value → Option Addr → TS
abbrev Clau := Value × Option Nat × SuT
/-- behind a suite its name's slot is empty -/
def behindN (i : Nat) (T : Ends) : Ends := { nx := fun σ H => T.nx (σ.set i none) H, rt := T.rt, bk := fun σ H => T.bk (σ.set i none) H, ct := fun σ H => T.ct (σ.set i none) H }
def wCls (K : PySem.W.Frag) (Wo : WX) (T : Ends) : List Clau → WX
  | [] => Wo
  | (c, none, ts) :: r => fun k d σ H => ∃ b, PySem.W.exmOne K k c = some b ∧ (b = true → ∀ x, H x = none → ts x k d T σ H) ∧ (b = false → wCls K Wo T r k d σ H)
  | (c, some i, ts) :: r => fun k d σ H => ∃ b, PySem.W.exmOne K k c = some b ∧ (b = true → ∀ x, H x = none → ts x k d (behindN i T) (σ.set i (some (.ref x))) H) ∧ (b = false → wCls K Wo T r k d σ H)
inductive Clauses (X : Cx) : List ExceptHandler → List Clau → Prop
  | nil : Clauses X [] []
  | one {y : Str} {c : Value} {ts : SuT} {s0 : Stmt} {su : List Stmt} {p1 p2 : Pos} {hs : List ExceptHandler} {l : List Clau} (hc : Names X y c)
      (hsu : ∀ (x : Addr) (o : Obj) (k : Value) (d : Option Addr) (pn : List (Addr × Obj)), Zc k d o → (∃ vs, o.data = .fields vs) → PSs (X.suite x ((x, o) :: pn)) (s0 :: su) (ts x k d)) (r : Clauses X hs l) :
      Clauses X (.ExceptHandler (some (.Name y p1)) none (s0 :: su) p2 :: hs) ((c, none, ts) :: l)
  | as {y n : Str} {i : Nat} {c : Value} {ts : SuT} {s0 : Stmt} {su : List Stmt} {p1 p2 : Pos} {hs : List ExceptHandler} {l : List Clau} (hc : Names X y c) (hi : X.N[i]? = some n) (hn : X.env.kindOf n = some .local)
      (hsu : ∀ (x : Addr) (o : Obj) (k : Value) (d : Option Addr) (pn : List (Addr × Obj)), Zc k d o → (∃ vs, o.data = .fields vs) → PSs (X.suite x ((x, o) :: pn)) (s0 :: su) (ts x k d)) (r : Clauses X hs l) :
      Clauses X (.ExceptHandler (some (.Name y p1)) (some n) (s0 :: su) p2 :: hs) ((c, some i, ts) :: l)
section
variable {X : Cx} {bd : List Stmt} {h0 : ExceptHandler} {hs : List ExceptHandler} {l : List Clau} {pos : Pos} {tb : WX → TS} {Wo : WX}
theorem ps_try_cls (hst : X.stack = X.env :: X.outer) (hfr0 : X.env.frame = some X.env.locals) (hN : X.N.Nodup) (tk : Takes X Wo)
    (hb : ∀ (W : WX) (pn : List (Addr × Obj)) (xe : Value → Shared → Prop), Takes (X.tr pn xe) W → PassesOwn (model X.prog X.w) X.A X.env xe → PSs (X.tr pn xe) bd (tb W))
    (hh : Clauses X (h0 :: hs) l) : PS X (.Try bd (h0 :: hs) [] [] pos) (fun T σ H => tb (wCls X.K Wo T l) T σ H) := by
  refine ⟨fun pins s σ H T I h => ?_⟩
  have ok := I.ok
  have frE : X.A.frames = some (X.env :: X.outer) := by rw [ok.frames, hst]
  refine wpAny_Try_except (wpAny_mono ((hb (wCls X.K Wo T l) (X.pn ++ pins) (fun e s1 => wpAny (model X.prog X.w) X.A (noteFrame e X.env) (fun _ s2 => wpAny (model X.prog X.w) X.A (setFlight e none) (fun _ s3 =>
    wpAny (model X.prog X.w) X.A (handleBy e X.env (h0 :: hs)) (SP X pins T) X.xe s3) X.xe s2) X.xe s1) (fun u s' xx => ?_) PassesOwn.looking).run [] s σ H T (I.toTry _) h) (fun fl s1 hsp => ?_) fun e s1 he => he)
  · obtain ⟨x, B, sI, pins', σ1, H1, k, d, rfl, Jt, nb, up, sky, nx, os, ag, w⟩ := xx
    have J : Inv X pins σ1 H1 sI := Jt.ofTry ok
    have sky2 : Sky B (X.env :: X.outer) x (Zc k d) X.env.locals s'.heap := by rw [← hst]; exact sky
    refine Sky.land Zc.steady frE hfr0 sky2 fun h3 fl3 up3 => ?_
    have J3 : Inv X pins σ1 H1 { s' with heap := h3 } := J.landed nb fl3.1 (up.trans up3) os ag
    obtain ⟨o3, v3, e3, z3, d3⟩ := fl3.there
    have outF : ∀ {hp : Heap} {o : Obj} {vs : Array Value}, hp.FunFrames B (X.env :: X.outer) → hp.get? x = some o → o.data = .fields vs → x ∉ frs (X.env :: X.outer) := fun {hp o vs} ff e dd hm => by
      obtain ⟨_, o', e', hnf⟩ := ff.mem hm
      rw [e] at e'
      cases e'
      exact hnf _ dd
    have nfr := outF fl3.2.2.1 e3 d3
    have nL : x ≠ X.env.locals := fun z => nfr (List.mem_filterMap.mpr ⟨X.env, .head _, by rw [hfr0, z]⟩)
    have nF : x ∉ X.fs := fun hm => by
      obtain ⟨e, he, q⟩ := List.mem_filterMap.mp hm
      exact nfr (List.mem_filterMap.mpr ⟨e, .tail _ he, q⟩)
    have S3 := J3.suite e3 d3 nx nL nF
    have LT : PySem.W.Looks (model X.prog X.w) h3 (typeOf (.ref x)) k := fun A Q E s kk q => wpAny_typeOf_ref (kk _ _ e3) (by rw [z3.1]; exact q)
    have asks : ∀ {y : Str} {c : Value} {np : Pos} {Q : Value → Shared → Prop} {E : Value → Shared → Prop}, Names X y c → Q c { s' with heap := h3 } → wpAny (model X.prog X.w) (X.A.mark (some (.ref x))) (eval (.Name y np) X.env) Q E { s' with heap := h3 } := fun {y c np Q E} hc q => by
      obtain ⟨hg, hdb, hm | ⟨hm, hv, hnn⟩⟩ := hc
      · exact ld_glob (X := X.suite x ((x, o3) :: (X.pn ++ pins))) S3 hg hm q hdb
      · exact ld_blt (X := X.suite x ((x, o3) :: (X.pn ++ pins))) S3 hg hm hv q hnn hdb
    have walk : ∀ {hs2 : List ExceptHandler} {l2 : List Clau}, Clauses X hs2 l2 → wCls X.K Wo T l2 k d σ1 H1 → wpAny (model X.prog X.w) X.A (handleBy (.ref x) X.env hs2) (SP X pins T) X.xe { s' with heap := h3 } := by
      intro hs2 l2 hk
      induction hk with
      | nil =>
        intro w
        refine wpAny_handleBy_nil ?_
        obtain ⟨_, _, _, oe, vs, t0, _, _, he, _, hd, h1, _⟩ := id fl3
        unfold PySem.passOn
        refine wpAny_bind (wpAny_field he hd h1 ?_)
        rw [if_neg (show ¬ ((Value.ref t0 == Value.none) = true) by simp)]
        have out : wpAny (model X.prog X.w) X.A (setFlight (.ref x) X.env.frame) (fun _ s4 => wpAny (model X.prog X.w) X.A (throw (.ref x) : Sem Flow) (SP X pins T) X.xe s4) X.xe { s' with heap := h3 } := by
          rw [hfr0]
          exact HandSPX.setFlight_upZ fl3 fun h4 hh4 up4 => wpAny_throw (tk _ _ ⟨x, B, sI, pins, σ1, H1, k, d, rfl, J, nb, (up.trans up3).trans up4, .inr (.inr (by rw [hst]; exact hh4)), nx, os, ag, w⟩)
        first
          | exact wpAny_bind (wpAny_pure (wpAny_bind out))
          | exact wpAny_bind out
      | @one y c ts s0 su p1 p2 hs3 l3 hc hsu r ih =>
        intro w
        obtain ⟨b, hb1, yes, no⟩ := w
        refine wpAny_handleBy_cons (codeAny_handlers_test (asks hc ((PySem.W.exm_one (M := model X.prog X.w) J3.kIn LT hb1).here ?_))) (by intro q; cases q)
        cases b with
        | false => exact ih (no rfl)
        | true =>
          refine codeAny_handlers_suite (HandSPX.lands_againZ fl3 fun h4 fl4 up4 => ?_)
          obtain ⟨o4, _, e4, z4, d4⟩ := fl4.there
          have S4 := (J.landed (s' := { s' with heap := h4 }) nb fl4.1 ((up.trans up3).trans up4) os ag).suite e4 d4 nx nL nF
          refine wpAny_mono ((hsu x o4 k d (X.pn ++ pins) z4 ⟨_, d4⟩).run [] _ _ H1 _ S4 (yes rfl x nx)) (fun fl s6 hsp => ?_) fun _ _ z => z.elim
          cases fl with
          | ret u =>
            obtain ⟨v6, σ6, H6, S6, r6, q6⟩ := hsp
            exact ⟨_, _, _, S6.unsuite ok, r6, q6⟩
          | _ =>
            obtain ⟨σ6, H6, S6, q6⟩ := hsp
            exact ⟨_, _, S6.unsuite ok, q6⟩
      | @as y n i c ts s0 su p1 p2 hs3 l3 hc hi hn hsu r ih =>
        intro w
        obtain ⟨b, hb1, yes, no⟩ := w
        refine wpAny_handleBy_cons (codeAny_handlers_test (asks hc ((PySem.W.exm_one (M := model X.prog X.w) J3.kIn LT hb1).here ?_))) (by intro q; cases q)
        cases b with
        | false => exact ih (no rfl)
        | true =>
          refine codeAny_handlers_suite_as (HandSPX.lands_againZ fl3 fun h4 fl4 up4 => ?_)
          obtain ⟨o4, _, e4, z4, d4⟩ := fl4.there
          have S4 := (J.landed (s' := { s' with heap := h4 }) nb fl4.1 ((up.trans up3).trans up4) os ag).suite e4 d4 nx nL nF
          refine store_ok (X := X.suite x ((x, o4) :: (X.pn ++ pins))) (v := .ref x) S4 hN hi (.inl hn) rfl (fun s5 S5 => ?_) (.inr hn)
          refine wpAny_mono ((hsu x o4 k d (X.pn ++ pins) z4 ⟨_, d4⟩).run [] s5 _ H1 _ S5 (yes rfl x nx)) (fun fl s6 hsp => ?_) fun _ _ z => z.elim
          have fin : ∀ {σ6 : L2.St} {H6 : Hp} {Q : Shared → Prop}, Inv (X.suite x ((x, o4) :: (X.pn ++ pins))) [] σ6 H6 s6 → (∀ s7, Inv X pins (σ6.set i none) H6 s7 → Q s7) →
              wpAny (model X.prog X.w) X.A (do bindName X.env n .none; unbindBehindTheSuite X.env n p2) (fun _ s7 => Q s7) X.xe s6 := fun S6 hq => gone_ok (S6.unsuite ok) hN hi hn hq
          cases fl with
          | ret u =>
            obtain ⟨v6, σ6, H6, S6, r6, q6⟩ := hsp
            exact fin S6 fun s7 J7 => ⟨_, _, _, J7, r6, q6⟩
          | _ =>
            obtain ⟨σ6, H6, S6, q6⟩ := hsp
            exact fin S6 fun s7 J7 => ⟨_, _, J7, q6⟩
    exact walk hh w
  · cases fl with
    | next =>
      obtain ⟨σ1, H1, J1, q⟩ := hsp
      exact wpAny_execs_nil ⟨σ1, H1, J1.ofTry ok, q⟩
    | ret u =>
      obtain ⟨v, σ1, H1, J1, r, q⟩ := hsp
      exact ⟨v, σ1, H1, J1.ofTry ok, r, q⟩
    | _ =>
      obtain ⟨σ1, H1, J1, q⟩ := hsp
      exact ⟨σ1, H1, J1.ofTry ok, q⟩
end
end DS
set_option Elab.async false
set_option linter.all false
set_option maxRecDepth 100000
set_option maxHeartbeats 2000000
namespace DS
open PySem L2 PyProof.Rows
variable {F : Fr} {X : Cx} {W : WX} {a b c e : Expr} {fa fb fc : EF} {pos : Pos} {st : Stmt} {sts : List Stmt} {f g : SF} {tt : TF} {es : List Expr} {fs : List EF}

/-! ### raise C(e) -/
structure GEx (P : Program) (w : World) (K : PySem.W.Frag) (mg : Str → Option Value) (base : Heap) (x : Str) (C : Addr) (fld : Str) : Prop where
  ex : ∃ f fd ps, FnOk P w K mg base (L2.CX P w) 1 f fd ps (spEx C fld) ∧ PySem.W.findIn K (.ref C) "__init__" = some (some (.ref f)) ∧ PySem.W.typeIn K (.ref f) = some (.type "function") ∧ Binds K fd ps [] ∧ OexC K C ∧ mg x = some (.ref C)
def sRaise (x fld : Str) (f : EF) : SF := fun s => match f s with
  | .ok d => .ex x [(fld, d)] s
  | .ex c fs => .ex c fs s
  | .no => .no
theorem passes_none {X : Cx} (tk : Takes X W) : Passes (L2.CX X.prog X.w) X (fun _ _ _ => False) := fun pins σ H s e s' I c => passes_call tk (fun _ _ _ _ h => h.elim) pins σ H s e s' I c
theorem ds_raise {x fld : Str} {C : Addr} {k : Nat} {p : Pos} (G : GEx X.prog X.w X.K X.mg X.base x C fld) (hr : Room k X.A) (hc : X.calm = true) (hg : Gl X x) (tk : Takes X W) (h : DE F X W e fa) (hkk : 2 ≤ k := by decide)
    (hdb : (x == ("__debug__" : Str)) = false := by decide) (he : starEach (e :: []) X.env = (false, eval e X.env) :: starEach [] X.env := by rfl) (hpl : (backTo p (starEach [] X.env)).any (·.1) = false := by rfl) {p' : Pos} :
    DX1 F X W (.Raise (some (.Call (.Name x p') [e] [] p)) none pos) (sRaise x fld fa) := by
  obtain ⟨f, fd, ps, G, iC, tI, hb, T, hm⟩ := G
  refine ⟨PS.weak (ps_raise hc tk (pmk_oex (dvs := []) T iC tI G (hr.mono hkk) hb .nil (passes_none tk) hg hm (da_cons h da_nil he).pa hdb he hpl)) fun D σ H ⟨sd, rel, p⟩ => ⟨sd, rel, ?_⟩⟩
  unfold sRaise at p
  simp only [evalL]
  cases q : fa sd with
  | no => rw [q] at p; exact p
  | ex c fs => rw [q] at p; exact fun cls da H' s h => post_ex (bb := false) (Q := fun _ _ => True) rel p cls da H' s h
  | ok d =>
    rw [q] at p
    intro vs H1 s1 hv
    obtain ⟨v, r, rfl, h1, rfl⟩ := hv
    refine ⟨by simp, fun a na => ⟨a, v, rfl, upd_same, fun dx nd ne => ⟨rfl, dx, [(fld, v)], upd_same, ?_, ?_, ?_⟩⟩⟩
    · rw [upd_ne ne, upd_same]
    · rw [upd_ne ne] at nd; exact nd
    · have nd1 : H1 dx = none := by rw [upd_ne ne] at nd; exact nd
      have sf : Same H1 (upd (del (upd (upd (upd H1 a (exo a C none)) dx (exd dx [(fld, v)])) a (exo a C (some dx))) a) dx (.xd [(fld, v)])) := fun b o hb => by
        have nb : b ≠ a := ne_of_none hb na
        rw [upd_ne (ne_of_none hb nd1), del_ne nb, upd_ne nb, upd_ne (ne_of_none hb nd1), upd_ne nb]
        exact hb
      have h1 : Holds H1 (Av F σ sd) d v := h1
      exact p _ _ σ _ (rel.mono (s1.trans sf)) (ExtS.same (s1.trans sf) fun _ z => z) (.inl ⟨C, hm, rfl, .inr ⟨dx, _, rfl, upd_same, v, [], rfl, (h1.same sf).less fun _ z => .inl z, rfl⟩⟩)

/-! ### try -/
def frzA (s : SD) : SD := s.map frz
def okIn (s : SD) : Bool := s.all fun t => match t with
  | .bw _ => false
  | .xc => false
  | _ => true
def okOut (s : SD) : Bool := s.all fun t => match t with
  | .bw _ => false
  | .oi _ _ => false
  | .xc => false
  | _ => true
section
variable {σ : L2.St} {H : Hp} {sd : SD}
theorem frz_own (s : Sl) : (frz s).own = false := by cases s <;> rfl
theorem frzA_noown (i : Nat) (a : Addr) : ¬ OwnAt σ (frzA sd) i a := fun ⟨t, e, o, _⟩ => by
  unfold frzA at e
  rw [List.getElem?_map, Option.map_eq_some_iff] at e
  obtain ⟨t', _, rfl⟩ := e
  rw [frz_own] at o
  cases o
theorem Rel.suite (rel : Rel F σ H sd) (h : okIn sd = true) (x : Addr) : Rel ⟨H, F.B, x⟩ σ H (frzA sd) := by
  have av : ∀ a, Av ⟨H, F.B, x⟩ σ (frzA sd) a → F.B a := fun a z => z.elim id fun ⟨i, z⟩ => absurd z (frzA_noown i a)
  have u : Up H (Av F σ sd) H (Av ⟨H, F.B, x⟩ σ (frzA sd)) := Up.ofOff (fun _ _ h _ => h) fun b z => .inl (.inl (av b z))
  refine ⟨Same.refl H, by simp [frzA, rel.len], fun i t e => ?_, fun i j a h1 _ => absurd h1 (frzA_noown i a), fun a ⟨i, z⟩ => absurd z (frzA_noown i a), rel.bdom⟩
  unfold frzA at e
  rw [List.getElem?_map, Option.map_eq_some_iff] at e
  obtain ⟨t', e, rfl⟩ := e
  obtain ⟨v, ev, hh⟩ := rel.slot i t' e
  have ht := List.all_eq_true.mp h t' (List.mem_of_getElem? e)
  refine ⟨v, ev, ?_⟩
  have nb : ∀ a, v = some (.ref a) → t'.own = true → ¬ Av ⟨H, F.B, x⟩ σ (frzA sd) a := fun a ea o z => by
    subst ea
    exact rel.nb a ⟨i, t', e, o, ev⟩ (av a z)
  cases t' with
  | un => trivial
  | xc => cases ht
  | bw d => cases ht
  | sh d => obtain ⟨x, e, h⟩ := hh; exact ⟨x, e, Holds.up u d h⟩
  | ol ds => obtain ⟨a, vs, e, n, r, l⟩ := hh; exact ⟨_, e, a, vs, rfl, nb a e rfl, r, HoldsL.up u _ l⟩
  | od ds => obtain ⟨a, vs, e, n, r, l⟩ := hh; exact ⟨_, e, a, vs, rfl, nb a e rfl, .inl r, HoldsK.up u _ l⟩
  | oi C ds => obtain ⟨a, dx, vs, e, n, r, l⟩ := hh; exact ⟨_, e, a, dx, vs, rfl, nb a e rfl, r, HoldsF.up u _ l⟩
theorem Rel.frzA (rel : Rel F σ H sd) (h : okIn sd = true) : Rel F σ H (frzA sd) := by
  have z := rel.suite h F.S
  have av : ∀ a, Av F σ (DS.frzA sd) a → F.B a := fun a z => z.elim id fun ⟨i, z⟩ => absurd z (frzA_noown i a)
  refine ⟨rel.same, z.len, fun i t e => ?_, z.inj, z.nb, rel.bdom⟩
  obtain ⟨v, ev, hh⟩ := z.slot i t e
  refine ⟨v, ev, ?_⟩
  have hown : t.own = false := by
    unfold DS.frzA at e
    rw [List.getElem?_map, Option.map_eq_some_iff] at e
    obtain ⟨t', e, rfl⟩ := e
    exact frz_own t'
  cases t with
  | un => trivial
  | xc => exact hh
  | sh d => exact hh
  | bw d =>
    unfold DS.frzA at e
    rw [List.getElem?_map, Option.map_eq_some_iff] at e
    obtain ⟨t', e, e2⟩ := e
    have ht := List.all_eq_true.mp h t' (List.mem_of_getElem? e)
    cases t' <;> first | (cases ht; done) | (simp [frz] at e2; done)
  | ol ds => cases hown
  | od ds => cases hown
  | oi C ds => cases hown
theorem Rel.setX (rel : Rel F σ H sd) (i : Nat) : Rel F (σ.set i (some (.ref F.S))) H (sd.set i .xc) := by
  have hown : ∀ a, Own (σ.set i (some (.ref F.S))) (sd.set i .xc) a → Own σ sd a := fun a z => own_set rfl rel.len z
  have hav : ∀ a, Av F (σ.set i (some (.ref F.S))) (sd.set i .xc) a → Av F σ sd a := fun a z => z.elim .inl fun z => .inr (hown a z)
  refine ⟨rel.same, by simp [rel.len], fun j s e => ?_, fun j k a h1 h2 => rel.inj j k a (ownAt_set rfl h1 rel.len).1 (ownAt_set rfl h2 rel.len).1, fun a z => rel.nb a (hown a z), rel.bdom⟩
  by_cases hj : i = j
  · subst hj
    by_cases hi : i < sd.length
    · rw [List.getElem?_set_self hi] at e
      cases e
      exact ⟨_, List.getElem?_set_self (by rw [rel.len]; exact hi), rfl⟩
    · rw [List.getElem?_eq_none (by simpa using hi)] at e
      cases e
  · rw [List.getElem?_set_ne hj] at e
    obtain ⟨w, e2, q⟩ := rel.slot j s e
    exact ⟨w, by rw [List.getElem?_set_ne hj]; exact e2, q.up rel.same (up_own hav) fun a o _ _ q => q⟩
theorem Rel.back {H1 : Hp} {x : Addr} (rel : Rel ⟨H1, F.B, x⟩ σ H sd) (s : Same F.H0 H1) (h : okOut sd = true) : Rel F σ H sd := by
  refine ⟨s.trans rel.same, rel.len, fun i t e => ?_, rel.inj, rel.nb, rel.bdom⟩
  obtain ⟨v, ev, hh⟩ := rel.slot i t e
  have ht := List.all_eq_true.mp h t (List.mem_of_getElem? e)
  refine ⟨v, ev, ?_⟩
  cases t with
  | un => trivial
  | xc => cases ht
  | bw d => cases ht
  | oi C ds => cases ht
  | sh d => exact hh
  | ol ds => obtain ⟨a, vs, e, n, r, l⟩ := hh; exact ⟨a, vs, e, s.free n, r, l⟩
  | od ds => obtain ⟨a, vs, e, n, r, l⟩ := hh; exact ⟨a, vs, e, s.free n, r, l⟩
end
def inX (i : Option Nat) (s : SD) : SD := match i with
  | some i => s.set i .xc
  | none => s
def unX (i : Option Nat) (s : SD) : SD := match i with
  | some i => s.set i .un
  | none => s
def behX (i : Option Nat) : SO → SO
  | .nx s => if okOut (unX i s) = true then .nx (unX i s) else .no
  | .rt d => .rt d
  | .rn n => .rn n
  | .bk s => if okOut (unX i s) = true then .bk (unX i s) else .no
  | .ct s => if okOut (unX i s) = true then .ct (unX i s) else .no
  | _ => .no
abbrev XCl := Str × Option Nat × (List (Str × D) → SF)
def clGo (tb : List (Str × Str)) (s : SD) (c : Str) (fs : List (Str × D)) : List XCl → SO
  | [] => .ex c fs s
  | (k, i, h) :: r => if (c, k) ∈ tb then (if c = k then behX i (h fs (inX i s)) else clGo tb s c fs r) else .no
def sTry (tb : List (Str × Str)) (body : SF) (cl : List XCl) : SF := fun s => match body s with
  | .ex c fs s' => if okIn s' = true then clGo tb (frzA s') c fs cl else .no
  | o => o
def XcAt (F' : Fr) (k : Value) (d : Option Addr) (C : Addr) (fs : List (Str × D)) : Prop := k = .ref C ∧ (fs = [] ∨ ∃ dd ws, d = some dd ∧ F'.H0 dd = some (.xd ws) ∧ HoldsF F'.H0 F'.B fs ws)
def suT (mg : Str → Option Value) (y : Str) (h : List (Str × D) → SF) : SuT := fun x k d T σ H => ∃ F' C fs, x = F'.S ∧ XcAt F' k d C fs ∧ mg y = some (.ref C) ∧ TSx F' mg W0 (h fs) T σ H
inductive DCl (X : Cx) : List ExceptHandler → List XCl → List Clau → Prop
  | nil : DCl X [] [] []
  | one {y : Str} {C : Addr} {h : List (Str × D) → SF} {s0 : Stmt} {su : List Stmt} {p1 p2 : Pos} {hs : List ExceptHandler} {cl : List XCl} {l : List Clau} (hg : Gl X y) (hd : (y == ("__debug__" : Str)) = false) (hm : X.mg y = some (.ref C))
      (hsu : ∀ (F' : Fr) (fs : List (Str × D)) (x : Addr) (o : Obj) (k : Value) (d : Option Addr) (pn : List (Addr × Obj)), Zc k d o → (∃ vs, o.data = .fields vs) → x = F'.S → XcAt F' k d C fs → DXs F' (X.suite x ((x, o) :: pn)) W0 (s0 :: su) (h fs)) (r : DCl X hs cl l) :
      DCl X (.ExceptHandler (some (.Name y p1)) none (s0 :: su) p2 :: hs) ((y, none, h) :: cl) ((.ref C, none, suT X.mg y h) :: l)
  | as {y n : Str} {i : Nat} {C : Addr} {h : List (Str × D) → SF} {s0 : Stmt} {su : List Stmt} {p1 p2 : Pos} {hs : List ExceptHandler} {cl : List XCl} {l : List Clau} (hg : Gl X y) (hd : (y == ("__debug__" : Str)) = false) (hm : X.mg y = some (.ref C)) (hi : X.N[i]? = some n) (hn : X.env.kindOf n = some .local)
      (hsu : ∀ (F' : Fr) (fs : List (Str × D)) (x : Addr) (o : Obj) (k : Value) (d : Option Addr) (pn : List (Addr × Obj)), Zc k d o → (∃ vs, o.data = .fields vs) → x = F'.S → XcAt F' k d C fs → DXs F' (X.suite x ((x, o) :: pn)) W0 (s0 :: su) (h fs)) (r : DCl X hs cl l) :
      DCl X (.ExceptHandler (some (.Name y p1)) (some n) (s0 :: su) p2 :: hs) ((y, some i, h) :: cl) ((.ref C, some i, suT X.mg y h) :: l)
theorem DCl.cls {X : Cx} {hs : List ExceptHandler} {cl : List XCl} {l : List Clau} (h : DCl X hs cl l) : Clauses X hs l := by
  induction h with
  | nil => exact .nil
  | @one y C h s0 su p1 p2 hs cl l hg hd hm hsu r ih =>
    refine .one ⟨hg, hd, .inl hm⟩ (fun x o k d pn hz hf => ⟨fun pins s σ H D I q => ?_⟩) ih
    obtain ⟨F', C', fs, ex, xa, hm', q⟩ := q
    have e := hm.symm.trans hm'
    cases e
    exact (hsu F' fs x o k d pn hz hf ex xa).ps.run pins s σ H D I q
  | @as y n i C h s0 su p1 p2 hs cl l hg hd hm hi hn hsu r ih =>
    refine .as ⟨hg, hd, .inl hm⟩ hi hn (fun x o k d pn hz hf => ⟨fun pins s σ H D I q => ?_⟩) ih
    obtain ⟨F', C', fs, ex, xa, hm', q⟩ := q
    have e := hm.symm.trans hm'
    cases e
    exact (hsu F' fs x o k d pn hz hf ex xa).ps.run pins s σ H D I q
def TbOk (K : PySem.W.Frag) (mg : Str → Option Value) (tb : List (Str × Str)) : Prop := ∀ c k, (c, k) ∈ tb → ∃ C C', mg c = some (.ref C) ∧ mg k = some (.ref C') ∧ PySem.W.exmOne K (.ref C) (.ref C') = some (decide (c = k))
theorem exts_un {σ σ2 : L2.St} {sd s2 : SD} {H H2 : Hp} {i : Nat} (hl : σ2.length = s2.length) (e : ExtS σ sd H σ2 s2 H2) : ExtS σ sd H (σ2.set i none) (s2.set i .un) H2 := e.trans (ExtS.same (Same.refl _) fun a z => own_set rfl hl z)
theorem cls_go {tb : List (Str × Str)} {T : Ends} {σ σ1 : L2.St} {sd s1 : SD} {H H1 : Hp} {c : Str} {fs : List (Str × D)} {cls : Value} {da : Option Addr} (htb : TbOk X.K X.mg tb) (rel : Rel F σ1 H1 s1) (hin : okIn s1 = true) (e1 : ExtS σ sd H σ1 s1 H1) (xr : ExRep X.mg H1 F.B c fs cls da) :
    ∀ {hs : List ExceptHandler} {cl : List XCl} {l : List Clau}, DCl X hs cl l → PostS X.mg W F σ sd T (clGo tb (frzA s1) c fs cl) H → wCls X.K W T l cls da σ1 H1 := by
  have noO : ∀ {P : Addr → Prop} a, Own σ1 (frzA s1) a → P a := fun a ⟨i, z⟩ => absurd z (frzA_noown i a)
  have ef : ExtS σ sd H σ1 (frzA s1) H1 := e1.trans (ExtS.same (Same.refl _) fun a z => noO a z)
  have body : ∀ {k : Str} {r : List XCl} {i : Option Nat} {h : List (Str × D) → SF} {C' : Addr}, X.mg k = some (.ref C') → PostS X.mg W F σ sd T (clGo tb (frzA s1) c fs ((k, i, h) :: r)) H →
      ∃ b, PySem.W.exmOne X.K cls (.ref C') = some b ∧ (b = true → XcAt ⟨H1, F.B, 0⟩ cls da C' fs ∧ PostS X.mg W F σ sd T (behX i (h fs (inX i (frzA s1)))) H) ∧ (b = false → PostS X.mg W F σ sd T (clGo tb (frzA s1) c fs r) H) := by
    intro k r i h C' hk p
    unfold clGo at p
    split at p
    · rename_i hm
      obtain ⟨C1, C2, m1, m2, ex⟩ := htb c k hm
      have e2 := m2.symm.trans hk
      cases e2
      rcases xr with ⟨C3, m3, rfl, hf⟩ | ⟨_, m3, _⟩
      · have e3 := m3.symm.trans m1
        cases e3
        refine ⟨_, ex, fun hb => ?_, fun hb => ?_⟩
        · have ec := of_decide_eq_true hb
          subst ec
          have e4 := m1.symm.trans m2
          cases e4
          rw [if_pos rfl] at p
          refine ⟨⟨rfl, hf.imp_right fun ⟨d, ws, a1, a2, a3⟩ => ⟨d, ws, a1, a2, a3⟩⟩, p⟩
        · rw [if_neg (of_decide_eq_false hb)] at p
          exact p
      · rw [m3] at m1; cases m1
    · exact p.elim
  intro hs cl l hk
  induction hk with
  | nil => exact fun p => p _ _ _ _ (rel.frzA hin) ef xr
  | @one y C h s0 su p1 p2 hs cl l hg hd hm hsu r ih =>
    intro p
    obtain ⟨b, hb, yes, no⟩ := body hm p
    refine ⟨b, hb, fun z x nx => ?_, fun z => ih (no z)⟩
    obtain ⟨xa, p⟩ := yes z
    refine ⟨⟨H1, F.B, x⟩, C, fs, rfl, xa, hm, frzA s1, rel.suite hin x, ?_⟩
    unfold inX at p
    dsimp only at p
    cases q : h fs (frzA s1) with
    | no => rw [q] at p; exact p
    | ex c fs s' => rw [q] at p; exact p.elim
    | rt d => rw [q] at p; exact fun v H2 s hv => p v H2 (rel.same.trans s) hv
    | rn n => rw [q] at p; exact fun p0 H2 s n0 nb h => p p0 H2 (rel.same.trans s) (rel.same.free n0) nb h
    | nx s2 =>
      rw [q] at p
      unfold behX unX at p
      dsimp only at p
      split at p
      · rename_i ho
        exact fun σ2 H2 r2 e2 => p σ2 H2 (r2.back rel.same ho) (ef.trans e2)
      · exact p.elim
    | bk s2 =>
      rw [q] at p
      unfold behX unX at p
      dsimp only at p
      split at p
      · rename_i ho
        exact fun σ2 H2 r2 e2 => p σ2 H2 (r2.back rel.same ho) (ef.trans e2)
      · exact p.elim
    | ct s2 =>
      rw [q] at p
      unfold behX unX at p
      dsimp only at p
      split at p
      · rename_i ho
        exact fun σ2 H2 r2 e2 => p σ2 H2 (r2.back rel.same ho) (ef.trans e2)
      · exact p.elim
  | @as y n i C h s0 su p1 p2 hs cl l hg hd hm hi hn hsu r ih =>
    intro p
    obtain ⟨b, hb, yes, no⟩ := body hm p
    refine ⟨b, hb, fun z x nx => ?_, fun z => ih (no z)⟩
    obtain ⟨xa, p⟩ := yes z
    have rs := rel.suite hin x
    have es : ExtS σ sd H (σ1.set i (some (.ref x))) ((frzA s1).set i .xc) H1 := ef.trans (ExtS.same (Same.refl _) fun a z => own_set rfl rs.len z)
    refine ⟨⟨H1, F.B, x⟩, C, fs, rfl, xa, hm, (frzA s1).set i .xc, rs.setX i, ?_⟩
    unfold inX at p
    dsimp only at p
    cases q : h fs ((frzA s1).set i .xc) with
    | no => rw [q] at p; exact p
    | ex c fs s' => rw [q] at p; exact p.elim
    | rt d => rw [q] at p; exact fun v H2 s hv => p v H2 (rel.same.trans s) hv
    | rn n => rw [q] at p; exact fun p0 H2 s n0 nb h => p p0 H2 (rel.same.trans s) (rel.same.free n0) nb h
    | nx s2 =>
      rw [q] at p
      unfold behX unX at p
      dsimp only at p
      split at p
      · rename_i ho
        exact fun σ2 H2 r2 e2 => p _ H2 ((r2.unset i none).back rel.same ho) (exts_un r2.len (es.trans e2))
      · exact p.elim
    | bk s2 =>
      rw [q] at p
      unfold behX unX at p
      dsimp only at p
      split at p
      · rename_i ho
        exact fun σ2 H2 r2 e2 => p _ H2 ((r2.unset i none).back rel.same ho) (exts_un r2.len (es.trans e2))
      · exact p.elim
    | ct s2 =>
      rw [q] at p
      unfold behX unX at p
      dsimp only at p
      split at p
      · rename_i ho
        exact fun σ2 H2 r2 e2 => p _ H2 ((r2.unset i none).back rel.same ho) (exts_un r2.len (es.trans e2))
      · exact p.elim
theorem ds_try {tb : List (Str × Str)} {bd : List Stmt} {h0 : ExceptHandler} {hs : List ExceptHandler} {cl : List XCl} {l : List Clau} {f : SF} (hst : X.stack = X.env :: X.outer) (hfr : X.env.frame = some X.env.locals) (hN : X.N.Nodup) (tk : Takes X W) (htb : TbOk X.K X.mg tb)
    (hb : ∀ (W : WX) (pn : List (Addr × Obj)) (xe : Value → Shared → Prop), Takes (X.tr pn xe) W → PassesOwn (model X.prog X.w) X.A X.env xe → DXs F (X.tr pn xe) W bd f) (hh : DCl X (h0 :: hs) cl l) :
    DX1 F X W (.Try bd (h0 :: hs) [] [] pos) (sTry tb f cl) :=
  ⟨PS.weak (ps_try_cls hst hfr hN tk (tb := fun W => TSx F X.mg W f) (fun W pn xe t p => (hb W pn xe t p).ps) hh.cls) fun T σ H ⟨sd, rel, p⟩ => ⟨sd, rel, by
    unfold sTry at p
    cases q : f sd with
    | nx s' => rw [q] at p; exact p
    | rt d => rw [q] at p; exact p
    | rn n => rw [q] at p; exact p
    | bk s' => rw [q] at p; exact p
    | ct s' => rw [q] at p; exact p
    | no => rw [q] at p; exact p
    | ex c fs s' =>
      rw [q] at p
      dsimp only at p
      split at p
      · rename_i hi
        exact fun cls da σ' H' r e x => cls_go htb r hi e x hh p
      · exact p.elim⟩⟩
/-- n.f in a suite, n its exception -/
def eXf (i : Nat) (fs : List (Str × D)) (f : Str) : EF := fun s => match s[i]? with
  | some .xc => (match fs.lookup f with
    | some d => .ok d
    | none => .no)
  | _ => .no
theorem de_xf {F' : Fr} {x C : Addr} {o : Obj} {k : Value} {d : Option Addr} {pn : List (Addr × Obj)} {fs : List (Str × D)} (i : Nat) {n f : Str} {pos' : Pos} (hz : Zc k d o) (hf : ∃ vs, o.data = .fields vs) (hx : x = F'.S) (xa : XcAt F' k d C fs) (T : XfC X.K C) (hno : PySem.W.findIn X.K (.ref C) f = some none)
    (hN : X.N[i]? = some n := by rfl) (hv : Vis X.env.scope n := by first | exact Or.inl rfl | exact Or.inr (Or.inl rfl) | exact Or.inr (Or.inr rfl)) (hd : (n == ("__debug__" : Str)) = false := by decide)
    (hcd : (n == ("__classdict__" : Str)) = false := by decide) (hb : attributeBase (.Name n pos') f X.env (eval (.Name n pos') X.env) = eval (.Name n pos') X.env := by rfl) :
    DE F' (X.suite x ((x, o) :: pn)) W0 (.Attribute (.Name n pos') f pos) (eXf i fs f) :=
  ⟨PE.weak (pe_xf T hno hz hf (pe_var (X := X.suite x ((x, o) :: pn)) hN hv hd hcd) hb) fun σ H Q ⟨sd, rel, p⟩ => by
    unfold eXf at p
    cases q : sd[i]? with
    | none => rw [q] at p; exact p.elim
    | some s =>
      rw [q] at p
      obtain ⟨v, e, h⟩ := rel.slot i s q
      cases s with
      | xc =>
        dsimp only at p
        obtain ⟨rfl, xa⟩ := xa
        rcases xa with rfl | ⟨dd, ws, rfl, e0, hl⟩
        · exact p.elim
        · cases q2 : fs.lookup f with
          | none => rw [q2] at p; exact p.elim
          | some d2 =>
            rw [q2] at p
            have hh : v = some (.ref F'.S) := h
            subst hh
            have u : Up F'.H0 F'.B H (Av F' σ sd) := ⟨fun a xs h n => ⟨rel.same _ _ h, fun z => z.elim n fun z => by have := (rel.odom z).2; rw [h] at this; cases this⟩, fun a xs h n => ⟨rel.same _ _ h, fun z => z.elim n fun z => by have := (rel.odom z).2; rw [h] at this; cases this⟩,
              fun a xs h n => ⟨rd_same rel.same h, fun z => z.elim n fun z => rd_some h (rel.odom z).2⟩, fun a xs h n => ⟨rd_same rel.same h, fun z => z.elim n fun z => rd_some h (rel.odom z).2⟩, fun a C dx ws h n => ⟨rel.same _ _ h, fun z => z.elim n fun z => by have := (rel.odom z).2; rw [h] at this; cases this⟩, fun a h n z => z.elim n fun z => h (rel.odom z).2, fun a φ h n => ⟨rel.same _ _ h, fun z => z.elim n fun z => by have := (rel.odom z).2; rw [h] at this; cases this⟩⟩
            obtain ⟨v2, e2, h2⟩ := (HoldsF.up u fs hl).look q2
            exact ⟨_, e, by rw [hx], rfl, dd, ws, v2, rfl, rel.same _ _ e0, e2, p v2 H (Same.refl H) h2⟩
      | _ => exact p.elim⟩
end DS
set_option Elab.async false
set_option linter.all false
set_option maxRecDepth 100000
set_option maxHeartbeats 2000000
namespace DS
open PySem L2 PyProof.Rows
/-! ### the top with own exception classes -/
structure XD where
  cls : Str
  fld : Option Str
  file : Str
  name : Str
  qual : Str
  params : Arguments
  body : List Stmt
  scope : Scope
def XD.C (K : PySem.W.Frag) (d : XD) : Addr := He.ga K d.cls
def XD.f (K : PySem.W.Frag) (d : XD) : Addr := He.ma K (He.ga K d.cls) "__init__"
def fnX (K : PySem.W.Frag) (d : XD) : He.FnW := match K.lookup (d.f K) with
  | some ⟨_, _, .func fd, _⟩ => some (fd.name, fd.qualname, fd.params, fd.body, fd.scope, fd.globals, fd.closure.map fun q => (q.1, 0), fd.builtins)
  | _ => none
def XD.val (d : XD) : He.FnW := some (d.name, d.qual, d.params, .stmts d.body, d.scope, mainGlobals, [("__class__", 0)], builtinsNs)
def isNonV : Value → Bool
  | .none => true
  | _ => false
def oexB (K : PySem.W.Frag) (C : Addr) : Bool := (match K.lookup C with
  | some ⟨.type "type", _, .cls cd, sl⟩ => (match cd.mro, sl.toList with
    | .ref C' :: bm, [_, _, _, _, some (.builtin n), _] => C' == C && (n == "ValueError.__new__" && (!cd.hasDel && (cd.hasDict && PySem.HandSPX.refsVE bm)))
    | _, _ => false)
  | _ => false) && (He.eqO (PySem.W.findIn K (.ref C) "__setattr__") (some (some (.builtin "object.__setattr__"))) &&
  (decide (PySem.W.subIn K (.ref C) (.type "BaseException") = some true) && (decide (PySem.W.typeIn K (.ref C) = some (.type "type")) && PySem.W.keepIn K (.ref C))))
theorem oexB_ok {K : PySem.W.Frag} {C : Addr} (h : oexB K C = true) : OexC K C := by
  unfold oexB at h
  simp only [Bool.and_eq_true] at h
  obtain ⟨h1, h2, h3, h4, h5⟩ := h
  refine ⟨?_, He.eqO_ok h2, of_decide_eq_true h3, of_decide_eq_true h4, h5⟩
  split at h1
  · rename_i dc cl ss ho
    split at h1
    · rename_i A1 b1 r0 r1 r2 r3 nw r5 em es
      simp only [Bool.and_eq_true, beq_iff_eq, Bool.not_eq_true'] at h1
      obtain ⟨rfl, rfl, hdel, hdct, hbm⟩ := h1
      obtain ⟨z1, z2, z3, z4, z5, z6, z7, z8, z9, z10, z11⟩ := cl
      simp only at em hdel hdct
      subst em hdel hdct
      obtain ⟨l⟩ := ss
      simp only at es
      subst es
      exact ⟨z1, z5, z4, z2, b1, z7, z8, z9, z10, _, r0, r1, r2, r3, r5, ho, hbm⟩
    · cases h1
  · cases h1
def XD.ok (K : PySem.W.Frag) (d : XD) : Bool := (match K.lookup (d.f K) with
  | some ⟨_, _, .func fd, _⟩ => isNonV fd.defaults && (match fd.code, fd.closure with
    | .ref cda, [(_, cc)] => PySem.W.codeIn K (.ref cda) d.qual && ((match K.lookup cda with
      | some ⟨_, _, .fields vs, _⟩ => (match (vs[2]? : Option Value) with
        | some (.str fl _) => d.file == fl
        | _ => false)
      | _ => false) && (match K.lookup cc with
      | some ⟨_, _, .cell (some (.ref C')), _⟩ => C' == d.C K
      | _ => false))
    | _, _ => false)
  | _ => false) && ((PySem.W.clsIn K (d.C K)).isSome && (decide (PySem.W.mroIn K (d.C K) (.ref (d.C K)) = some true) && (He.eqO (PySem.W.nsIn K mainGlobals "super") (some none) &&
  (He.eqO (PySem.W.ks_superIn K (d.C K) (d.C K) "__init__") (some (some (.builtin "ValueError.__init__"))) && (He.eqO (PySem.W.nsIn K cStatics "thirdparty.any") (some none) &&
  (decide (PySem.W.subIn K (.ref (d.C K)) (.type "ValueError") = some true) && (PySem.W.excInitIn K (d.C K) veTl "ValueError.__new__" && (oexB K (d.C K) &&
  ((match d.fld with
    | some f => He.eqO (PySem.W.findIn K (.ref (d.C K)) f) (some none)
    | none => true) && (He.eqO (PySem.W.findIn K (.ref (d.C K)) "__init__") (some (some (.ref (d.f K)))) && (decide (PySem.W.typeIn K (.ref (d.f K)) = some (.type "function")) &&
  (He.eqO (PySem.W.nsIn K mainGlobals d.cls) (some (some (.ref (d.C K)))) && xfB K (d.C K)))))))))))))
section
variable {P : Program} {w : World} {K : PySem.W.Frag} {mg : Str → Option Value} {base : Heap}
structure XOk (P : Program) (K : PySem.W.Frag) (mg : Str → Option Value) (d : XD) (fd : FuncData) : Prop where
  ec : ExC P K mg (d.C K) (d.f K) fd d.name d.qual d.params d.body d.scope
  ini : PySem.W.findIn K (.ref (d.C K)) "__init__" = some (some (.ref (d.f K)))
  typ : PySem.W.typeIn K (.ref (d.f K)) = some (.type "function")
  glo : mg d.cls = some (.ref (d.C K))
  fld : ∀ f, d.fld = some f → PySem.W.findIn K (.ref (d.C K)) f = some none
  dfl : ∃ (kV doc pm cdv ct : Value) (an : Option Addr) (cc : Addr), fd = PySem.W.ksFn d.name d.qual d.params d.body d.scope .none kV doc pm an cdv ct cc
  xf : XfC K (d.C K)
theorem xok_of {d : XD} (X : K.In base) (G : base.Ns mainGlobals mg) (hfile : (P.main.file == d.file) = true) (htop : (P.main.scope.names.lookup ("super" : Str)).isSome = false) (e : fnX K d = d.val) (h : d.ok K = true) : ∃ fd, XOk P K mg d fd := by
  unfold XD.ok at h
  simp only [Bool.and_eq_true] at h
  obtain ⟨h1, h2, h3, h4, h5, h6, h7, h8, h9, h10, h11, h12, h13, h14⟩ := h
  unfold fnX at e
  split at h1
  · rename_i oc od fd osl lk
    rw [lk] at e
    simp only [Bool.and_eq_true] at h1
    obtain ⟨hdf, h1⟩ := h1
    split at h1
    · rename_i cda nmc cc hcode hclo
      simp only [Bool.and_eq_true] at h1
      obtain ⟨c1, c2, c3⟩ := h1
      split at c2
      · rename_i ccl cdd vs ccs lk2
        split at c2
        · rename_i fl tf hv
          split at c3
          · rename_i cl cld C' csl lk3
            obtain ⟨n1, n2, n3, n4, n5, n6, n7, n8, n9, n10, n11, n12, n13, n14, n15⟩ := fd
            simp only at hcode hclo hdf
            subst hclo hcode
            simp only [XD.val, Option.some.injEq, Prod.mk.injEq, List.map_cons, List.map_nil, List.cons.injEq, and_true] at e
            obtain ⟨rfl, rfl, rfl, rfl, rfl, rfl, rfl, rfl⟩ := e
            obtain ⟨cdD, hD⟩ := Option.isSome_iff_exists.mp h2
            have eC : C' = d.C K := beq_iff_eq.mp c3
            subst eC
            have ef : d.file = fl := beq_iff_eq.mp c2
            have en : n8 = .none := by cases n8 <;> first | rfl | cases hdf
            subst en
            refine ⟨_, ⟨⟨oc, n14, od, n12, .none, n9, n10, n11, cda, cc, osl, ccl, cl, cdd, cld, vs, ccs, csl, fl, tf, cdD, rfl, lk, c1, lk2, hv, by rw [← ef]; exact hfile, lk3, hD⟩, htop, of_decide_eq_true h3, PySem.W.mg_none_of X G (He.eqO_ok h4), He.eqO_ok h5, He.eqO_ok h6, of_decide_eq_true h7, h8, oexB_ok h9⟩,
              He.eqO_ok h11, of_decide_eq_true h12, PySem.W.mg_of X G (He.eqO_ok h13), fun f hf => ?_, ⟨n9, n10, n11, _, n14, n12, cc, rfl⟩, xfB_ok h14⟩
            rw [hf] at h10
            exact He.eqO_ok h10
          · cases c3
        · cases c2
      · cases c2
    · cases h1
  · cases h1
theorem gex_of {d : XD} {fd : FuncData} {fld txt slf prm : Str} {p0 p1 p2 p3 p4 p5 p6 p7 p8 p9 : Pos} {jk : Nat} {ar : Arg} {pl : Env → Sem Bool} (x : XOk P K mg d fd) (hf : d.fld = some fld)
    (hbody : d.body = [.Expr (.Call (.Attribute (.Call (.Name "super" p0) [] [] p1) "__init__" p2) [.Constant (.str txt) jk p3] [] p4) p5, .Assign [.Attribute (.Name slf p6) fld p7] (.Name prm p8) p9])
    (hp : (d.params.posonlyargs ++ d.params.args).head? = some ar) (har : ar.arg = slf) (hne : slf ≠ prm)
    (hks : d.scope.names.lookup ("super" : Str) = some .globalImplicit) (hkc : d.scope.names.lookup ("__class__" : Str) = some .free) (hsl : d.scope.names.lookup slf = some .local) (hpr : d.scope.names.lookup prm = some .local) (hk : d.scope.kind = .function)
    (hcell : ∀ x ∈ d.scope.names, x.2 ≠ .cell) (hco : d.scope.isCoroutine = false) (hgen : d.scope.isGenerator = false) (hd1 : (slf == ("__debug__" : Str)) = false) (hd2 : (prm == ("__debug__" : Str)) = false)
    (hs : ∀ env, swapsWith (.Name prm p8) (some (.Attribute (.Name slf p6) fld p7)) p9.line env = pure false)
    (he : ∀ env : Env, eval (.Call (.Attribute (.Call (.Name "super" p0) [] [] p1) "__init__" p2) [.Constant (.str txt) jk p3] [] p4) env = (do
      let ov ← attributeBase (.Call (.Name "super" p0) [] [] p1) "__init__" env (eval (.Call (.Name "super" p0) [] [] p1) env)
      standAt p2.atName
      let (f, first) ← holding [ov] (getMethod ov "__init__" (pl env))
      callWith p4 f first (backTo p4 (starEach [.Constant (.str txt) jk p3] env)) []))
    (hbi : ∀ (kV doc pm cdv ct : Value) (an : Option Addr) (cc : Addr) (us : List Value), us.length = 2 → bindArgs (PySem.W.ksFn d.name d.qual d.params d.body d.scope .none kV doc pm an cdv ct cc) ⟨us, []⟩ = pure ([slf, prm].zip us)) :
    GEx P w K mg base d.cls (d.C K) fld := by
  have ec := x.ec
  obtain ⟨kV, doc, pm, cdv, ct, an, cc, efd⟩ := x.dfl
  subst efd
  rw [hbody] at ec
  have ok := exI_ok (w := w) (base := base) ec (x.fld _ hf) hp har hne hks hkc hsl hpr hk hcell hco hgen hd1 hd2 hs he
  rw [← hbody] at ok
  exact ⟨_, _, _, ok, x.ini, x.typ, .all (hbi kV doc pm cdv ct an cc), ec.oex, x.glo⟩
end
/-! the Hook -/
def tellX (ts : Ts) (fn : List He.DefD) (xs : List XD) (K : PySem.W.Frag) : Bool × List He.FnW := ((ts.all fun t => t K) && ((fn.all fun d => d.ok K) && xs.all fun d => d.ok K), (fn.map fun d => He.fnW K d.at_) ++ xs.map fun d => fnX K d)
def toldX (fn : List He.DefD) (xs : List XD) : Bool × List He.FnW := (true, fn.map He.DefD.val ++ xs.map XD.val)
def lookX (n : Nat) (ts : Ts) (fn : List He.DefD) (xs : List XD) (g : Addr → Option Obj) : Bool × List He.FnW := tellX ts fn xs (He.frG g (cStatics :: He.asD g n))
def hookX (n : Nat) (ts : Ts) (fn : List He.DefD) (xs : List XD) : PySem.W.Hook where
  α := Bool × List He.FnW
  obs := fun s => lookX n ts fn xs s.heap.get?
  val := fun _ => toldX fn xs
  says := fun _ h => ∃ K : PySem.W.Frag, K.In h ∧ tellX ts fn xs K = toldX fn xs
  of := fun _ _ e => ⟨_, He.frG_in, e⟩
  keeps := fun _ _ _ h k => h.elim fun K h => ⟨K, PySem.W.Frag.In.keeps h.1 k, h.2⟩
theorem lookX_eq {n : Nat} {ts : Ts} {fn : List He.DefD} {xs : List XD} {g : Addr → Option Obj} {s : Shared} (h : ∀ a, g a = s.heap.get? a) : lookX n ts fn xs g = (hookX n ts fn xs).obs s :=
  (congrArg (lookX n ts fn xs) (funext h)).trans rfl
section
variable {ts : Ts} {fn : List He.DefD} {xs : List XD} {K : PySem.W.Frag}
theorem toldX_1 (c : tellX ts fn xs K = toldX fn xs) : (ts.all fun t => t K) = true ∧ (fn.all fun d => d.ok K) = true ∧ (xs.all fun d => d.ok K) = true := by
  have c1 : ((ts.all fun t => t K) && ((fn.all fun d => d.ok K) && xs.all fun d => d.ok K)) = true := congrArg (fun z => z.1) c
  rw [Bool.and_eq_true, Bool.and_eq_true] at c1
  exact c1
theorem toldX_2 (c : tellX ts fn xs K = toldX fn xs) : (fn.map fun d => He.fnW K d.at_) = fn.map He.DefD.val ∧ (xs.map fun d => fnX K d) = xs.map XD.val := by
  have e : (fn.map fun d => He.fnW K d.at_) ++ (xs.map fun d => fnX K d) = fn.map He.DefD.val ++ xs.map XD.val := congrArg (fun z => z.2) c
  exact List.append_inj e (by simp)
theorem factX (c : tellX ts fn xs K = toldX fn xs) (i : Nat) {t : PySem.W.Frag → Bool} (h : ts[i]? = some t) : t K = true :=
  List.all_eq_true.mp (toldX_1 c).1 t (List.mem_of_getElem? h)
theorem defX (c : tellX ts fn xs K = toldX fn xs) (i : Nat) {d : He.DefD} (h : fn[i]? = some d) : ∃ fd, FunD K d.name d.qual d.params d.body d.scope (d.dvs K) (d.kws K) (He.fAd K d.at_) fd := by
  have e2 : (fn.map fun d => He.fnW K d.at_)[i]? = (fn.map He.DefD.val)[i]? := congrArg (fun l => l[i]?) (toldX_2 c).1
  rw [List.getElem?_map, List.getElem?_map, h] at e2
  exact He.DefD.funD (Option.some.inj e2) (List.all_eq_true.mp (toldX_1 c).2.1 d (List.mem_of_getElem? h))
theorem excX {P : Program} {mg : Str → Option Value} {base : Heap} (c : tellX ts fn xs K = toldX fn xs) (i : Nat) {d : XD} (h : xs[i]? = some d) (X : K.In base) (G : base.Ns mainGlobals mg) (hfile : (P.main.file == d.file) = true) (htop : (P.main.scope.names.lookup ("super" : Str)).isSome = false) : ∃ fd, XOk P K mg d fd := by
  have e2 : (xs.map fun d => fnX K d)[i]? = (xs.map XD.val)[i]? := congrArg (fun l => l[i]?) (toldX_2 c).2
  rw [List.getElem?_map, List.getElem?_map, h] at e2
  exact xok_of X G hfile htop (Option.some.inj e2) (List.all_eq_true.mp (toldX_1 c).2.2 d (List.mem_of_getElem? h))
end
/-- which raised class which clause takes -/
def tExm (tb : List (Str × Str)) (K : PySem.W.Frag) : Bool := tb.all fun q => He.eqO (PySem.W.nsIn K mainGlobals q.1) (some (some (.ref (He.ga K q.1)))) && (He.eqO (PySem.W.nsIn K mainGlobals q.2) (some (some (.ref (He.ga K q.2)))) && decide (PySem.W.exmOne K (.ref (He.ga K q.1)) (.ref (He.ga K q.2)) = some (decide (q.1 = q.2))))
theorem tExm_ok {tb : List (Str × Str)} {K : PySem.W.Frag} {mg : Str → Option Value} {h : Heap} (X : K.In h) (G : h.Ns mainGlobals mg) (c : tExm tb K = true) : TbOk K mg tb := fun x k hm => by
  have z := List.all_eq_true.mp c (x, k) hm
  rw [Bool.and_eq_true, Bool.and_eq_true] at z
  exact ⟨_, _, PySem.W.mg_of X G (He.eqO_ok z.1), PySem.W.mg_of X G (He.eqO_ok z.2.1), of_decide_eq_true z.2.2⟩
/-- the law's end -/
theorem end_ofX {l : PySem.W.OpenLaw} {n k : Nat} {q : Program} {loose : List Str} {XP : (Str → Option Value) → Heap → Prop} {d : DefRec} {x : Str} {m : Nat} {ts : Ts} {fn : List He.DefD} {xs : List XD}
    (hn : l.most = some n) (hn2 : n ≤ sizeLine) (hdf : d.params.defaults = []) (hr : Room k callerA)
    (Fl : ∀ (w : World) (mg : Str → Option Value) (fa : Addr) (K : PySem.W.Frag) (h : Heap), K.In h → tellX ts fn xs K = toldX fn xs → h.Ns mainGlobals mg → mg d.name = some (.ref fa) →
      tNoList K = true ∧ ∃ (fd : FuncData) (g : List D → R D), (∀ (s : Shared) (u : Value), BindsTo s fd ⟨[u], []⟩ [(x, u)]) ∧
        (∀ ns : List Int, ns.length ≤ n → (∀ z ∈ ns, Builtin.Int.intBits z ≤ 1048576) → g [.scr ns] = .ok (.bl true)) ∧
        ∀ base : Heap, K.In base → base.Ns mainGlobals mg → FnOk l.prog w K mg base (L2.CX l.prog w) k fa fd [x] (spD mg 1 g)) :
    PySem.W.WalkO q loose XP (hookX m ts fn xs).says l.row.toRowW d [] (fun f vs => PySem.call f vs) :=
  Att.attach_callB hn hdf fun w s0 s1 mg mb fa o pm cd doc a vs ns G Y ho hd hcd hmg hobj hints hlen hbits hg => by
    obtain ⟨K, hK, hT⟩ := Y
    obtain ⟨hL, fd, g, hb, hv, hF⟩ := Fl w mg fa K _ hK hT G.T.g hmg
    refine law_call hK G.T.g G.T.b G.T.builtins G.T.nolimit hg hobj hints (Nat.le_trans hlen hn2) hr hF hb (fun H _ hS => ?_) fun H e s' z => ?_
    · have hp : PostD mg (fun _ => False) (g [.scr ns]) H (fun v _ => v = .bl true) fun _ _ _ => False := by
        rw [hv ns hlen hbits]
        exact fun v H' _ h => h
      exact ⟨rfl, [.scr ns], fun _ => False, ⟨_, _, rfl, ⟨a, rfl, fun z => z, noList hL hS⟩, rfl⟩, fun a z => z.elim, hp⟩
    · obtain ⟨_, _, _, _, _, _, _, _, _, _, _, _, z⟩ := z
      exact z.elim
end DS
set_option Elab.async false
set_option linter.all false
set_option maxRecDepth 100000
set_option maxHeartbeats 2000000
namespace DS
open PySem L2 PyProof.Rows
variable {F : Fr} {X : Cx} {W : WX} {a b c e : Expr} {fa fb fc : EF} {pos : Pos} {st : Stmt} {sts : List Stmt} {f g : SF} {tt : TF} {es : List Expr} {fs : List EF}
/-! ### x op= y, both instances of one class without the in-place method -/
def tInp (x : Str) (nm : String) (K : PySem.W.Frag) : Bool := (match PySem.W.clsIn K (He.ga K x) with
  | some cd => cd.mro == [.ref (He.ga K x), .type "object"]
  | none => false) && (He.eqO (PySem.W.findIn K (.ref (He.ga K x)) (PySem.dunderI nm)) (some none) && He.eqO (PySem.W.findIn K (.type "object") (PySem.dunderI nm)) (some none))
structure Inp (K : PySem.W.Frag) (C : Addr) (nm : String) : Prop where
  cls : ∃ cd, PySem.W.clsIn K C = some cd ∧ cd.mro = [.ref C, .type "object"]
  c : PySem.W.findIn K (.ref C) (PySem.dunderI nm) = some none
  o : PySem.W.findIn K (.type "object") (PySem.dunderI nm) = some none
theorem tInp_ok {x : Str} {nm : String} {K : PySem.W.Frag} (h : tInp x nm K = true) : Inp K (He.ga K x) nm := by
  unfold tInp at h
  rw [Bool.and_eq_true, Bool.and_eq_true] at h
  obtain ⟨h1, h2, h3⟩ := h
  refine ⟨?_, He.eqO_ok h2, He.eqO_ok h3⟩
  split at h1
  · rename_i cd hc
    exact ⟨cd, hc, beq_iff_eq.mp h1⟩
  · cases h1
theorem fills_no {K : PySem.W.Frag} {M : Model} {h : Heap} {C : Addr} {nm : String} {add : Bool} (X : K.In h) (J : Inp K C nm) : PySem.W.Looks M h (fillsInplaceSlot (.ref C) nm add) false := by
  intro A Q E s k q
  obtain ⟨cd, hc, hm⟩ := J.cls
  unfold fillsInplaceSlot
  refine wpAny_bind ((PySem.W.looks_clsIn X hc).andThen (f := fun cd => pure cd.mro) .now A _ E s k ?_)
  rw [hm, List.anyM_cons]
  refine wpAny_bind (wpAny_bind (PySem.W.looks_findIn X J.c A _ E s k ?_))
  refine wpAny_pure ?_
  rw [if_neg Bool.false_ne_true, List.anyM_cons]
  refine wpAny_bind (wpAny_bind (PySem.W.looks_findIn X J.o A _ E s k ?_))
  refine wpAny_pure ?_
  rw [if_neg Bool.false_ne_true, List.anyM_nil]
  exact wpAny_pure q
theorem inplace_own {prog : Program} {w : World} {A : Around} {E : Value → Shared → Prop} {s : Shared} {K : PySem.W.Frag} {x C L f : Addr} {h0 : Heap} {m : Str → Option Value} {ox : Obj} {od : Option Obj} {op : Operator} {b : Value} {Q : Value → Shared → Prop}
    (F : PyProof.Rows.Fr h0 L s.heap m) (X0 : K.In h0) (I : PySem.W.InstAt s.heap x ox C od) (hb : PySem.W.Looks (model prog w) s.heap (typeOf b) (.ref C)) (hc : PySem.W.selfFirst K C = true) (J : Inp K C op.info.2)
    (hs : PySem.W.findIn K (.ref C) (PySem.dunder op.info.2) = some (some (.ref f))) (hf : PySem.W.isFn K (.ref f) = true)
    (h : wpAny (model prog w) A (call (.ref f) [.ref x, b]) (PySem.W.CmpBack Q) E s) : wpAny (model prog w) A (inplaceOp op (.ref x) b) Q E s := by
  have X := X0.keeps F.keep
  obtain ⟨cd, hcd, hm⟩ := J.cls
  unfold inplaceOp
  refine wpAny_holding (wpAny_bind (I.type.here (wpAny_bind ((fills_no X J).here ?_))))
  rw [if_neg Bool.false_ne_true]
  refine wpAny_bind ?_
  unfold binaryOp1
  refine wpAny_bind (I.type.here (wpAny_bind (hb.here (wpAny_bind ((PySem.W.fills_K X hcd hm hs).here ?_)))))
  simp only [beq_self_eq_true, if_true]
  refine wpAny_bind (wpAny_pure ?_)
  simp only [Bool.and_false, Bool.false_eq_true, if_false, Bool.false_and]
  refine wpAny_bind (wpAny_pure ?_)
  simp only [Bool.false_eq_true, if_false]
  refine wpAny_bind (m := tryMethod (.ref x) _ b) ?_
  unfold tryMethod
  refine wpAny_bind (PySem.W.special_fn X I hs (beq_iff_eq.mp hf) (wpAny_mono h (fun v s' hv => ?_) fun _ _ e => e))
  cases v <;> first | exact hv.elim | exact wpAny_pure (wpAny_pure (wpAny_pure hv))
/-- i op= e -/
def sAugI (C : Addr) (g : List D → R D) (i : Nat) (f : EF) : SF := fun s => match s[i]? with
  | some (.sh d) => (match f s with
    | .ok e => (match opSp22 C g d e with
      | .ok r => .nx (s.set i (.sh r))
      | .ex c fs => .ex c fs s
      | .no => .no)
    | .ex c fs => .ex c fs s
    | .no => .no)
  | _ => .no
theorem ds_augI {o : Operator} {C : Addr} {k k' : Nat} {gf : List D → R D} (i : Nat) {x : Str} {pos' : Pos} (G : GSp X.prog X.w X.K X.mg X.base k (PySem.dunder o.info.2) C 2 gf) (hc : PySem.W.selfFirst X.K C = true) (J : Inp X.K C o.info.2) (hr : Room k' X.A) (tk : Takes X W) (h : DE F X W e fa) (hN : X.N.Nodup) (hi : X.N[i]? = some x) (hx : Loc X.env.scope x) (hkk : k ≤ k' := by decide)
    (hf : X.fn x = true ∨ X.env.scope.names.lookup x = some .local := by first | exact .inl rfl | exact .inr rfl | assumption) : DX1 F X W (.AugAssign (.Name x pos') o e pos) (sAugI C gf i fa) := by
  obtain ⟨f, fd, ps, G, hfi, hfn, hfi2, hb2⟩ := G
  refine ⟨⟨fun pins s σ H T I ⟨sd, rel, p⟩ => ?_⟩⟩
  unfold sAugI at p
  cases qi : sd[i]? with
  | none => rw [qi] at p; exact p.elim
  | some t =>
    rw [qi] at p
    obtain ⟨v0, ev, hh⟩ := rel.slot i t qi
    cases t with
    | sh d =>
      dsimp only at p
      obtain ⟨x0, rfl, hd⟩ := hh
      obtain ⟨m, hn, hl⟩ := I.loc
      have vis : Vis X.env.scope x := hx.elim .inl fun k => .inr (.inl k)
      obtain ⟨u, r, l⟩ := hl i x x0 hi ev vis
      refine wpAny_AugAssign_Name ?_
      have go : wpAny (model X.prog X.w) X.A (eval e X.env) (fun w s2 => wpAny (model X.prog X.w) X.A (inplaceOp o u w) (fun r s3 => wpAny (model X.prog X.w) X.A (storeName X.env x r) (fun _ => SP X pins T .next) X.xe s3) X.xe s2) X.xe s := by
        refine thn (h.pe.run pins s σ H (fun y H1 => ∃ a dx ws b dy wt, x0 = .ref a ∧ y = .ref b ∧ H1 a = some (.ins C dx ws) ∧ H1 b = some (.ins C dy wt) ∧ spD X.mg 2 gf [x0, y] H1 (fun z H2 => T.nx (σ.set i (some z)) H2) (WE W σ)) I ⟨sd, rel, ?_⟩) fun w s1 ⟨y, H1, I1, r1, q1⟩ => ?_
        · cases q : fa sd with
          | no => rw [q] at p; exact p
          | ex c fs => rw [q] at p; exact post_ex (bb := false) rel p
          | ok e2 =>
            rw [q] at p
            dsimp only at p
            intro y H1 s1 hy
            have hy : Holds H1 (Av F σ sd) e2 y := hy
            have hd1 := hd.same s1
            have r1 := rel.mono s1
            unfold opSp22 at p
            split at p
            · rename_i zz hz
              cases d with
              | ins C1 fs1 =>
                cases e2 with
                | ins C2 fs2 =>
                  dsimp only at hz
                  by_cases hC : C1 = C ∧ C2 = C
                  · rw [if_pos hC] at hz
                    obtain ⟨rfl, rfl⟩ := hC
                    have h1c := hd1
                    have h2c := hy
                    obtain ⟨a1, dx, ws, rfl, na, ra, la⟩ := hd1
                    obtain ⟨a2, dy, wt, rfl, na2, ra2, la2⟩ := hy
                    refine ⟨a1, dx, ws, a2, dy, wt, rfl, rfl, ra, ra2, rfl, [_, _], Av F σ sd, ⟨_, _, rfl, h1c, _, _, rfl, h2c, rfl⟩, fun a z => r1.dom z, ?_⟩
                    rw [hz]
                    exact fun z H2 s2 hz => p _ H2 ((r1.mono s2).set i hz) (ExtS.same (s1.trans s2) fun a z => own_set rfl rel.len z)
                  · rw [if_neg hC] at hz; cases hz
                | _ => cases hz
              | _ => cases hz
            · rename_i c fs hz
              cases d with
              | ins C1 fs1 =>
                cases e2 with
                | ins C2 fs2 =>
                  dsimp only at hz
                  by_cases hC : C1 = C ∧ C2 = C
                  · rw [if_pos hC] at hz
                    obtain ⟨rfl, rfl⟩ := hC
                    have h1c := hd1
                    have h2c := hy
                    obtain ⟨a1, dx, ws, rfl, na, ra, la⟩ := hd1
                    obtain ⟨a2, dy, wt, rfl, na2, ra2, la2⟩ := hy
                    refine ⟨a1, dx, ws, a2, dy, wt, rfl, rfl, ra, ra2, rfl, [_, _], Av F σ sd, ⟨_, _, rfl, h1c, _, _, rfl, h2c, rfl⟩, fun a z => r1.dom z, ?_⟩
                    rw [hz]
                    exact fun cls da H2 s2 xr => post_ex (bb := false) (Q := fun _ _ => True) rel p cls da H2 (s1.trans s2) xr
                  · rw [if_neg hC] at hz; cases hz
                | _ => cases hz
              | _ => cases hz
            · exact p.elim
        · obtain ⟨a1, dx, ws, b1, dy, wt, rfl, rfl, ra, ra2, q⟩ := q1
          cases (show u = Value.ref a1 from r)
          cases (show w = Value.ref b1 from r1)
          obtain ⟨od, J1⟩ := ins_inst I1 ra
          obtain ⟨od2, J2⟩ := ins_inst I1 ra2
          obtain ⟨m1, hF⟩ := I1.fr
          refine wpAny_mono (inplace_own (f := f) (Q := EP X pins σ fun z H2 => T.nx (σ.set i (some z)) H2) hF I1.ok.mod.kin J1 J2.type hc J hfi hfn ?_) (fun z s2 ⟨zv, H2, I2, r2, q2⟩ => store_ok I2 hN hi hx r2 (fun s3 I3 => ⟨_, H2, I3, q2⟩) hf) fun _ _ x => x
          refine wpAny_mono (run_fnS (E := WE W) (us := [.ref a1, .ref b1]) (vs := [.ref a1, .ref b1]) G (hr.mono hkk) hb2 (passAt tk σ) I1 (.cons rfl (.cons rfl .nil)) q) (fun w s' z => ?_) fun _ _ x => x
          obtain ⟨z', H', I', rz, qz⟩ := z
          exact SlX.cmpback rz ⟨z', H', I', rz, qz⟩
      rcases l with ⟨hk, hm⟩ | ⟨hk, c, hc2, hcell⟩
      · exact wpAny_loadName_local I.ok.kind hk hn hm go
      · rcases hk with hk | hk
        · exact wpAny_loadName_cell I.ok.kind hk hc2 hcell go
        · rcases hx with k | k
          · have z : X.env.scope.names.lookup x = some .free := hk
            rw [k] at z; cases z
          · have z : X.env.scope.names.lookup x = some .free := hk
            rw [k] at z; cases z
    | _ => exact p.elim
end DS
set_option Elab.async false
set_option linter.all false
set_option maxRecDepth 100000
set_option maxHeartbeats 2000000
namespace DS
open PySem L2 PyProof.Rows
/-- x op k, x an instance, k a whole number -/
def tBinT (x : Str) (o : Operator) (K : PySem.W.Frag) : Bool := PySem.W.selfFirst K (He.ga K x) && (He.eqO (PySem.W.findIn K (.ref (He.ga K x)) (PySem.dunderR o.info.2)) (some none) && ((PySem.W.findIn K (.type "int") (PySem.dunder o.info.2)).isSome && ((PySem.W.findIn K (.type "int") (PySem.dunderR o.info.2)).isSome &&
  decide (PySem.W.subIn K (.type "int") (.ref (He.ga K x)) = some false))))
theorem tBinT_ok {x : Str} {o : Operator} {K : PySem.W.Frag} (h : tBinT x o K = true) : BinT K (He.ga K x) o "int" := by
  unfold tBinT at h
  simp only [Bool.and_eq_true] at h
  obtain ⟨h1, h2, h3, h4, h5⟩ := h
  exact ⟨h1, He.eqO_ok h2, Option.isSome_iff_exists.mp h3, Option.isSome_iff_exists.mp h4, of_decide_eq_true h5⟩

/-! ### new lists by operators -/
variable {F : Fr} {X : Cx} {W : WX} {a b c e : Expr} {fa fb fc : EF} {pos : Pos}
theorem tn2 {b1 b2 : Bool} {op : D → D → R ND} {mg : Str → Option Value} {σ : L2.St} {H : Hp} {Q : VK} {r : V → V → Hp → Prop} {sd : SD} (rel : Rel F σ H sd)
    (p : PostN mg W F σ sd ((fa sd).bind fun x => (fb sd).bind fun y => op x y) H Q)
    (hr : ∀ (d e : D), fa sd = .ok d → fb sd = .ok e → ∀ (v w : V) (H2 : Hp), Rel F σ H2 sd → (if b1 = true then HoldsB H2 (Av F σ sd) d v else Holds H2 (Av F σ sd) d v) → (if b2 = true then HoldsB H2 (Av F σ sd) e w else Holds H2 (Av F σ sd) e w) → PostN mg W F σ sd (op d e) H2 Q → r v w H2) :
    TEx b1 F mg W fa σ H fun v H1 => TEx b2 F mg W fb σ H1 (r v) := by
  refine ⟨sd, rel, ?_⟩
  cases q : fa sd with
  | ok d =>
    rw [q] at p
    intro v H2 s h
    refine ⟨sd, rel.mono s, ?_⟩
    cases q2 : fb sd with
    | ok e =>
      rw [R.bind_ok, q2] at p
      intro w H3 s3 h3
      refine hr d e q q2 v w H3 ((rel.mono s).mono s3) ?_ h3 (PostN.mono (s.trans s3) p)
      by_cases hb : b1 = true
      · rw [if_pos hb] at h ⊢; exact h.same s3
      · rw [if_neg hb] at h ⊢; exact h.same s3
    | ex c fs => rw [R.bind_ok, q2] at p; exact PostN.mono (r := .ex c fs) s p
    | no => rw [R.bind_ok, q2] at p; exact p
  | ex c fs => rw [q] at p; exact p
  | no => rw [q] at p; exact p
def opRepN : D → D → R ND
  | .lst xs, .int k => if k.natAbs < 2 ^ 61 ∧ xs.length * k.toNat ≤ sizeLine then .ok (.nl (List.replicate k.toNat xs).flatten) else .no
  | _, _ => .no
def opCatN : D → D → R ND
  | .lst i, .lst j => if i.length + j.length ≤ sizeLine then .ok (.nl (i ++ j)) else .no
  | _, _ => .no
def nBin (op : D → D → R ND) (fa fb : EF) : NF := fun s => (fa s).bind fun x => (fb s).bind fun y => op x y
theorem dn_rep (ha : DB F X W a fa) (hb : DB F X W b fb) : DN F X W (.BinOp a .Mult b pos) (nBin opRepN fa fb) :=
  ⟨PE.weak (pe_op op_rep ha.pe hb.pe) fun σ H Q ⟨sd, rel, p⟩ => tn2 (b1 := true) (b2 := true) rel p fun d e q1 q2 v w H2 r2 h1 h2 p2 => by
    unfold opRepN at p2
    split at p2
    · obtain ⟨l, vs, rfl, hl, hh⟩ := h1
      cases h2
      split at p2
      · rename_i hc
        exact ⟨l, _, vs, rfl, rfl, hl, by omega, by omega, by rw [hh.length]; exact hc.2, fun q hq => new_nl r2 p2 (holdsL_rep hh _) q hq⟩
      · exact p2.elim
    · exact p2.elim⟩
theorem dn_cat (ha : DB F X W a fa) (hb : DB F X W b fb) : DN F X W (.BinOp a .Add b pos) (nBin opCatN fa fb) :=
  ⟨PE.weak (pe_op op_cat ha.pe hb.pe) fun σ H Q ⟨sd, rel, p⟩ => tn2 (b1 := true) (b2 := true) rel p fun d e q1 q2 v w H2 r2 h1 h2 p2 => by
    unfold opCatN at p2
    split at p2
    · obtain ⟨l, vs, rfl, hl, hh⟩ := h1
      obtain ⟨m, ws, rfl, hm, hk⟩ := h2
      split at p2
      · rename_i hc
        exact ⟨l, m, vs, ws, rfl, rfl, hl, hm, by rw [hh.length, hk.length]; exact hc, fun q hq => new_nl r2 p2 (hh.append hk) q hq⟩
      · exact p2.elim
    · exact p2.elim⟩
end DS
set_option Elab.async false
set_option linter.all false
set_option maxRecDepth 100000
set_option maxHeartbeats 2000000
/-! Defs that return a new list or dict: the caller may change it. -/
namespace DS
open PySem L2 PyProof.Rows
variable {F : Fr} {X : Cx} {W : WX} {a b c e : Expr} {fa fb fc : EF} {pos : Pos} {st : Stmt} {sts : List Stmt} {f g : SF} {tt : TF} {es : List Expr} {fs : List EF}
def sRetN (f : NF) : SF := fun s => match f s with
  | .ok n => .rn n
  | .ex c fs => .ex c fs s
  | .no => .no
theorem slok_less {F' : Fr} {H : Hp} {A A' : Addr → Prop} {v : Option V} : ∀ {n : ND}, (∀ a, A' a → A a) → SlOk F' H A v n.sl → SlOk F' H A' v n.sl
  | .nl ds, k, ⟨a, vs, e, n, r, l⟩ => ⟨a, vs, e, n, r, l.less k⟩
  | .nd ds, k, ⟨a, vs, e, n, r, l⟩ => ⟨a, vs, e, n, r, HoldsK.up (up_own k) _ l⟩
theorem ds_retL {fn : NF} (h : DN F X W e fn) : DX1 F X W (.Return (some e) pos) (sRetN fn) :=
  ⟨PS.weak (ps_ret h.pe) fun T σ H ⟨sd, rel, p⟩ => ⟨sd, rel, by
    unfold sRetN at p
    cases q : fn sd with
    | no => rw [q] at p; exact p
    | ex c fs => rw [q] at p; exact fun cls da H' s h => post_ex (bb := false) (Q := fun _ _ => True) rel p cls da H' s h
    | ok n =>
      rw [q] at p
      intro pa H' s hn hp h
      exact p pa H' (rel.same.trans s) (rel.same.free hn) (fun z => rel.bdom _ z hn) fun F' h0 => slok_less (fun a z => z.imp_left .inl) (h F' h0)⟩⟩
def PostDN (mg : Str → Option Value) (B : Addr → Prop) (r : R ND) (H : Hp) (Q : VK) (E : XK) : Prop := match r with
  | .ok n => ∀ p H', Same H H' → H p = none → ¬ B p → (∀ F' : Fr, F'.H0 p = none → SlOk F' H' (fun a => B a ∨ a = p) (some (.ref p)) n.sl) → Q (.ref p) H'
  | .ex c fs => ∀ cls da H', Same H H' → ExRep mg H' B c fs cls da → E cls da H'
  | .no => False
def spN (mg : Str → Option Value) (n : Nat) (g : List D → R ND) : Sp := fun vs H Q E => vs.length = n ∧ ∃ ds B, HoldsL H B ds vs ∧ (∀ a, B a → H a ≠ none) ∧ PostDN mg B (g ds) H Q E
def retN : SO → R ND
  | .rn n => .ok n
  | .ex c fs _ => .ex c fs
  | _ => .no
def runN (k : Nat) (f : SF) (ds : List D) : R ND := retN (f (ds.map .sh ++ List.replicate k .un))
section
variable {P : Program} {w : World} {K : PySem.W.Frag} {mg : Str → Option Value} {base : Heap}
structure GFnN (P : Program) (w : World) (K : PySem.W.Frag) (mg : Str → Option Value) (base : Heap) (k : Nat) (x : Str) (n : Nat) (g : List D → R ND) : Prop where
  ex : ∃ f fd ps, FnOk P w K mg base (L2.CX P w) k f fd ps (spN mg n g) ∧ mg x = some (.ref f) ∧ PySem.W.keepIn K (.ref f) = true ∧ Binds K fd ps []
structure GMtN (P : Program) (w : World) (K : PySem.W.Frag) (mg : Str → Option Value) (base : Heap) (k : Nat) (m : Str) (C : Addr) (n : Nat) (g : List D → R ND) : Prop where
  ex : ∃ f fd ps, FnOk P w K mg base (L2.CX P w) k f fd ps (spN mg n g) ∧ Cls K C ∧ Meth K C m f ∧ Binds K fd ps []
theorem body_endN {X : Cx} {k : Nat} {f : SF} {ds : List D} {vs : List V} {N : List Str} {H : Hp} {B : Addr → Prop} {Q : VK} {E : XK} (h : HoldsL H B ds vs) (hB : ∀ a, B a → H a ≠ none) (hk : N.length - vs.length = k)
    (p : PostDN mg B (runN k f ds) H Q E) : TSx ⟨H, B, 0⟩ mg (fun cls d _ H' => E cls d H') f { nx := fun _ H' => Q .non H', rt := Q } (L2.start N vs) H := by
  refine ⟨_, start_rel h hB hk, ?_⟩
  unfold runN retN at p
  cases q : f (ds.map .sh ++ List.replicate k .un) with
  | rn n => rw [q] at p; exact p
  | ex c fs s' => rw [q] at p; exact fun cls da σ' H' r _ x => p cls da H' r.same x
  | nx s' => rw [q] at p; exact p.elim
  | rt d => rw [q] at p; exact p.elim
  | bk s' => rw [q] at p; exact p.elim
  | ct s' => rw [q] at p; exact p.elim
  | no => rw [q] at p; exact p
theorem fn_okN {x qual : Str} {st : Stmt} {f : Addr} {fd : FuncData} {N ps : List Str} {k kk n : Nat} {body : SF} (Fn : Fun K x qual st f fd) (S : FnScope N ps (defScope st)) (hn : ps.length = n) (hk : N.length - n = kk)
    (hb : ∀ (F : Fr) (W : WX) (cdv : Value) (A : Around) (outer : List Env) (s : Shared) (H : Hp) (E : XK), Room k (A.deeper (envOfC qual (defScope st) s.heap.objs.size f cdv)) →
      Takes (cxOf (L2.CX P w) P w K mg base N qual (defScope st) f cdv A outer s H E) W → PassesOwn (model P w) (A.deeper (envOfC qual (defScope st) s.heap.objs.size f cdv)) (envOfC qual (defScope st) s.heap.objs.size f cdv) (cxOf (L2.CX P w) P w K mg base N qual (defScope st) f cdv A outer s H E).xe →
      DXs F (cxOf (L2.CX P w) P w K mg base N qual (defScope st) f cdv A outer s H E) W (defBody st) body) :
    FnOk P w K mg base (L2.CX P w) (k + 1) f fd ps (spN mg n (runN kk body)) := by
  subst hn
  refine Fn.okX S (fun vs H Q E h => h.1) fun cdv A outer s H vs Q E hr h => ?_
  obtain ⟨hl, ds, B, hh, hB, p⟩ := h
  refine ⟨_, (hb ⟨H, B, 0⟩ (fun cls d _ H' => E cls d H') cdv A outer s H E hr (takes_of rfl rfl rfl rfl) (passes_of rfl)).ps, ?_⟩
  exact body_endN (X := cxOf (L2.CX P w) P w K mg base N qual (defScope st) f cdv A outer s H E) hh hB (by rw [hl]; exact hk) p
end
/-- f(..), its result new -/
theorem dn_call {x : Str} {k k' n : Nat} {gf : List D → R ND} {p : Pos} (G : GFnN X.prog X.w X.K X.mg X.base k x n gf) (hr : Room k' X.A) (hg : Gl X x) (tk : Takes X W) (ha : DA false F X W (e :: es) fs) (hfs : fs.length = n := by rfl) (hkk : k ≤ k' := by decide)
    (hdb : (x == ("__debug__" : Str)) = false := by decide) (he : starEach (e :: es) X.env = (false, eval e X.env) :: starEach es X.env := by rfl) (hpl : (backTo pos (starEach es X.env)).any (·.1) = false := by rfl) :
    DN F X W (.Call (.Name x p) (e :: es) [] pos) (nAll gf fs) := by
  obtain ⟨f, fd, ps, G, hm, hk, hb⟩ := G
  refine ⟨PE.weak (pe_callS G (hr.mono hkk) hg hm hk hb (fun σ => passAt tk σ) ha.pa hdb he hpl) fun σ H Q ⟨sd, rel, p⟩ => ?_⟩
  refine ⟨sd, rel, ?_⟩
  unfold nAll at p
  cases q : evalL fs sd with
  | no => rw [q] at p; exact p
  | ex c fs => rw [q] at p; exact p
  | ok ds =>
    rw [q, R.bind_ok] at p
    intro vs H2 s2 hv
    have r2 := rel.mono s2
    refine ⟨by rw [hv.l.length, evalL_length q]; exact hfs, ds, Av F σ sd, hv.l, fun a z => r2.dom z, ?_⟩
    cases q2 : gf ds with
    | no => rw [q2] at p; exact p
    | ex c fs => rw [q2] at p; exact fun cls da H' s x => p cls da H' (s2.trans s) x
    | ok n =>
      rw [q2] at p
      intro pa H' s hn nb h
      refine p pa H' (s2.trans s) (s2.free hn) (fun z => ?_) h
      have h := h ⟨fun _ => none, fun _ => False, 0⟩ rfl
      cases n with
      | nl ds => obtain ⟨a, vs, e, _, r, l⟩ := h; cases e; rw [r] at z; cases z
      | nd ds => obtain ⟨a, vs, e, _, r, l⟩ := h; cases e; rw [r] at z; cases z
end DS
set_option Elab.async false
set_option linter.all false
set_option maxRecDepth 100000
set_option maxHeartbeats 2000000
/-! Exceptions of own classes as values. -/
namespace DS
open PySem L2 PyProof.Rows PySem.Calls
variable {F : Fr} {X : Cx} {W : WX} {a b c e : Expr} {fa fb fc : EF} {pos : Pos} {st : Stmt} {sts : List Stmt} {f g : SF} {tt : TF} {es : List Expr} {fs : List EF}
/-- C(..), C's own __init__ keeping sp: the exception stays -/
def tMkV (C : Addr) (sp : Sp) (ta : TA) : TE := fun σ H Q => ta σ H fun vs H1 => vs.length ≤ 1000 ∧ ∀ a, H1 a = none → sp (.ref a :: vs) (upd H1 a (exo a C none)) (fun v H2 => v = .non ∧ Q (.ref a) H2) (fun _ _ _ => False)
theorem run_mkV {CX : CXT} {C fI : Addr} {k : Nat} {fd : FuncData} {ps : List Str} {sp : Sp} {pins : List (Addr × Obj)} {σ : L2.St} {H1 : Hp} {s1 : Shared} {Q : VK} {us : List Value} {vs : List V} (T : OexC X.K C) (iC : PySem.W.findIn X.K (.ref C) "__init__" = some (some (.ref fI))) (tI : PySem.W.typeIn X.K (.ref fI) = some (.type "function"))
    (F1 : FnOk X.prog X.w X.K X.mg X.base CX k fI fd ps sp) (hr : Room (k + 1) X.A) (hb : Binds X.K fd ps []) (hx : Passes CX X (fun _ _ _ => False)) (I1 : Inv X pins σ H1 s1) (r1 : Vals vs us) (hz : vs.length ≤ 1000)
    (q1 : ∀ a, H1 a = none → sp (.ref a :: vs) (upd H1 a (exo a C none)) (fun v H2 => v = .non ∧ Q (.ref a) H2) (fun _ _ _ => False)) : wpAny (model X.prog X.w) X.A (call (.ref C) us) (EP X pins σ Q) X.xe s1 := by
  obtain ⟨nm, q, N, bs, bm, sn, sub, ab, col, dd, k0, k1, k2, k3, k5, hC, hbm⟩ := T.cls
  obtain ⟨hp, g, dr, tk, os⟩ := s1
  have hsz : hp.objs.size ≤ hp.objs.size + 1 := Nat.le_succ _
  have hn : H1 (hp.objs.size + 1) = none := I1.hok.fresh hsz
  have hq := q1 (hp.objs.size + 1) hn
  have kk : ∀ b o, hp.get? b = some o → ((hp.push (PySem.W.kdv_tup us)).push (PySem.HandSPX.excO C hp.objs.size)).get? b = some o := fun b o e => Heap.get?_push_of_some _ (Heap.get?_push_of_some _ e)
  have hget : ((hp.push (PySem.W.kdv_tup us)).push (PySem.HandSPX.excO C hp.objs.size)).get? (hp.objs.size + 1) = some (PySem.HandSPX.excO C hp.objs.size) := by heap_get
  have I2 : Inv X pins σ (upd H1 (hp.objs.size + 1) (exo (hp.objs.size + 1) C none)) ⟨(hp.push (PySem.W.kdv_tup us)).push (PySem.HandSPX.excO C hp.objs.size), g, dr, tk, os⟩ :=
    I1.laid (t' := tk) (a := hp.objs.size + 1) (o := exo (hp.objs.size + 1) C none) (h' := (hp.push (PySem.W.kdv_tup us)).push (PySem.HandSPX.excO C hp.objs.size)) kk hsz (exo_ok hget)
  have r2 : Vals (V.ref (hp.objs.size + 1) :: vs) (Value.ref (hp.objs.size + 1) :: us) := .cons rfl r1
  have hl : (Value.ref (hp.objs.size + 1) :: us).length = ps.length := by
    have e := r2.length
    rw [F1.len _ _ _ _ hq] at e
    exact e.symm
  have hus : us.length ≤ sizeLine := by
    rw [← Paired.length r1, sizeLine_eq]
    omega
  have b := hb { heap := (hp.push (PySem.W.kdv_tup us)).push (PySem.HandSPX.excO C hp.objs.size), gens := g, drawn := dr, toks := tk, os := os } (Value.ref (hp.objs.size + 1) :: us) I2.kIn (by rw [List.append_nil]; exact hl)
  rw [List.append_nil] at b
  refine wpAny_call (PySem.HandSPX.call_own PySem.F.excBase_ValueError (fun Y => PySem.HandSPX.refsVE_contains Y bm hbm) (I1.kIn _ _ hC) (PySem.W.looks_findIn I1.kIn iC) (fun self => PySem.W.bind_fn I1.kIn self tI) hus
    (codeAny_mono (F1.run _ X.stack _ _ ⟨Value.ref (hp.objs.size + 1) :: us, []⟩ (Value.ref (hp.objs.size + 1) :: us) _ _ (fun _ _ _ => False) (hr.make C us []) (I2.env0.make C us []) b r2 hq) fun r s' hq' => ?_))
  cases r with
  | error er => exact hx pins σ _ _ er s' I2 hq'
  | ok fl =>
    cases fl with
    | ret u =>
      obtain ⟨v, H2, I3, rv, ev, q2⟩ := I2.after hq'
      subst ev
      exact ⟨rv, V.ref (hp.objs.size + 1), H2, I3, rfl, q2⟩
    | next => exact False.elim hq'
    | brk => exact False.elim hq'
    | cont => exact False.elim hq'
theorem pe_mkV {CX : CXT} {x : Str} {C fI : Addr} {k : Nat} {fd : FuncData} {ps : List Str} {sp : Sp} {p : Pos} {ta : TA} (T : OexC X.K C) (iC : PySem.W.findIn X.K (.ref C) "__init__" = some (some (.ref fI))) (tI : PySem.W.typeIn X.K (.ref fI) = some (.type "function"))
    (F1 : FnOk X.prog X.w X.K X.mg X.base CX k fI fd ps sp) (hr : Room (k + 1) X.A) (hb : Binds X.K fd ps []) (hx : Passes CX X (fun _ _ _ => False)) (hg : Gl X x) (hm : X.mg x = some (.ref C)) (ha : PA X (e :: es) ta)
    (hdb : (x == ("__debug__" : Str)) = false := by decide) (he : starEach (e :: es) X.env = (false, eval e X.env) :: starEach es X.env := by rfl) (hpl : (backTo pos (starEach es X.env)).any (·.1) = false := by rfl) :
    PE X (.Call (.Name x p) (e :: es) [] pos) (tMkV C sp ta) := by
  refine ⟨fun pins s σ H Q I h => ?_⟩
  refine wpAny_Call_Name_kw (ld_glob I hg hm ?_ hdb)
  refine PySem.W.callWith_K (h₀ := X.base) I.ok.mod.kin T.kC (thn (ha.run pos pins s σ H _ I h) fun us s1 ⟨vs, H1, I1, r1, hz, q1⟩ => ⟨I1.kIn, ?_⟩) he hpl
  exact run_mkV T iC tI F1 hr hb hx I1 r1 hz q1
theorem pe_mkV0 {CX : CXT} {x : Str} {C fI : Addr} {k : Nat} {fd : FuncData} {ps : List Str} {sp : Sp} {p : Pos} (T : OexC X.K C) (iC : PySem.W.findIn X.K (.ref C) "__init__" = some (some (.ref fI))) (tI : PySem.W.typeIn X.K (.ref fI) = some (.type "function"))
    (F1 : FnOk X.prog X.w X.K X.mg X.base CX k fI fd ps sp) (hr : Room (k + 1) X.A) (hb : Binds X.K fd ps []) (hx : Passes CX X (fun _ _ _ => False)) (hg : Gl X x) (hm : X.mg x = some (.ref C))
    (hdb : (x == ("__debug__" : Str)) = false := by decide) : PE X (.Call (.Name x p) [] [] pos) (tMkV C sp tNil) := by
  refine ⟨fun pins s σ H Q I h => ?_⟩
  refine wpAny_Call_Name_kw (ld_glob I hg hm ?_ hdb)
  exact PySem.W.callWith_K0 I.kIn T.kC (run_mkV (us := []) (vs := []) T iC tI F1 hr hb hx I .nil h.1 h.2)
def eMkX (x fld : Str) (C : Addr) (f : EF) : EF := fun s => (f s).bind fun d => .ok (.exc x C [(fld, d)])
theorem de_mkX {x fld : Str} {C : Addr} {k : Nat} {p : Pos} (G : GEx X.prog X.w X.K X.mg X.base x C fld) (hr : Room k X.A) (hg : Gl X x) (tk : Takes X W) (h : DE F X W e fa) (hkk : 2 ≤ k := by decide)
    (hdb : (x == ("__debug__" : Str)) = false := by decide) (he : starEach (e :: []) X.env = (false, eval e X.env) :: starEach [] X.env := by rfl) (hpl : (backTo pos (starEach [] X.env)).any (·.1) = false := by rfl) :
    DE F X W (.Call (.Name x p) [e] [] pos) (eMkX x fld C fa) := by
  obtain ⟨f, fd, ps, G, iC, tI, hb, T, hm⟩ := G
  refine ⟨PE.weak (pe_mkV T iC tI G (hr.mono hkk) hb (passes_none tk) hg hm (da_cons h da_nil he).pa hdb he hpl) fun σ H Q ⟨sd, rel, p⟩ => ⟨sd, rel, ?_⟩⟩
  unfold eMkX at p
  simp only [evalL]
  cases q : fa sd with
  | no => rw [q] at p; exact p
  | ex c fs => rw [q] at p; exact p
  | ok d =>
    rw [q] at p
    intro vs H1 s1 hv
    obtain ⟨v, r, rfl, h1, rfl⟩ := hv
    have r1 := rel.mono s1
    refine ⟨by simp, fun a na => ⟨a, v, rfl, upd_same, fun dx nd ne => ⟨rfl, ?_⟩⟩⟩
    have nd1 : H1 dx = none := by rw [upd_ne ne] at nd; exact nd
    have sf : Same H1 (upd (upd (upd H1 a (exo a C none)) dx (exd dx [(fld, v)])) a (exo a C (some dx))) := fun b o hb => by
      have nb : b ≠ a := ne_of_none hb na
      rw [upd_ne nb, upd_ne (ne_of_none hb nd1), upd_ne nb]
      exact hb
    have h1 : Holds H1 (Av F σ sd) d v := h1
    exact p _ _ (s1.trans sf) ⟨a, some dx, [(fld, v)], rfl, fun z => r1.dom z na, upd_same, .inr ⟨dx, rfl, fun z => r1.dom z nd1, by rw [upd_ne ne, upd_same]⟩, v, [], rfl, h1.same sf, rfl⟩
structure GEx0 (P : Program) (w : World) (K : PySem.W.Frag) (mg : Str → Option Value) (base : Heap) (x : Str) (C : Addr) : Prop where
  ex : ∃ f fd ps, FnOk P w K mg base (L2.CX P w) 1 f fd ps (spEx0 C) ∧ PySem.W.findIn K (.ref C) "__init__" = some (some (.ref f)) ∧ PySem.W.typeIn K (.ref f) = some (.type "function") ∧ Binds K fd ps [] ∧ OexC K C ∧ mg x = some (.ref C)
theorem de_mkX0 {x : Str} {C : Addr} {k : Nat} {p : Pos} (G : GEx0 X.prog X.w X.K X.mg X.base x C) (hr : Room k X.A) (hg : Gl X x) (tk : Takes X W) (hkk : 2 ≤ k := by decide) (hdb : (x == ("__debug__" : Str)) = false := by decide) :
    DE F X W (.Call (.Name x p) [] [] pos) (eC (.exc x C [])) := by
  obtain ⟨f, fd, ps, G, iC, tI, hb, T, hm⟩ := G
  refine ⟨PE.weak (pe_mkV0 T iC tI G (hr.mono hkk) hb (passes_none tk) hg hm hdb) fun σ H Q ⟨sd, rel, p⟩ => ?_⟩
  refine ⟨by simp, fun a na => ⟨a, rfl, upd_same, rfl, ?_⟩⟩
  have sf : Same H (upd H a (exo a C none)) := fun b o hb => by rw [upd_ne (ne_of_none hb na)]; exact hb
  exact p _ _ sf ⟨a, none, [], rfl, fun z => rel.dom z na, upd_same, .inl ⟨rfl, rfl⟩, rfl⟩
/-- e.f, e such an exception -/
def opXFld (C : Addr) (f : Str) : D → R D
  | .exc _ C' fs => if C' = C then (match fs.lookup f with
    | some d => .ok d
    | none => .no) else .no
  | _ => .no
theorem pe_xfv {C : Addr} {n : Str} {te : TE} (T : XfC X.K C) (hno : PySem.W.findIn X.K (.ref C) n = some none) (he : PE X e te) (hb : attributeBase e n X.env (eval e X.env) = eval e X.env := by rfl) :
    PE X (.Attribute e n pos) (fun σ H Q => te σ H fun x H1 => ∃ (a dx : Addr) (fs : List (Str × V)) (v : V), x = .ref a ∧ H1 a = some (exo a C (some dx)) ∧ H1 dx = some (exd dx fs) ∧ fs.lookup n = some v ∧ Q v H1) := by
  refine ⟨fun pins s σ H Q I h => ?_⟩
  refine attr_of hb (thn (he.run pins s σ H _ I h) fun u s1 hh => ?_)
  obtain ⟨x, H1, I1, rx, a, dx, fs, v, ex, ea, ed, l, q⟩ := hh
  subst ex
  obtain rfl : u = Value.ref a := rx
  obtain ⟨t1, ho⟩ := exo_at I1.hok ea
  obtain ⟨mA, hns, hr⟩ := exd_at I1.hok ed
  obtain ⟨od, hod, hl⟩ := lookIn_ns hns
  obtain ⟨u, hu, ru⟩ := RelO.some_of (v := v) (o := mA n) (by rw [← l]; exact hr n)
  have J : PySem.W.InstAt s1.heap a _ C (some od) := ⟨ho, rfl, rfl, hod⟩
  exact HandSPX.exc_get I1.kIn J T.ga T.gg T.exC (PySem.W.findObj_own T.hdC hno rfl (by rw [hl, hu])) (handed_of ru) ⟨v, H1, I1.tok _, ru, q⟩
theorem de_xfv {C : Addr} {n : Str} (T : XfC X.K C) (hno : PySem.W.findIn X.K (.ref C) n = some none) (ha : DB F X W e fa) (hb : attributeBase e n X.env (eval e X.env) = eval e X.env := by rfl) : DE F X W (.Attribute e n pos) (eUn (opXFld C n) fa) :=
  ⟨PE.weak (pe_xfv T hno ha.pe hb) fun σ H Q ⟨sd, rel, p⟩ => te1s rel p fun d q v H2 r2 hv p2 => by
    unfold opXFld at p2
    split at p2
    · split at p2
      · rename_i hc
        subst hc
        split at p2
        · rename_i d2 hd2
          obtain ⟨a, od, ws, rfl, na, r, qd, l⟩ := hv
          obtain ⟨v, e2, h2⟩ := l.look hd2
          rcases qd with ⟨rfl, rfl⟩ | ⟨dx, rfl, nd, hd⟩
          · cases e2
          · exact ⟨a, dx, ws, v, rfl, r, hd, e2, ok_p p2 h2⟩
        · exact p2.elim
      · exact p2.elim
    · exact p2.elim⟩
/-- isinstance(e, c), e such an exception -/
def rIsX (K : PySem.W.Frag) : List V → Hp → VK → Prop := fun xs H Q => ∃ (a C : Addr) (od : Option Addr) (c : V) (u : Value) (b : Bool), xs = [.ref a, c] ∧ ClsV c u ∧ H a = some (exo a C od) ∧ (od = none ∨ ∃ dx ws, od = some dx ∧ H dx = some (exd dx ws)) ∧ ExcC K C ∧ PySem.W.kitOne K (.ref C) u = some b ∧ Q (.bl b) H
theorem call_isX : CallR X (.builtin "isinstance") (rIsX X.K) := by
  intro pins s σ H xs us Q I r h
  obtain ⟨a, C, od, c, u, b, rfl, k, ha, hd, T, e, q⟩ := h
  cases r with
  | cons rx rr =>
    cases rr with
    | cons rt rr =>
      cases rr
      cases rx
      have ec := k.eq rt
      subst ec
      obtain ⟨t1, ho⟩ := exo_at I.hok ha
      have hcl : (PySem.W.clsIn X.K C).isSome = true := by
        obtain ⟨cd, hc, _⟩ := PySem.W.any_some T.hd
        rw [hc]; rfl
      rcases hd with rfl | ⟨dx, ws, rfl, hd⟩
      · have J : PySem.W.InstAt s.heap a _ C none := ⟨ho, rfl, rfl, trivial⟩
        exact PySem.W.kia_one (PySem.W.kitx_exc hcl T.hg T.hk T.hs T.ha T.hn T.ht T.hm) I.kIn J e (fun z => nomatch z) fun tk => ⟨.bl b, H, I.kept (t' := tk) fun _ _ z => z, rfl, q⟩
      · obtain ⟨mA, hns, _⟩ := exd_at I.hok hd
        obtain ⟨od, hod, _⟩ := lookIn_ns hns
        have J : PySem.W.InstAt s.heap a _ C (some od) := ⟨ho, rfl, rfl, hod⟩
        exact PySem.W.kia_one (PySem.W.kitx_exc hcl T.hg T.hk T.hs T.ha T.hn T.ht T.hm) I.kIn J e (fun z => nomatch z) fun tk => ⟨.bl b, H, I.kept (t' := tk) fun _ _ z => z, rfl, q⟩
/-- tb: what each class's exceptions answer -/
def opIsX (K : PySem.W.Frag) (tb : List (Str × Bool)) : D → R D
  | .exc c C _ => if C = He.ga K c then (match tb.lookup c with
    | some b => .ok (.bl b)
    | none => .no) else .no
  | _ => .no
def TbX (K : PySem.W.Frag) (u : Value) (tb : List (Str × Bool)) : Prop := ∀ c b, tb.lookup c = some b → ExcC K (He.ga K c) ∧ PySem.W.kitOne K (.ref (He.ga K c)) u = some b
theorem de_isX {tb : List (Str × Bool)} {vc : V} {u : Value} {p1 : Pos} (hg : Gl X "isinstance") (hm : X.mg "isinstance" = none) (ha : DB F X W a fa) (hb : PE X b (tC vc)) (hu : ClsV vc u) (ht : TbX X.K u tb)
    (hs : starEach [a, b] X.env = (false, eval a X.env) :: starEach [b] X.env := by rfl) (hs2 : starEach [b] X.env = (false, eval b X.env) :: starEach [] X.env := by rfl) (hpl : (backTo pos (starEach [b] X.env)).any (·.1) = false := by rfl) :
    DE F X W (.Call (.Name "isinstance" p1) [a, b] [] pos) (eUn (opIsX X.K tb) fa) :=
  ⟨PE.weak (pe_callB call_isX hg hm (by decide +kernel) (pa_cons ha.pe (pa_cons hb pa_nil hs2) hs) (by decide) (by decide) hs hpl) fun σ H Q ⟨sd, rel, p⟩ => te1S rel p fun d q v H1 s1 r1 hv p1 => by
    have hv : HoldsB H1 (Av F σ sd) d v := hv
    unfold opIsX at p1
    split at p1
    · split at p1
      · rename_i hc
        subst hc
        split at p1
        · rename_i bb hl
          obtain ⟨t1, t2⟩ := ht _ _ hl
          obtain ⟨a, od, ws, rfl, na, r, qd, l⟩ := hv
          exact ⟨a, _, od, vc, u, bb, rfl, hu, r, qd.imp (·.1) (fun ⟨dx, e, _, h⟩ => ⟨dx, ws, e, h⟩), t1, t2, p1 _ _ (Same.refl _) rfl⟩
        · exact p1.elim
      · exact p1.elim
    · exact p1.elim⟩
/-! tests -/
def excCB (K : PySem.W.Frag) (C : Addr) : Bool := He.eqO (PySem.W.findIn K (.ref C) "__getattribute__") (some (some (.builtin "BaseException.__getattribute__"))) && (He.eqO (PySem.W.findIn K (.ref C) "__getattr__") (some none) && (decide (PySem.W.subIn K (.ref C) (.type "BaseException") = some true) && (PySem.W.hasDictIn K C &&
  (He.eqO (PySem.W.findIn K (.ref C) "__class__") (some (some (.builtin "object.__class__"))) && (He.eqO (PySem.W.specialIn K (.builtin "object.__class__") "__get__") (some (some (.builtin "getset_descriptor.__get__"))) && (decide (PySem.W.takesIn K (.builtin "object.__class__") = some true) && decide (PySem.W.mroIn K C (.type "object") = some true)))))))
theorem excCB_ok {K : PySem.W.Frag} {C : Addr} (h : excCB K C = true) : ExcC K C := by
  unfold excCB at h
  simp only [Bool.and_eq_true] at h
  obtain ⟨h1, h2, h3, h4, h5, h6, h7, h8⟩ := h
  exact ⟨He.eqO_ok h1, He.eqO_ok h2, of_decide_eq_true h3, h4, He.eqO_ok h5, He.eqO_ok h6, of_decide_eq_true h7, of_decide_eq_true h8⟩
def tIsX (c : ClN) (tb : List (Str × Bool)) (K : PySem.W.Frag) : Bool := tb.all fun q => excCB K (He.ga K q.1) && decide (PySem.W.kitOne K (.ref (He.ga K q.1)) (c.u K) = some q.2)
theorem lookup_memS {β : Type} {k : Str} {v : β} : ∀ {l : List (Str × β)}, l.lookup k = some v → (k, v) ∈ l
  | (k', v') :: l, h => by
    rw [List.lookup_cons] at h
    split at h
    · rename_i e
      cases h
      rw [beq_iff_eq.mp e]
      exact .head _
    · exact .tail _ (lookup_memS h)
theorem tIsX_ok {c : ClN} {tb : List (Str × Bool)} {K : PySem.W.Frag} (h : tIsX c tb K = true) : TbX K (c.u K) tb := fun x b hl => by
  have z := List.all_eq_true.mp h _ (lookup_memS hl)
  rw [Bool.and_eq_true] at z
  exact ⟨excCB_ok z.1, of_decide_eq_true z.2⟩
/-! an __init__ without an argument -/
section
variable {P : Program} {w : World} {K : PySem.W.Frag} {mg : Str → Option Value} {base : Heap} {C f : Addr} {fd : FuncData} {nm qual : Str} {params : Arguments} {scope : Scope}
theorem exI0_ok {txt slf : Str} {p0 p1 p2 p3 p4 p5 : Pos} {jk : Nat} {ar : Arg} {pl : Env → Sem Bool}
    (T : ExC P K mg C f fd nm qual params [.Expr (.Call (.Attribute (.Call (.Name "super" p0) [] [] p1) "__init__" p2) [.Constant (.str txt) jk p3] [] p4) p5] scope)
    (hp : (params.posonlyargs ++ params.args).head? = some ar) (har : ar.arg = slf)
    (hks : scope.names.lookup ("super" : Str) = some .globalImplicit) (hkc : scope.names.lookup ("__class__" : Str) = some .free) (hsl : scope.names.lookup slf = some .local) (hk : scope.kind = .function)
    (hcell : ∀ x ∈ scope.names, x.2 ≠ .cell) (hco : scope.isCoroutine = false) (hgen : scope.isGenerator = false)
    (he : ∀ env : Env, eval (.Call (.Attribute (.Call (.Name "super" p0) [] [] p1) "__init__" p2) [.Constant (.str txt) jk p3] [] p4) env = (do
      let ov ← attributeBase (.Call (.Name "super" p0) [] [] p1) "__init__" env (eval (.Call (.Name "super" p0) [] [] p1) env)
      standAt p2.atName
      let (f, first) ← holding [ov] (getMethod ov "__init__" (pl env))
      callWith p4 f first (backTo p4 (starEach [.Constant (.str txt) jk p3] env)) [])) : FnOk P w K mg base (L2.CX P w) 1 f fd [slf] (spEx0 C) := by
  refine ⟨fun vs H Q E h => by obtain ⟨a, rfl, _⟩ := h; rfl, fun A outer s H args us vs Q E hr e0 hb r hsp => ?_⟩
  obtain ⟨a, rfl, ea, q⟩ := hsp
  obtain ⟨oc, ct, od, an, dV, kV, doc, pm, cda, cc, osl, ccl, cl, cdd, cld, vs, ccs, csl, file, tf, cdD, rfl, lk, hcd, hcode, hvs, hfile, hcel, hD⟩ := T.ex
  cases r with
  | @cons _ u0 _ ur ra rn =>
  cases rn
  obtain rfl : u0 = Value.ref a := ra
  obtain ⟨hp0, g, d, t, os⟩ := s
  have KX : K.In hp0 := e0.mod.kin.keeps fun b o e => (e0.bs b o e).1
  have lim : hp0.NoLimit := e0.mod.nolimit.keeps fun b o e => (e0.bs b o e).1
  obtain ⟨t1, ho⟩ := exo_at e0.hok ea
  have gG : ∀ b o, hp0.get? b = some o → b ≠ a → (PySem.W.hideAll hp0 [a]).get? b = some o := fun b o e n => PySem.W.hideAll_get _ e fun z => n (List.mem_singleton.mp z)
  have bG : ∀ b o, base.get? b = some o → (PySem.W.hideAll hp0 [a]).get? b = some o := fun b o e => gG b o (e0.bs b o e).1 fun z => by
    have y := (e0.bs b o e).2
    rw [z, ea] at y
    cases y
  refine ks_codeAny_call_defAt (hr.depth) (KX _ _ lk) rfl lim (PySem.W.codeRec_of KX hcd) rfl hb hcell (fun x hx => ?_) (fun h0 hns hk0 => ?_) hco hgen hk
  · rw [List.mem_singleton.mp hx]; exact hsl
  have F0 : PyProof.Rows.Fr (PySem.W.hideAll hp0 [a]) hp0.objs.size h0 (fun x => ([slf].zip [Value.ref a]).reverse.lookup x) := ⟨hns, fun b o e => hk0 b o (PySem.W.of_hideAll _ e), Nat.le_of_eq (PySem.W.hideAll_size _ _)⟩
  have N0 : News (PySem.W.hideAll hp0 [a]) hp0.objs.size h0 [(a, PySem.W.excObj C t1 none .none)] := fun p hp => by
    rw [List.mem_singleton.mp hp]
    exact ⟨hk0 _ _ ho, Nat.ne_of_lt (Heap.lt_size ho), PySem.W.hideAll_none _ (.head _)⟩
  have m1 : ([slf].zip [Value.ref a]).reverse.lookup slf = some (Value.ref a) := by
    show List.lookup slf [(slf, Value.ref a)] = _
    rw [List.lookup_cons, beq_self_eq_true]
  refine ks_wpAt_execs_cons (super_init (s := ⟨h0, g, d, t + _, os⟩) e0.mod bG F0 N0 lk hp (by rw [har]; exact m1) hcode hvs hfile hcel hD T.sub T.mgs hks hkc (by rw [har]; exact hsl) hk T.top T.ini T.opq T.sve T.exi he fun h1 t2 tk F1 hx1 => ?_)
  refine wpAt_of_wpAny (wpAny_execs_nil ?_)
  have up : ∀ b o, hp0.get? b = some o → b ≠ a → h1.get? b = some o := fun b o e n => F1.keep b o (gG b o e n)
  have na : ∀ {b : Addr}, H b = none → b ≠ a := fun {b} n z => by
    rw [z, ea] at n
    cases n
  refine ⟨.non, H, rfl, e0.bare, ⟨fun b o e n _ _ => up b o e (na n), fun b o e n _ _ => ⟨o.slots, up b o e (na n)⟩, fun b o e n _ => n, fun b o e _ => ?_, fun b xs e => e, fun b o x e => e, fun b ps e => ⟨#[], by rw [e]; simp⟩⟩, fun b o e => ?_, rfl, q⟩
  · by_cases z : b = a
    · rw [z]; exact ⟨_, hx1⟩
    · exact ⟨o, up b o e z⟩
  · by_cases z : b = a
    · subst z
      rw [ea] at e
      cases e
      exact exo_ok hx1
    · exact (e0.hok b o e).stay (fun c x hc y => up c x y (by
        rcases hc with hc | hc
        · rw [hc]; exact z
        · exact at_ne ea hc exo_own)) (fun c hc => hc) (fun c xs hc => hc)
theorem gex0_of {d : XD} {fd : FuncData} {txt slf : Str} {p0 p1 p2 p3 p4 p5 : Pos} {jk : Nat} {ar : Arg} {pl : Env → Sem Bool} (x : XOk P K mg d fd)
    (hbody : d.body = [.Expr (.Call (.Attribute (.Call (.Name "super" p0) [] [] p1) "__init__" p2) [.Constant (.str txt) jk p3] [] p4) p5])
    (hp : (d.params.posonlyargs ++ d.params.args).head? = some ar) (har : ar.arg = slf)
    (hks : d.scope.names.lookup ("super" : Str) = some .globalImplicit) (hkc : d.scope.names.lookup ("__class__" : Str) = some .free) (hsl : d.scope.names.lookup slf = some .local) (hk : d.scope.kind = .function)
    (hcell : ∀ x ∈ d.scope.names, x.2 ≠ .cell) (hco : d.scope.isCoroutine = false) (hgen : d.scope.isGenerator = false)
    (he : ∀ env : Env, eval (.Call (.Attribute (.Call (.Name "super" p0) [] [] p1) "__init__" p2) [.Constant (.str txt) jk p3] [] p4) env = (do
      let ov ← attributeBase (.Call (.Name "super" p0) [] [] p1) "__init__" env (eval (.Call (.Name "super" p0) [] [] p1) env)
      standAt p2.atName
      let (f, first) ← holding [ov] (getMethod ov "__init__" (pl env))
      callWith p4 f first (backTo p4 (starEach [.Constant (.str txt) jk p3] env)) []))
    (hbi : ∀ (kV doc pm cdv ct : Value) (an : Option Addr) (cc : Addr) (us : List Value), us.length = 1 → bindArgs (PySem.W.ksFn d.name d.qual d.params d.body d.scope .none kV doc pm an cdv ct cc) ⟨us, []⟩ = pure ([slf].zip us)) :
    GEx0 P w K mg base d.cls (d.C K) := by
  have ec := x.ec
  obtain ⟨kV, doc, pm, cdv, ct, an, cc, efd⟩ := x.dfl
  subst efd
  rw [hbody] at ec
  have ok := exI0_ok (w := w) (base := base) ec hp har hks hkc hsl hk hcell hco hgen he
  rw [← hbody] at ok
  exact ⟨_, _, _, ok, x.ini, x.typ, .all (hbi kV doc pm cdv ct an cc), ec.oex, x.glo⟩
end
/-- raise C() -/
def sRaise0 (x : Str) : SF := fun s => .ex x [] s
end DS
set_option Elab.async false
set_option linter.all false
set_option maxRecDepth 100000
set_option maxHeartbeats 2000000
/-! Calls that only read what they are given, and return plain things: the caller's own lists may be handed to them. -/
namespace DS
open PySem L2 PyProof.Rows
variable {F : Fr} {X : Cx} {W : WX} {a b c e : Expr} {fa fb fc : EF} {pos : Pos} {st : Stmt} {sts : List Stmt} {f g : SF} {tt : TF} {es : List Expr} {fs : List EF}
def flatB : D → Bool
  | .non => true
  | .bl _ => true
  | .int _ => true
  | .str _ => true
  | _ => false
def noA : Addr → Prop := fun _ => False
theorem flat_any {H H' : Hp} {A A' : Addr → Prop} {d : D} {v : V} (f : flatB d = true) (h : Holds H A d v) : Holds H' A' d v := by
  cases d with
  | non => exact h
  | bl _ => exact h
  | int _ => exact h
  | str _ => exact h
  | _ => cases f
theorem flat_anyL {H H' : Hp} {A A' : Addr → Prop} : ∀ {ds : List D} {vs : List V}, ds.all flatB = true → HoldsL H A ds vs → HoldsL H' A' ds vs
  | [], vs, _, h => h
  | d :: ds, vs, f, h => by
    rw [List.all_cons, Bool.and_eq_true] at f
    obtain ⟨v, r, e, h1, h2⟩ := h
    exact ⟨v, r, e, flat_any f.1 h1, flat_anyL f.2 h2⟩
theorem HoldsB.open {H : Hp} {A : Addr → Prop} {d : D} {v : V} (h : HoldsB H A d v) : Holds H noA d v := by
  have k : ∀ a, noA a → A a := fun a z => z.elim
  cases d with
  | lst xs => obtain ⟨a, vs, e, r, l⟩ := h; exact ⟨a, vs, e, fun z => z, r, l.less k⟩
  | dk kvs => obtain ⟨a, vs, e, r, l⟩ := h; exact ⟨a, vs, e, fun z => z, r, HoldsK.up (up_own k) _ l⟩
  | ins C fs => obtain ⟨a, dx, vs, e, r, l⟩ := h; exact ⟨a, dx, vs, e, fun z => z, r, HoldsF.up (up_own k) _ l⟩
  | non => exact h
  | bl _ => exact h
  | int _ => exact h
  | str _ => exact h
  | kt T xs => exact h
  | exc c C fs => exact Holds.less (d := .exc c C fs) h k
  | scr xs => exact Holds.less (d := .scr xs) h k
  | tup xs => exact Holds.less (d := .tup xs) h k
theorem HoldsXL.open {H : Hp} {A : Addr → Prop} : ∀ {ds : List D} {vs : List V}, HoldsXL true H A ds vs → HoldsL H noA ds vs
  | [], _, h => h
  | d :: ds, _, h => by obtain ⟨v, r, e, h1, h2⟩ := h; exact ⟨v, r, e, HoldsB.open h1, HoldsXL.open h2⟩
def plainR (gf : List D → R D) (ds : List D) : R D := (gf ds).bind fun d => if flatB d = true then .ok d else .no
def plainRN (gf : List D → R ND) (ds : List D) : R ND := (gf ds).bind fun n => match n with
  | .nl xs => if xs.all flatB = true then .ok (.nl xs) else .no
  | _ => .no
/-- what leaves a call with nothing kept off, as an exception: none -/
def noEx {α : Type} : R α → R α
  | .ok a => .ok a
  | _ => .no
theorem de_callW {x : Str} {k k' n : Nat} {gf : List D → R D} {p : Pos} (G : GFn X.prog X.w X.K X.mg X.base k x n gf) (hr : Room k' X.A) (hg : Gl X x) (tk : Takes X W) (ha : DA true F X W (e :: es) fs) (hfs : fs.length = n := by rfl) (hkk : k ≤ k' := by decide)
    (hdb : (x == ("__debug__" : Str)) = false := by decide) (he : starEach (e :: es) X.env = (false, eval e X.env) :: starEach es X.env := by rfl) (hpl : (backTo pos (starEach es X.env)).any (·.1) = false := by rfl) :
    DE F X W (.Call (.Name x p) (e :: es) [] pos) (eAll (fun ds => noEx (plainR gf ds)) fs) := by
  obtain ⟨f, fd, ps, G, hm, hk, hb⟩ := G
  refine ⟨PE.weak (pe_callS G (hr.mono hkk) hg hm hk hb (fun σ => passAt tk σ) ha.pa hdb he hpl) fun σ H Q ⟨sd, rel, p⟩ => tas (b := true) rel p fun ds q vs H2 _ r2 hv p2 => ?_⟩
  refine ⟨by rw [hv.open.length, evalL_length q]; exact hfs, ds, noA, hv.open, fun a z => z.elim, ?_⟩
  unfold noEx plainR at p2
  cases q2 : gf ds with
  | no => rw [q2] at p2; exact p2.elim
  | ex c fs => rw [q2] at p2; exact p2.elim
  | ok d =>
    rw [q2, R.bind_ok] at p2
    split at p2
    · rename_i hz
      split at hz
      · rename_i hf
        cases hz
        exact fun v H3 s3 h3 => p2 v H3 s3 (flat_any hf h3)
      · cases hz
    · exact p2.elim
theorem dn_callW {x : Str} {k k' n : Nat} {gf : List D → R ND} {p : Pos} (G : GFnN X.prog X.w X.K X.mg X.base k x n gf) (hr : Room k' X.A) (hg : Gl X x) (tk : Takes X W) (ha : DA true F X W (e :: es) fs) (hfs : fs.length = n := by rfl) (hkk : k ≤ k' := by decide)
    (hdb : (x == ("__debug__" : Str)) = false := by decide) (he : starEach (e :: es) X.env = (false, eval e X.env) :: starEach es X.env := by rfl) (hpl : (backTo pos (starEach es X.env)).any (·.1) = false := by rfl) :
    DN F X W (.Call (.Name x p) (e :: es) [] pos) (nAll (fun ds => noEx (plainRN gf ds)) fs) := by
  obtain ⟨f, fd, ps, G, hm, hk, hb⟩ := G
  refine ⟨PE.weak (pe_callS G (hr.mono hkk) hg hm hk hb (fun σ => passAt tk σ) ha.pa hdb he hpl) fun σ H Q ⟨sd, rel, p⟩ => ?_⟩
  refine ⟨sd, rel, ?_⟩
  unfold nAll at p
  cases q : evalL fs sd with
  | no => rw [q] at p; exact p
  | ex c fs => rw [q] at p; exact p
  | ok ds =>
    rw [q, R.bind_ok] at p
    intro vs H2 s2 hv
    have r2 := rel.mono s2
    refine ⟨by rw [hv.open.length, evalL_length q]; exact hfs, ds, noA, hv.open, fun a z => z.elim, ?_⟩
    unfold noEx plainRN at p
    cases q2 : gf ds with
    | no => rw [q2] at p; exact p.elim
    | ex c fs => rw [q2] at p; exact p.elim
    | ok n =>
      rw [q2, R.bind_ok] at p
      cases n with
      | nd xs => exact p.elim
      | nl xs =>
        dsimp only at p
        by_cases hf : xs.all flatB = true
        · rw [if_pos hf] at p
          intro pa H3 s3 hn _ h
          have h1 := h ⟨fun _ => none, fun _ => False, 0⟩ rfl
          obtain ⟨a, vs, e, _, r, l⟩ := h1
          cases e
          refine p pa H3 (s2.trans s3) (s2.free hn) (fun z => by rw [r] at z; cases z) fun F' h0 => ⟨pa, vs, rfl, h0, r, flat_anyL hf l⟩
        · rw [if_neg hf] at p
          exact p.elim
end DS
set_option Elab.async false
set_option linter.all false
set_option maxRecDepth 100000
set_option maxHeartbeats 4000000
/-! tuple * k for k below 2; x[::-1]. -/
namespace DS
open PySem PySem.Spec L2 PyProof.Rows
theorem tmul0 (ad : Addr) (its : Array Value) (nn : Nat) (di : Option Addr) (so : Array (Option Value)) (kx : Int) (tu : Tok) (e0 : (decide (kx < -(2 ^ 63)) || decide (kx ≥ 2 ^ 63)) = false) (e1 : (its.isEmpty || kx == 1) = false) (e2 : (decide (kx ≤ 0) || its.isEmpty) = true) :
    Meets (Builtin.«tuple.__mul__» ⟨[.ref ad, .int kx tu], []⟩) (fun _ Z s => s.heap.get? ad = some { cls := .type "tuple", dict := di, data := .seq its nn, slots := so } ∧
      Z (.ok (.ret (Value.ref s.heap.objs.size))) { s with heap := s.heap.push { cls := Value.type "tuple", data := Data.seq #[] }, toks := s.toks }) :=
  .of_wp fun prog w A R s h => by
    obtain ⟨hp, g, d, tk, os⟩ := s
    obtain ⟨hl, h⟩ := h
    have f1 := AutoSeq1.idx_int
    have hz0 : (#[] : Array Value).size ≤ sizeLine := Nat.zero_le _
    wp_walk using wpAny_loadPart' hl
    repeat (first
      | (refine wpAny_ite_false (decide_eq_false (by rw [e0]; exact Bool.false_ne_true)) ?_; wp_walk using wpAny_loadPart' hl)
      | (refine wpAny_ite_false (decide_eq_false (by rw [e1]; exact Bool.false_ne_true)) ?_; wp_walk using wpAny_loadPart' hl)
      | (refine wpAny_ite_true (decide_eq_true e2) ?_; wp_walk using wpAny_loadPart' hl)
      | (refine wpAny_ite_false (decide_eq_false (Nat.not_lt.mpr hz0)) ?_; wp_walk using wpAny_loadPart' hl))
    exact ⟨_, rfl, h⟩
theorem tmul1 (ad : Addr) (its : Array Value) (nn : Nat) (di : Option Addr) (so : Array (Option Value)) (tu : Tok) :
    Meets (Builtin.«tuple.__mul__» ⟨[.ref ad, .int 1 tu], []⟩) (fun _ Z s => s.heap.get? ad = some { cls := .type "tuple", dict := di, data := .seq its nn, slots := so } ∧
      Z (.ok (.ret (Value.ref ad))) s) :=
  .of_wp fun prog w A R s h => by
    obtain ⟨hp, g, d, tk, os⟩ := s
    obtain ⟨hl, h⟩ := h
    have f1 := AutoSeq1.idx_int
    have e0 : (decide ((1 : Int) < -(2 ^ 63)) || decide ((1 : Int) ≥ 2 ^ 63)) = false := by decide
    have e1 : (its.isEmpty || (1 : Int) == 1) = true := by simp
    wp_walk using wpAny_loadPart' hl
    repeat (first
      | (refine wpAny_ite_false (decide_eq_false (by rw [e0]; exact Bool.false_ne_true)) ?_; wp_walk using wpAny_loadPart' hl)
      | (refine wpAny_ite_true (decide_eq_true e1) ?_; wp_walk using wpAny_loadPart' hl))
    exact ⟨_, rfl, h⟩
section
variable {X : Cx}
/-- t * k, k below 2 -/
def rRepS (K : PySem.W.Frag) : R2 := fun x y H Q => ∃ l k xs, x = .ref l ∧ y = .int k ∧ SqT K H l xs ∧ xs ≠ [] ∧ k ≤ 1 ∧ -1000000 ≤ k ∧ (k = 1 → Q (.ref l) H) ∧ (k ≠ 1 → ∀ p, H p = none → Q (.ref p) (upd H p (.tup [])))
theorem op_repS : OpR X (binaryOp .Mult) (rRepS X.K) := by
  intro pins s σ H x y v u Q I rx ry h
  obtain ⟨l, k, xs, rfl, rfl, hT, hne, k1, k2, q1, q2⟩ := h
  cases rx
  obtain ⟨tu, rfl⟩ := ry
  obtain ⟨its, r, ⟨⟨cls, dd, data, sl⟩, ho, hc, n, hd⟩, hs⟩ := I.tuple hT
  simp only at hc hd
  subst hc hd
  have hn : its ≠ [] := fun e => hne (List.eq_nil_of_length_eq_zero (by rw [r.length, e]; rfl))
  have hi : its.toArray.isEmpty = false := by
    cases its with
    | nil => exact absurd rfl hn
    | cons _ _ => rfl
  by_cases hk : k = 1
  · subst hk
    exact wpAny_binaryOp_repeat_ref (T := "tuple") (U := "int") (by decide) ⟨_, ho, rfl⟩ (fun s' => typeIs_int s' 1 tu) noFill_tuple_mul F.fills_int_mul F.slot_int_rmul repeat_tuple F.slot_int_index.lookup
      (call_meets F.slot_int_rmul (typeIs_int s 1 tu) F.entry_int_rmul (F.args_int_rmul_2 _ _) (int_rmul_tuple 1 tu l its.toArray n dd sl)
        ⟨ho, rfl, ⟨_, ho, rfl⟩, call_meets F.slot_tuple_mul ⟨_, ho, rfl⟩ F.entry_tuple_mul (F.args_tuple_mul_2 _ _) (tmul1 l its.toArray n dd sl tu) ⟨ho, .ref l, H, I, rfl, q1 rfl⟩⟩)
  · have e0 : (decide (k < -(2 ^ 63)) || decide (k ≥ 2 ^ 63)) = false := by
      rw [decide_eq_false (by omega), decide_eq_false (by omega)] <;> rfl
    have e1 : (its.toArray.isEmpty || k == 1) = false := by
      rw [hi, Bool.false_or]
      exact beq_eq_false_iff_ne.mpr hk
    have e2 : (decide (k ≤ 0) || its.toArray.isEmpty) = true := by
      rw [decide_eq_true (by omega)] <;> rfl
    refine wpAny_binaryOp_repeat_ref (T := "tuple") (U := "int") (by decide) ⟨_, ho, rfl⟩ (fun s' => typeIs_int s' k tu) noFill_tuple_mul F.fills_int_mul F.slot_int_rmul repeat_tuple F.slot_int_index.lookup
      (call_meets F.slot_int_rmul (typeIs_int s k tu) F.entry_int_rmul (F.args_int_rmul_2 _ _) (int_rmul_tuple k tu l its.toArray n dd sl)
        ⟨ho, rfl, ⟨_, ho, rfl⟩, call_meets F.slot_tuple_mul ⟨_, ho, rfl⟩ F.entry_tuple_mul (F.args_tuple_mul_2 _ _) (tmul0 l its.toArray n dd sl k tu e0 e1 e2) ⟨ho, ?_⟩⟩)
    refine ⟨.ref s.heap.objs.size, _, I.laid (t' := s.toks) (o := .tup []) (fun b ob q => Heap.get?_push_of_some _ q) (Nat.le_refl _) ?_, rfl, q2 hk _ (I.hok.fresh (Nat.le_refl _))⟩
    exact ⟨Nat.zero_le _, [], .nil, IsTup.new _ _⟩
end
def opRepS : D → D → R D
  | .tup xs, .int k => if xs ≠ [] ∧ k ≤ 1 ∧ k.natAbs ≤ 1000 then .ok (.tup (List.replicate k.toNat xs).flatten) else .no
  | _, _ => .no
theorem ok_repS {K : PySem.W.Frag} : OpOk (rRepS K) opRepS := by
  intro mg W σ A d e v w H Q dm h1 h2 p
  unfold opRepS at p
  split at p
  · have h1' := h1
    obtain ⟨a, vs, rfl, na, ha, l1⟩ := h1
    cases h2
    split at p
    · rename_i k hl
      refine ⟨a, k, vs, rfl, rfl, SqT.of ha, fun z => hl.1 (by subst z; exact nilV l1), hl.2.1, by omega, fun e => ?_, fun e q hq => ?_⟩
      · subst e
        rw [show ∀ zs : List D, (List.replicate (Int.toNat 1) zs).flatten = zs from fun zs => List.append_nil zs] at p
        exact p _ H (Same.refl H) h1'
      · have : k.toNat = 0 := by omega
        rw [this] at p
        exact p _ _ (same_upd hq) ⟨q, _, rfl, fun z => dm q z hq, upd_same, rfl⟩
    · exact p.elim
  · exact p.elim
/-- the product with tuples of any small number -/
def opMulT (x y : D) : R D := match x, y with
  | .tup xs, .int k => if k ≤ 1 then opRepS (.tup xs) (.int k) else opMul (.tup xs) (.int k)
  | _, _ => opMul x y
def rMulT (K : PySem.W.Frag) : R2 := fun x y H Q => rMulA K x y H Q ∨ rRepS K x y H Q
theorem or_mulT {X : Cx} : OpR X (binaryOp .Mult) (rMulT X.K) := or_mul.or op_repS
theorem ok_mulT {K : PySem.W.Frag} : OpOk (rMulT K) opMulT := by
  intro mg W σ A d e v w H Q dm h1 h2 p
  unfold opMulT at p
  split at p
  · split at p
    · exact .inr (ok_repS mg W σ A _ _ v w H Q dm h1 h2 p)
    · exact .inl (ok_mul mg W σ A _ _ v w H Q dm h1 h2 p)
  · exact .inl (ok_mul mg W σ A _ _ v w H Q dm h1 h2 p)

/-! ### x[::-1] -/
section
variable {prog : Program} {w : World} {A : Around} {E : Value → Shared → Prop} {s : Shared}
theorem slicedBack {sc : Addr} {va vb vc : Value} {m : Nat} {Z : Int × Int × Nat → Shared → Prop} (hs : s.heap.IsSliceOf sc va vb vc) (pa : IsPart va none) (pb : IsPart vb none) (pc : IsPart vc (some (-1)))
    (h : Z ((m : Int) - 1, -1, m) s) : wpAny (model prog w) A (Builtin.Slice.sliceApplied (.ref sc) (pure (m : Int))) Z E s := by
  obtain ⟨os, hos, hcs, hds⟩ := id hs
  unfold Builtin.Slice.sliceApplied Builtin.Slice.sliceFields
  refine wpAny_bind (wpAny_bind (wpAny_field hos hds (x := va) rfl (wpAny_bind (wpAny_field hos hds (x := vb) rfl (wpAny_bind (wpAny_field hos hds (x := vc) rfl (wpAny_pure ?_)))))))
  refine wpAny_bind (HT.slicePart_ pc ?_)
  show wpAny _ _ (if ((-1 : Int) == 0) = true then _ else _) _ _ s
  rw [if_neg (by decide)]
  refine wpAny_bind (HT.slicePart_ pa (wpAny_bind (HT.slicePart_ pb (wpAny_bind (wpAny_pure ?_)))))
  have e1 : Builtin.Slice.sliceAdjust none none (-1) (m : Int) = ((m : Int) - 1, -1) := rfl
  have e2 : Builtin.Slice.slicePlaces ((m : Int) - 1) (-1) (-1) = m := by
    unfold Builtin.Slice.slicePlaces
    have h1 : ¬ ((-1 : Int) > 0) := by decide
    simp only [h1, if_false]
    split
    · have e : ((m : Int) - 1 - -1 - 1) / (- -1) = (m : Int) - 1 := by
        rw [show (- -1 : Int) = 1 by decide, Int.ediv_one]
        omega
      rw [e]
      omega
    · omega
  show wpAny _ _ (match Builtin.Slice.sliceAdjust none none (-1) (m : Int) with | (lo, hi) => pure (lo, (-1 : Int), Builtin.Slice.slicePlaces lo hi (-1))) _ _ s
  rw [e1]
  show wpAny _ _ (pure (((m : Int) - 1), (-1 : Int), Builtin.Slice.slicePlaces ((m : Int) - 1) (-1) (-1))) _ _ s
  rw [e2]
  exact wpAny_pure h
theorem fmCongr {α β : Type} {f g : α → Option β} : ∀ {l : List α}, (∀ x ∈ l, f x = g x) → l.filterMap f = l.filterMap g
  | [], _ => rfl
  | a :: l, h => by
    rw [List.filterMap_cons, List.filterMap_cons, h a (List.mem_cons_self ..), fmCongr fun x hx => h x (List.mem_cons_of_mem _ hx)]
theorem pickBack (xs : Array Value) : ((List.range xs.size).filterMap fun (k : Nat) => xs[(((xs.size : Int) - 1) + (k : Int) * -1).toNat]?).toArray = xs.toList.reverse.toArray := by
  have e : ∀ k ∈ List.range xs.size, (fun (k : Nat) => xs[(((xs.size : Int) - 1) + (k : Int) * -1).toNat]?) k = (fun k => xs[xs.size - 1 - k]?) k := by
    intro k hk
    have := List.mem_range.mp hk
    have e2 : (((xs.size : Int) - 1) + (k : Int) * -1).toNat = xs.size - 1 - k := by omega
    simp only [e2]
  have e3 : (List.range xs.size).filterMap (fun (k : Nat) => xs[(((xs.size : Int) - 1) + (k : Int) * -1).toNat]?) = (List.range xs.size).filterMap (fun k => xs[xs.size - 1 - k]?) :=
    fmCongr e
  rw [e3]
  have := PySem.W.krv_all xs
  rw [← this, ← List.filterMap_reverse, ← PySem.W.krv_range, List.filterMap_map]
  rfl
theorem tupBack {ad sc : Addr} {its : Array Value} {va vb vc : Value} {Z : Value → Shared → Prop} (ht : IsTup s.heap ad its) (hs : s.heap.IsSliceOf sc va vb vc) (pa : IsPart va none) (pb : IsPart vb none) (pc : IsPart vc (some (-1)))
    (h : Z (.ref s.heap.objs.size) { s with heap := s.heap.push { cls := .type "tuple", data := .seq its.toList.reverse.toArray } }) (hz : its.size ≤ sizeLine) : wpAny (model prog w) A (getItem (.ref ad) (.ref sc)) Z E s := by
  have htake : sizeOk (.seq its.toList.reverse.toArray) := by
    show its.toList.reverse.toArray.size ≤ sizeLine
    rw [List.size_toArray, List.length_reverse, Array.length_toList]
    exact hz
  obtain ⟨os, hos, hcs, hds⟩ := id hs
  have hTs : s.TypeIs (.ref sc) "slice" := ⟨os, hos, hcs⟩
  unfold getItem
  try with_reducible refine wpAny_holding ?_
  first | refine wpAny_bind (wpAny_pure ?_) | skip
  refine wpAny_bind (wpAny_sequenceKey ht.typeIs (by decide) ?_)
  refine wpAny_bind (wpAny_callSpecial?_slot (name := Str.ofString "__getitem__") ht.typeIs PyProof.Rows.slot_tuple_getitem
    (wpAny_call_entry PyProof.Rows.slot_tuple_getitem ht.typeIs entry_tuple_getitem ?_ (args_tuple_getitem _ _)))
  show wpAny _ _ (Builtin.Tuple.tupleItemsOf (.ref ad) >>= _) _ _ s
  refine wpAny_bind (tupleItemsOf_ ht ?_)
  refine wpAny_bind (wpAny_typeOf hTs ?_)
  rw [if_pos (by decide)]
  refine wpAny_bind (slicedBack hs pa pb pc ?_)
  have hno : ¬ ((((its.size : Int) - 1) == 0 && (-1 : Int) == 1 && its.size == its.size) = true) := by simp
  show wpAny _ _ (if (((its.size : Int) - 1) == 0 && (-1 : Int) == 1 && its.size == its.size) = true then _ else _) _ _ s
  rw [if_neg hno, pickBack]
  first
    | exact wpAny_bind (m := Builtin.Tuple.tupleExact _) (wpAny_newObj_type (wpAny_pure ⟨_, rfl, wpAny_pure h⟩) htake)
    | exact wpAny_bind (m := Builtin.Tuple.tupleExact _) (wpAny_newObj_type (wpAny_bind (wpAny_pure (wpAny_pure ⟨_, rfl, wpAny_pure h⟩))) htake)
    | exact wpAny_bind (wpAny_bind (m := Builtin.Tuple.tupleExact _) (wpAny_newObj_type (wpAny_pure (wpAny_pure ⟨_, rfl, wpAny_pure h⟩)) htake))
    | exact wpAny_bind (wpAny_bind (m := Builtin.Tuple.tupleExact _) (wpAny_newObj_type (wpAny_pure ⟨_, rfl, wpAny_pure h⟩) htake))
end
section
variable {X : Cx}
def tBackT (K : PySem.W.Frag) (te : TE) : TE := fun σ H Q => te σ H fun x H1 => (∃ a xs, x = .ref a ∧ SqL K H1 a xs ∧ ∀ p, H1 p = none → Q (.ref p) (upd H1 p (.lst xs.reverse))) ∨ ∃ a xs, x = .ref a ∧ SqT K H1 a xs ∧ ∀ p, H1 p = none → Q (.ref p) (upd H1 p (.tup xs.reverse))
theorem pe_back {e : Expr} {te : TE} {i1 : Nat} {pa pb pc pd : Pos} (he : PE X e te) : PE X (.Subscript e (.Slice none none (some (.UnaryOp .USub (.Constant (.int 1) i1 pa) pb)) pc) pd) (tBackT X.K te) := by
  refine ⟨fun pins s σ H Q I h => ?_⟩
  refine Subscript_ (thn (he.run pins s σ H _ I h) fun v s1 ⟨x, H1, I1, r1, q1⟩ => ?_)
  have hst : PO X (some (.UnaryOp .USub (.Constant (.int 1) i1 pa) pb)) (tPart (tUn (rU fun i => .int (-i)) (tC (.int 1)))) := po_some (pe_un un_neg pe_int)
  refine wpAny_Slice (thn (po_none.run pins s1 σ H1 (fun o G => o = none ∧ G = H1) I1 ⟨rfl, rfl⟩) fun vl s2 ⟨l, H2, I2, pl, el, e2⟩ => ?_)
  subst el e2
  refine thn (po_none.run pins s2 σ H2 (fun o G => o = none ∧ G = H2) I2 ⟨rfl, rfl⟩) fun vu s3 ⟨u, H3, I3, pu, eu, e3⟩ => ?_
  subst eu e3
  refine thn (hst.run pins s3 σ H3 (fun o G => o = some (-1) ∧ G = H3) I3 ⟨1, rfl, -1, rfl, rfl, rfl⟩) fun vs s4 ⟨o, H4, I4, ps, eo, e4⟩ => ?_
  subst eo e4
  have I5 : Inv X pins σ H4 { s4 with heap := s4.heap.push { cls := .type "slice", data := .fields #[vl, vu, vs] } } := I4.kept (t' := s4.toks) fun b ob q => Heap.get?_push_of_some _ q
  rcases q1 with ⟨a, xs, ex, hx, q⟩ | ⟨a, xs, ex, hx, q⟩
  · subst ex
    cases r1
    obtain ⟨its, r, ht, hz⟩ := I5.list hx
    have hlen := r.length
    show wpAny (model X.prog X.w) X.A (subscriptTail e (.Slice none none (some (.UnaryOp .USub (.Constant (.int 1) i1 pa) pb)) pc) (.ref a) (.ref s4.heap.objs.size)) (EP X pins σ Q) X.xe { s4 with heap := s4.heap.push { cls := .type "slice", data := .fields #[vl, vu, vs] } }
    refine tail_any (ops := [.ref a, .ref s4.heap.objs.size]) ht.isList.typeIs (PySem.slot_list_getitem.lookup) ?_ (by with_unfolding_all rfl)
    refine wpAny_getItem_list_slice ht.isList (Heap.IsSliceOf.new _ vl vu vs) pl pu ps (by decide) ?_ (by rw [List.size_toArray]; omega)
    rw [PySem.W.krv_pick]
    refine ⟨.ref _, _, I5.laid (t' := s4.toks) (o := .lst xs.reverse) (fun b ob q => Heap.get?_push_of_some _ q) (Nat.le_refl _) ?_, rfl, q _ (I5.hok.fresh (Nat.le_refl _))⟩
    exact ⟨by rw [List.length_reverse]; exact hz, _, 0, r.reverse, Heap.get?_push_size _ rfl⟩
  · subst ex
    cases r1
    obtain ⟨its, r, ht, hz⟩ := I5.tuple hx
    have hlen := r.length
    show wpAny (model X.prog X.w) X.A (subscriptTail e (.Slice none none (some (.UnaryOp .USub (.Constant (.int 1) i1 pa) pb)) pc) (.ref a) (.ref s4.heap.objs.size)) (EP X pins σ Q) X.xe { s4 with heap := s4.heap.push { cls := .type "slice", data := .fields #[vl, vu, vs] } }
    refine tail_any (ops := [.ref a, .ref s4.heap.objs.size]) ht.typeIs (PyProof.Rows.slot_tuple_getitem.lookup) ?_ (by with_unfolding_all rfl)
    refine tupBack ht (Heap.IsSliceOf.new _ vl vu vs) pl pu ps ?_ (by rw [List.size_toArray]; omega)
    refine ⟨.ref _, _, I5.laid (t' := s4.toks) (o := .tup xs.reverse) (fun b ob q => Heap.get?_push_of_some _ q) (Nat.le_refl _) ?_, rfl, q _ (I5.hok.fresh (Nat.le_refl _))⟩
    exact ⟨by rw [List.length_reverse]; exact hz, _, r.reverse, IsTup.new _ _⟩
end
section
variable {F : Fr} {X : Cx} {W : WX} {e : Expr} {fa : EF}
theorem HoldsL.reverse {H : Hp} {A : Addr → Prop} : ∀ {ds : List D} {vs : List V}, HoldsL H A ds vs → HoldsL H A ds.reverse vs.reverse
  | [], _, rfl => rfl
  | d :: ds, _, ⟨v, r, rfl, h1, h2⟩ => by
    rw [List.reverse_cons, List.reverse_cons]
    exact (HoldsL.reverse h2).append ⟨v, [], rfl, h1, rfl⟩
def opBack : D → R D
  | .lst xs => .ok (.lst xs.reverse)
  | .tup xs => .ok (.tup xs.reverse)
  | _ => .no
theorem de_back {i1 : Nat} {pa pb pc pd : Pos} (ha : DB F X W e fa) : DE F X W (.Subscript e (.Slice none none (some (.UnaryOp .USub (.Constant (.int 1) i1 pa) pb)) pc) pd) (eUn opBack fa) :=
  ⟨PE.weak (pe_back ha.pe) fun σ H Q ⟨sd, rel, p⟩ => te1s (b := true) rel p fun d q v H2 r2 hv p2 => by
    have dm : ∀ a, Av F σ sd a → H2 a ≠ none := fun a z => r2.dom z
    unfold opBack at p2
    split at p2
    · obtain ⟨a, vs, rfl, r, l⟩ := hv
      exact .inl ⟨a, vs, rfl, SqL.of r, new_lst dm p2 (HoldsL.reverse l)⟩
    · obtain ⟨a, vs, rfl, na, r, l⟩ := hv
      exact .inr ⟨a, vs, rfl, SqT.of r, fun q hq => p2 _ _ (same_upd hq) ⟨q, _, rfl, fun z => dm q z hq, upd_same, (HoldsL.reverse l).same (same_upd hq)⟩⟩
    · exact p2.elim⟩
end
/-- int(e), a truth value too -/
def opIntB : List D → R D
  | [.bl k] => .ok (.int (if k then 1 else 0))
  | ds => opInt ds
theorem ok_intB : CallOk rIntA opIntB := by
  intro mg W σ A ds vs H Q dm hv p
  unfold opIntB at p
  split at p
  · obtain ⟨v, r, rfl, h, rfl⟩ := hv
    cases h
    exact .inl (.inr ⟨_, rfl, ok_p p rfl⟩)
  · exact ok_int mg W σ A _ vs H Q dm hv p
end DS
set_option Elab.async false
set_option linter.all false
set_option maxRecDepth 100000
set_option maxHeartbeats 4000000
/-! defs with defaults, called with all parameters written. -/
namespace DS
open PySem PySem.Spec L2 PyProof.Rows
section
variable {P : Program} {w : World} {K : PySem.W.Frag} {mg : Str → Option Value} {base : Heap} {dvs : List V} {kws : List (Str × V)}
theorem FunD.okX {x qual : Str} {st : Stmt} {f : Addr} {fd : FuncData} {N ps : List Str} {k : Nat} {sp : Sp} (Fn : L2.FunD K x qual (defArgs st) (defBody st) (defScope st) dvs kws f fd) (S : FnScope N ps (defScope st)) (len : ∀ vs H Q E, sp vs H Q E → vs.length = ps.length)
    (hb : ∀ (cdv : Value) (A : Around) (outer : List Env) (s : Shared) (H : Hp) (vs : List V) (Q : VK) (E : XK), Room k (A.deeper (envOfC qual (defScope st) s.heap.objs.size f cdv)) → sp vs H Q E →
      ∃ t, PSs (cxOf (L2.CX P w) P w K mg base N qual (defScope st) f cdv A outer s H E) (defBody st) t ∧ t { nx := fun _ H2 => Q .non H2, rt := Q } (start N vs) H) : FnOk P w K mg base (L2.CX P w) (k + 1) f fd ps sp := by
  obtain ⟨oc, od, dV, kV, doc, pm, an, cdv, ct, osl, rfl, lk, hcd, _, _⟩ := Fn.ex
  exact fn_of lk hcd S len fun A outer s H vs Q E hr hsp => hb cdv A outer s H vs Q E hr hsp
theorem fnI_okD {x qual : Str} {st : Stmt} {f C : Addr} {fd : FuncData} {N ps : List Str} {k kk n : Nat} {body : SF} (Fn : L2.FunD K x qual (defArgs st) (defBody st) (defScope st) dvs kws f fd) (S : FnScope N ps (defScope st)) (hn : ps.length = n) (hk : N.length - n = kk)
    (hb : ∀ (F : Fr) (W : WX) (cdv : Value) (A : Around) (outer : List Env) (s : Shared) (H : Hp) (E : XK), Room k (A.deeper (envOfC qual (defScope st) s.heap.objs.size f cdv)) →
      Takes (cxOf (L2.CX P w) P w K mg base N qual (defScope st) f cdv A outer s H E) W → PassesOwn (model P w) (A.deeper (envOfC qual (defScope st) s.heap.objs.size f cdv)) (envOfC qual (defScope st) s.heap.objs.size f cdv) (cxOf (L2.CX P w) P w K mg base N qual (defScope st) f cdv A outer s H E).xe →
      DXs F (cxOf (L2.CX P w) P w K mg base N qual (defScope st) f cdv A outer s H E) W (defBody st) body) :
    FnOk P w K mg base (L2.CX P w) (k + 1) f fd ps (spI mg C n (runI C kk body)) := by
  subst hn
  refine FunD.okX Fn S (fun vs H Q E h => h.1) fun cdv A outer s H vs Q E hr h => ?_
  obtain ⟨hl, x, dx, rest, ds, B, rfl, hx, hh, hB, nB, p⟩ := h
  refine ⟨_, (hb ⟨fun b => if b = x then none else H b, B, x⟩ (fun cls d _ H2 => E cls d H2) cdv A outer s H E hr (takes_of rfl rfl rfl rfl) (passes_of rfl)).ps, ?_⟩
  exact bodyI_end hx hh hB nB (by rw [← hk, ← hl]; rfl) p
theorem fn_okD {x qual : Str} {st : Stmt} {f : Addr} {fd : FuncData} {N ps : List Str} {k kk n : Nat} {body : SF} (Fn : L2.FunD K x qual (defArgs st) (defBody st) (defScope st) dvs kws f fd) (S : FnScope N ps (defScope st)) (hn : ps.length = n) (hk : N.length - n = kk)
    (hb : ∀ (F : Fr) (W : WX) (cdv : Value) (A : Around) (outer : List Env) (s : Shared) (H : Hp) (E : XK), Room k (A.deeper (envOfC qual (defScope st) s.heap.objs.size f cdv)) →
      Takes (cxOf (L2.CX P w) P w K mg base N qual (defScope st) f cdv A outer s H E) W → PassesOwn (model P w) (A.deeper (envOfC qual (defScope st) s.heap.objs.size f cdv)) (envOfC qual (defScope st) s.heap.objs.size f cdv) (cxOf (L2.CX P w) P w K mg base N qual (defScope st) f cdv A outer s H E).xe →
      DXs F (cxOf (L2.CX P w) P w K mg base N qual (defScope st) f cdv A outer s H E) W (defBody st) body) :
    FnOk P w K mg base (L2.CX P w) (k + 1) f fd ps (spD mg n (runD kk body)) := by
  subst hn
  refine FunD.okX Fn S (fun vs H Q E h => h.1) fun cdv A outer s H vs Q E hr h => ?_
  obtain ⟨hl, ds, B, hh, hB, p⟩ := h
  refine ⟨_, (hb ⟨H, B, 0⟩ (fun cls d _ H2 => E cls d H2) cdv A outer s H E hr (takes_of rfl rfl rfl rfl) (passes_of rfl)).ps, ?_⟩
  exact body_end (X := cxOf (L2.CX P w) P w K mg base N qual (defScope st) f cdv A outer s H E) hh hB (by rw [hl]; exact hk) p
theorem bindsP {x qual : Str} {params : Arguments} {body : List Stmt} {scope : Scope} {f : Addr} {fd : FuncData} {ps : List Str} (Fn : L2.FunD K x qual params body scope dvs kws f fd) (hd : dvs ≠ [])
    (h : ∀ (T : Addr) (kV doc pm : Value) (an : Option Addr) (cdv ct : Value) (us its : List Value), us.length = ps.length → its.length = dvs.length →
      ∃ k, bindArgs (PySem.W.fnOf x qual params body scope (.ref T) kV doc pm an cdv ct) ⟨us, []⟩ = seqItems? (.ref T) >>= k ∧ k (some its.toArray) = pure (ps.zip us)) : Binds K fd ps [] := by
  obtain ⟨ds, hv, hb⟩ := Fn.binds1 (ps := ps) ps.length dvs.length hd (by omega) fun T kV doc pm an cdv ct us its h1 h2 => by
    obtain ⟨k, e1, e2⟩ := h T kV doc pm an cdv ct us its h1 h2
    refine ⟨k, e1, ?_⟩
    rw [e2, List.drop_eq_nil_of_le (Nat.le_of_eq h2), List.append_nil]
  rw [List.drop_eq_nil_of_le (Nat.le_refl _)] at hv
  cases hv
  exact hb
end
end DS
set_option Elab.async false
set_option linter.all false
set_option maxRecDepth 100000
set_option maxHeartbeats 4000000
/-! own == and what != makes of it. -/
namespace DS
open PySem PySem.Spec L2 PyProof.Rows
section
variable {M : Model} {prog : Program} {w : World} {A : Around} {E : Value → Shared → Prop} {s : Shared} {K : PySem.W.Frag} {x C f L : Addr} {h₀ : Heap} {m : Str → Option Value} {ox : Obj} {od : Option Obj} {b tb : Value}
theorem neBound {args : List Value} {Z : Option Value → Shared → Prop} (X : K.In s.heap) (I : PySem.W.InstAt s.heap x ox C od) (hs : PySem.W.findIn K (.ref C) "__ne__" = some (some (.builtin "object.__ne__")))
    (h : wpAny M A (call (.builtin "object.__ne__") (.ref x :: args)) (fun v => Z (some v)) E s) : wpAny M A (callSpecialIfBound? (.ref x) "__ne__" args) Z E s := by
  simp only [callSpecialIfBound?, bindSpecialIfBound?]
  refine wpAny_holding (wpAny_bind (wpAny_bind (wpAny_bind (I.type.here ((PySem.W.looks_findIn X hs).here ?_)))))
  refine wpAny_bind (wpAny_askSetting (wpAny_ite ?_))
  have fin : wpAny M A (call (.builtin "object.__ne__") ([.ref x] ++ args) >>= fun v => pure (some v)) Z E s := wpAny_bind (wpAny_mono h (fun v s' z => wpAny_pure z) fun _ _ z => z)
  split
  · exact wpAny_bind (wpAny_of_eq (F.cmp_object.ne.bind _) (wpAny_pure (by exact fin)))
  · exact wpAny_tryCatch (wpAny_bind (wpAny_of_eq (F.cmp_object.ne.bind _) (wpAny_pure (by exact fin))))
/-- object.__ne__ turns the own == around -/
theorem neEntry {Z : Fin → Shared → Prop} (hu : A.units < cLine) (X : K.In s.heap) (I : PySem.W.InstAt s.heap x ox C od) (hs : PySem.W.findIn K (.ref C) "__eq__" = some (some (.ref f))) (hf : PySem.W.isFn K (.ref f) = true)
    (h : wpAny (model prog w) A (call (.ref f) [.ref x, b]) (fun v s' => ∃ r, v = .bool r ∧ Z (.done (.ret (.bool (!r)))) s') E s) :
    wpAny (model prog w) A (Builtin.«object.__ne__» ⟨[.ref x, b], []⟩) Z E s := by
  unfold Builtin.«object.__ne__»
  repeat (first
    | with_reducible refine wpAny_cRoomFor hu ?_
    | (refine wpAny_bind (m := callSpecialIfBound? (.ref x) (Str.ofString "__eq__") [b])
        (PySem.W.ifBound_K X I hs hf (wpAny_mono h (fun r s' hr => by
          obtain ⟨q, rfl, hq⟩ := hr
          repeat (first | exact hq | exact wpAny_pure hq | exact wpAny_truthy_bool hq | (refine wpAny_bind (m := truthy (.bool _)) (wpAny_truthy_bool ?_)) | wp_step)) fun _ _ e => e)))
    | wp_step)
theorem ne_K {Q : Value → Shared → Prop} (hu : A.units + 1 < cLine) (X : K.In s.heap) (I : PySem.W.InstAt s.heap x ox C od) (hb : PySem.W.Looks (model prog w) s.heap (typeOf b) tb) (hn : PySem.W.notFirst K C tb = true)
    (hs : PySem.W.findIn K (.ref C) "__eq__" = some (some (.ref f))) (hf : PySem.W.isFn K (.ref f) = true) (hs2 : PySem.W.findIn K (.ref C) "__ne__" = some (some (.builtin "object.__ne__"))) (hm : PySem.W.mroIn K C (.type "object") = some true)
    (h : wpAny (model prog w) A.in1 (call (.ref f) [.ref x, b]) (fun v s' => ∃ r, v = .bool r ∧ Q (.bool (!r)) s') E s) : wpAny (model prog w) A (richCompare .NotEq (.ref x) b) Q E s := by
  have one : wpAny (model prog w) A (tryCompare (.ref x) (cmpInfo .NotEq).2.1 b) (fun r s' => ∃ v, r = some v ∧ Q v s') E s := by
    unfold tryCompare
    refine wpAny_bind (neBound X I hs2 (wpAny_call (codeAny_call_builtin F.cmp_object.ne.plain F.cmpEntry_ne (PySem.W.check_slot F.cmpKind_ne F.cmpSplit_ne (I.type.andThen (PySem.W.looks_mroIn X hm)) (F.cmpArgs_ne _ _)
      (neEntry (A := A.in1) hu X I hs hf (wpAny_mono h (fun v s' hv => ?_) fun _ _ e => e))))))
    obtain ⟨r, rfl, hq⟩ := hv
    refine ⟨r, rfl, ?_⟩
    first | exact ⟨_, rfl, wpAny_pure ⟨_, rfl, hq⟩⟩ | exact wpAny_pure ⟨_, rfl, hq⟩
  unfold richCompare
  simp only [oneThing_ref]
  refine wpAny_holding (wpAny_bind (wpAny_cRoomFor (Nat.lt_of_succ_lt hu) ?_))
  refine wpAny_bind (I.type.here (wpAny_bind (hb.here ?_)))
  split
  · rename_i q
    have e : PySem.W.subIn K tb (.ref C) = some false := by
      rcases Bool.or_eq_true_iff.mp hn with e | e
      · rw [beq_iff_eq.mp e] at q; simp at q
      · exact beq_iff_eq.mp e
    refine wpAny_bind ((PySem.W.looks_subIn X e).here ?_)
    simp only [Bool.false_eq_true, if_false]
    refine wpAny_bind (wpAny_mono one (fun r s' z => ?_) fun _ _ e => e)
    obtain ⟨v, rfl, hq⟩ := z
    exact wpAny_pure hq
  · refine wpAny_bind (wpAny_pure ?_)
    simp only [Bool.false_eq_true, if_false]
    refine wpAny_bind (wpAny_mono one (fun r s' z => ?_) fun _ _ e => e)
    obtain ⟨v, rfl, hq⟩ := z
    exact wpAny_pure hq
end
variable {F : Fr} {X : Cx} {W : WX} {a b c e : Expr} {fa fb fc : EF} {pos : Pos}
/-- a kind of the right operand: no class below C -/
def KndOk (K : PySem.W.Frag) (C : Addr) (t : Tag) : Prop := PySem.W.notFirst K C t.ty = true ∧ match t with
  | .ins C2 => TyC K C2
  | .exc _ => False
  | .oth => False
  | _ => True
theorem knd_ty {K : PySem.W.Frag} {H : Hp} {A : Addr → Prop} {C : Addr} {d : D} {v : V} (h : HoldsB H A d v) (o : KndOk K C (tagD d)) : TyX K H v (tagD d).ty := by
  cases d with
  | non => cases h; exact .base .non
  | bl b => cases h; exact .base (.bl _)
  | int b => cases h; exact .base (.int _)
  | str b => cases h; exact .base (.str _)
  | scr xs =>
    obtain ⟨a, rfl, _, r⟩ := h
    rcases r with r | ⟨o, r⟩
    · exact .base (.lst r)
    · exact .base (.frz r)
  | lst xs => obtain ⟨a, vs, rfl, r, _⟩ := h; exact .base (.lst r)
  | tup xs => obtain ⟨a, vs, rfl, _, r, _⟩ := h; exact .base (.tup r)
  | dk xs =>
    obtain ⟨a, vs, rfl, r, _⟩ := h
    rcases r with r | ⟨o, r⟩
    · exact .base (.dK r)
    · exact .fDict r
  | ins C2 fs => obtain ⟨a, dx, ws, rfl, r, _⟩ := h; exact .base (.ins r o.2.c o.2.f o.2.g o.2.t o.2.m)
  | kt T xs => exact o.2.elim
  | exc c C fs => exact o.2.elim
def opEqO (C : Addr) (ts : List Tag) (g : List D → R D) (x y : D) : R D := match x with
  | .ins C' fs => if C' = C ∧ tagD y ∈ ts then g [.ins C' fs, y] else .no
  | _ => .no
def notB : D → R D
  | .bl k => .ok (.bl (!k))
  | _ => .no
def opNeO (C : Addr) (ts : List Tag) (g : List D → R D) (x y : D) : R D := (opEqO C ts g x y).bind notB
def REq (X : Cx) (C : Addr) (g : List D → R D) (Z : VK) (E : XK) (x y : V) (H2 : Hp) : Prop := ∃ p dx ws t, x = .ref p ∧ H2 p = some (.ins C dx ws) ∧ TyX X.K H2 y t ∧ PySem.W.notFirst X.K C t = true ∧ spD X.mg 2 g [x, y] H2 Z E
theorem eqO_read {C : Addr} {ts : List Tag} {gf : List D → R D} {Q : VK} {σ : L2.St} {H : Hp} {sd : SD} (hts : ∀ t ∈ ts, KndOk X.K C t) (rel : Rel F σ H sd) (p : Post false X.mg W σ (Av F σ sd) (eBin (opEqO C ts gf) fa fb sd) H Q) :
    TEx false F X.mg W fa σ H fun v H1 => TEx false F X.mg W fb σ H1 fun w H2 => REq X C gf Q (WE W σ) v w H2 :=
  te2s (b1 := false) (b2 := false) (b' := false) rel p fun d e q1 q2 v w H2 dm h1 h2 p2 => by
    have h1 : Holds H2 (Av F σ sd) d v := h1
    have h2 : Holds H2 (Av F σ sd) e w := h2
    cases d with
    | ins C' fs =>
      unfold opEqO at p2
      dsimp only at p2
      by_cases hC : C' = C ∧ tagD e ∈ ts
      · rw [if_pos hC] at p2
        obtain ⟨hC1, hC2⟩ := hC
        subst hC1
        have h1c := h1
        obtain ⟨a1, dx, ws, rfl, na, r, l⟩ := h1
        exact ⟨a1, dx, ws, _, rfl, r, knd_ty h2.b (hts _ hC2), (hts _ hC2).1, rfl, [_, _], Av F σ sd, ⟨_, _, rfl, h1c, _, _, rfl, h2, rfl⟩, dm, PostD.of p2⟩
      · rw [if_neg hC] at p2; exact p2.elim
    | _ => exact p2.elim
theorem neO_read {C : Addr} {ts : List Tag} {gf : List D → R D} {Q : VK} {σ : L2.St} {H : Hp} {sd : SD} (hts : ∀ t ∈ ts, KndOk X.K C t) (rel : Rel F σ H sd) (p : Post false X.mg W σ (Av F σ sd) (eBin (opNeO C ts gf) fa fb sd) H Q) :
    TEx false F X.mg W fa σ H fun v H1 => TEx false F X.mg W fb σ H1 fun w H2 => REq X C gf (fun z H3 => ∃ k, z = .bl k ∧ Q (.bl (!k)) H3) (WE W σ) v w H2 :=
  te2s (b1 := false) (b2 := false) (b' := false) (op := opNeO C ts gf) rel p fun d e q1 q2 v w H2 dm h1 h2 p2 => by
    have h1 : Holds H2 (Av F σ sd) d v := h1
    have h2 : Holds H2 (Av F σ sd) e w := h2
    cases d with
    | ins C' fs =>
      unfold opNeO opEqO at p2
      dsimp only at p2
      by_cases hC : C' = C ∧ tagD e ∈ ts
      · rw [if_pos hC] at p2
        obtain ⟨hC1, hC2⟩ := hC
        subst hC1
        have h1c := h1
        obtain ⟨a1, dx, ws, rfl, na, r, l⟩ := h1
        refine ⟨a1, dx, ws, _, rfl, r, knd_ty h2.b (hts _ hC2), (hts _ hC2).1, rfl, [_, _], Av F σ sd, ⟨_, _, rfl, h1c, _, _, rfl, h2, rfl⟩, dm, PostD.of ?_⟩
        cases hg : gf [.ins C' fs, e] with
        | no => rw [hg] at p2; exact p2
        | ex c xs => rw [hg] at p2; exact p2
        | ok r =>
          rw [hg, R.bind_ok] at p2
          cases r with
          | bl k =>
            intro z H3 s3 hz
            cases hz
            exact ⟨k, rfl, p2 _ H3 s3 rfl⟩
          | _ => exact p2.elim
      · rw [if_neg hC] at p2; exact p2.elim
    | _ => exact p2.elim
theorem pc_eqO {C : Addr} {ts : List Tag} {k k' : Nat} {gf : List D → R D} (G : GSp X.prog X.w X.K X.mg X.base k "__eq__" C 2 gf) (hts : ∀ t ∈ ts, KndOk X.K C t) (hr : Room k' X.A) (tk : Takes X W) (ha : DE F X W a fa) (hb : DE F X W b fb) (hkk : k ≤ k') :
    PC X .Eq a b (TEx false F X.mg W (eBin (opEqO C ts gf) fa fb)) := by
  obtain ⟨f, fd, ps, G, hf, hfn, hfi, hb2⟩ := G
  refine ⟨fun pins s σ H Q I ⟨sd, rel, p⟩ => ?_⟩
  refine binT ha.pe hb.pe I (R := REq X C gf Q (WE W σ)) (eqO_read hts rel p) fun v u s2 x y H2 I2 rx ry q => ?_
  obtain ⟨a1, dx, ws, t, rfl, r, ty, hn, q⟩ := q
  cases (show v = Value.ref a1 from rx)
  obtain ⟨od, J⟩ := ins_inst I2 r
  obtain ⟨m, hF⟩ := I2.fr
  obtain ⟨P, kx, hP, _⟩ := kit_of I2 ry ty
  unfold compareOp
  refine PySem.W.cmp_K (op := .Eq) (f := f) hr.units0 hF I2.ok.mod.kin J (kx.ty _ _ I2.kIn hP) hn hf hfn ?_
  refine wpAny_mono (run_fnS (E := WE W) (us := [.ref a1, u]) (vs := [.ref a1, y]) G (hr.mono hkk) hb2 (passAt tk σ) I2 (.cons rfl (.cons ry .nil)) q) (fun w s' z => ?_) fun _ _ x => x
  obtain ⟨z', H', I', rz, qz⟩ := z
  exact SlX.cmpback rz ⟨z', H', I', rz, qz⟩
theorem pc_neO {C : Addr} {ts : List Tag} {k k' : Nat} {gf : List D → R D} (G : GSp X.prog X.w X.K X.mg X.base k "__eq__" C 2 gf) (hts : ∀ t ∈ ts, KndOk X.K C t) (hn2 : PySem.W.findIn X.K (.ref C) "__ne__" = some (some (.builtin "object.__ne__"))) (ho : PySem.W.mroIn X.K C (.type "object") = some true)
    (hr : Room k' X.A) (tk : Takes X W) (ha : DE F X W a fa) (hb : DE F X W b fb) (hkk : k + 1 ≤ k') :
    PC X .NotEq a b (TEx false F X.mg W (eBin (opNeO C ts gf) fa fb)) := by
  obtain ⟨f, fd, ps, G, hf, hfn, hfi, hb2⟩ := G
  refine ⟨fun pins s σ H Q I ⟨sd, rel, p⟩ => ?_⟩
  refine binT ha.pe hb.pe I (R := REq X C gf (fun z H3 => ∃ k, z = .bl k ∧ Q (.bl (!k)) H3) (WE W σ)) (neO_read hts rel p) fun v u s2 x y H2 I2 rx ry q => ?_
  obtain ⟨a1, dx, ws, t, rfl, r, ty, hn, q⟩ := q
  cases (show v = Value.ref a1 from rx)
  obtain ⟨od, J⟩ := ins_inst I2 r
  obtain ⟨P, kx, hP, _⟩ := kit_of I2 ry ty
  unfold compareOp
  refine ne_K (f := f) (by have := hr.units; omega) I2.kIn J (kx.ty _ _ I2.kIn hP) hn hf hfn hn2 ho ?_
  refine wpAny_mono (run_fn1 (E := WE W) (us := [.ref a1, u]) (vs := [.ref a1, y]) G (hr.mono hkk) hb2 (passAt tk σ) I2 (.cons rfl (.cons ry .nil)) q) (fun w s' z => ?_) fun _ _ x => x
  obtain ⟨z', H', I', rz, k1, rfl, qz⟩ := z
  cases (show w = Value.bool k1 from rz)
  exact ⟨k1, rfl, .bl (!k1), H', I', rfl, qz⟩
section
variable {C : Addr} {ts : List Tag} {k k' : Nat} {gf : List D → R D} (G : GSp X.prog X.w X.K X.mg X.base k "__eq__" C 2 gf) (hts : ∀ t ∈ ts, KndOk X.K C t) (hr : Room k' X.A) (tk : Takes X W)
include G hts hr tk
theorem de_eqO (ha : DE F X W a fa) (hb : DE F X W b fb) (hkk : k ≤ k' := by decide) : DE F X W (.Compare a [.Eq] [b] pos) (eBin (opEqO C ts gf) fa fb) :=
  ⟨pe_cmp (pc_eqO G hts hr tk ha hb hkk) (nobehind b (by decide) (by decide))⟩
theorem dt_eqO (ha : DE F X W a fa) (hb : DE F X W b fb) (hkk : k ≤ k' := by decide) : DT F X W (.Compare a [.Eq] [b] pos) (tVal (eBin (opEqO C ts gf) fa fb)) :=
  ⟨PT.weak (pt_cmp (pc_eqO G hts hr tk ha hb hkk) (nobehind b (by decide) (by decide))) fun σ H Q ⟨sd, rel, p⟩ => ⟨sd, rel, post_of_t p⟩⟩
theorem de_neO (hn2 : PySem.W.findIn X.K (.ref C) "__ne__" = some (some (.builtin "object.__ne__"))) (ho : PySem.W.mroIn X.K C (.type "object") = some true) (ha : DE F X W a fa) (hb : DE F X W b fb) (hkk : k + 1 ≤ k' := by decide) :
    DE F X W (.Compare a [.NotEq] [b] pos) (eBin (opNeO C ts gf) fa fb) :=
  ⟨pe_cmp (pc_neO G hts hn2 ho hr tk ha hb hkk) (nobehind b (by decide) (by decide))⟩
theorem dt_neO (hn2 : PySem.W.findIn X.K (.ref C) "__ne__" = some (some (.builtin "object.__ne__"))) (ho : PySem.W.mroIn X.K C (.type "object") = some true) (ha : DE F X W a fa) (hb : DE F X W b fb) (hkk : k + 1 ≤ k' := by decide) :
    DT F X W (.Compare a [.NotEq] [b] pos) (tVal (eBin (opNeO C ts gf) fa fb)) :=
  ⟨PT.weak (pt_cmp (pc_neO G hts hn2 ho hr tk ha hb hkk) (nobehind b (by decide) (by decide))) fun σ H Q ⟨sd, rel, p⟩ => ⟨sd, rel, post_of_t p⟩⟩
end
/-- the head's tests -/
def tKnd (x : Str) (ts : List TagN) (K : PySem.W.Frag) : Bool := ts.all fun t => PySem.W.notFirst K (He.ga K x) (t.t K).ty
def tNe (x : Str) (K : PySem.W.Frag) : Bool := He.eqO (PySem.W.findIn K (.ref (He.ga K x)) "__ne__") (some (some (.builtin "object.__ne__"))) && decide (PySem.W.mroIn K (He.ga K x) (.type "object") = some true)
theorem tNe_ok {x : Str} {K : PySem.W.Frag} (h : tNe x K = true) : PySem.W.findIn K (.ref (He.ga K x)) "__ne__" = some (some (.builtin "object.__ne__")) ∧ PySem.W.mroIn K (He.ga K x) (.type "object") = some true := by
  unfold tNe at h
  rw [Bool.and_eq_true] at h
  exact ⟨He.eqO_ok h.1, of_decide_eq_true h.2⟩
def kTs (K : PySem.W.Frag) (ts : List TagN) : List Tag := ts.map (·.t K)
theorem tKnd_ok {x : Str} {ts : List TagN} {K : PySem.W.Frag} (h : tKnd x ts K = true) (hc : tyAll K (ts.map fun t => (t, true))) : ∀ t ∈ kTs K ts, KndOk K (He.ga K x) t := by
  intro t ht
  obtain ⟨q, hq, rfl⟩ := List.mem_map.mp ht
  refine ⟨List.all_eq_true.mp h q hq, ?_⟩
  cases q with
  | i y => exact tyAll_mem hc y true (List.mem_map.mpr ⟨_, hq, rfl⟩)
  | _ => exact True.intro
end DS
set_option Elab.async false
set_option linter.all false
set_option maxRecDepth 100000
set_option maxHeartbeats 4000000
/-! f-strings of texts and ints; str(x) by an own __str__. -/
namespace DS
open PySem PySem.Spec L2 PyProof.Rows
variable {F : Fr} {X : Cx} {W : WX} {a b c e : Expr} {fa fb fc : EF} {pos : Pos}
def opFmt : D → R D
  | .str y => if y.length ≤ sizeLine then .ok (.str y) else .no
  | .int i => if i.natAbs.log2 < 1920 then .ok (.str (toString i)) else .no
  | _ => .no
theorem de_fmt (ha : DE F X W a fa) : DE F X W (.FormattedValue a (-1) none pos) (eUn opFmt fa) :=
  ⟨PE.weak (pe_fmt ha.pe) fun σ H Q ⟨sd, rel, p⟩ => te1S (b := false) (b' := false) rel p fun d q v H1 s1 r1 hv p1 => by
    have hv : Holds H1 (Av F σ sd) d v := hv
    unfold opFmt at p1
    split at p1
    · cases hv
      split at p1
      · rename_i hl
        exact .inl ⟨_, rfl, hl, p1 _ H1 (Same.refl _) rfl⟩
      · exact p1.elim
    · cases hv
      split at p1
      · rename_i hl
        exact .inr ⟨_, rfl, hl, p1 _ H1 (Same.refl _) rfl⟩
      · exact p1.elim
    · exact p1.elim⟩
/-- the texts of the parts, one behind another -/
def jsD : List EF → Str → EF
  | [], acc, _ => .ok (.str acc)
  | f :: fs, acc, s => (f s).bind fun d => match d with
    | .str y => if (acc ++ y).length ≤ sizeLine then jsD fs (acc ++ y) s else .no
    | _ => .no
inductive DJ (F : Fr) (X : Cx) (W : WX) : List Expr → List EF → Prop
  | nil : DJ F X W [] []
  | cons {e : Expr} {f : EF} {es : List Expr} {fs : List EF} (h : DE F X W e f) (r : DJ F X W es fs) : DJ F X W (e :: es) (f :: fs)
theorem DJ.pj {es : List Expr} {fs : List EF} (h : DJ F X W es fs) : PJ X es (fs.map fun f => TEx false F X.mg W f) := by
  induction h with
  | nil => exact .nil
  | cons h r ih => exact .cons h.pe ih
theorem js_read : ∀ (fs : List EF) (acc : Str) (σ : L2.St) (H : Hp) (Q : VK), TEx false F X.mg W (jsD fs acc) σ H Q → tJs (fs.map fun f => TEx false F X.mg W f) acc σ H fun out H1 => Q (.str out) H1
  | [], acc, σ, H, Q, ⟨sd, rel, p⟩ => p _ H (Same.refl H) rfl
  | f :: fs, acc, σ, H, Q, ⟨sd, rel, p⟩ => te1S (b := false) (b' := false) (fa := f) (op := fun d => match d with
    | .str y => if (acc ++ y).length ≤ sizeLine then jsD fs (acc ++ y) sd else .no
    | _ => .no) rel p fun d q v H1 s1 r1 hv p1 => by
    have hv : Holds H1 (Av F σ sd) d v := hv
    cases d with
    | str y =>
      cases hv
      dsimp only at p1
      split at p1
      · rename_i hl
        exact ⟨y, rfl, hl, js_read fs (acc ++ y) σ H1 Q ⟨sd, r1, p1⟩⟩
      · exact p1.elim
    | _ => exact p1.elim
theorem de_joined {v1 v2 : Expr} {rest : List Expr} {fs : List EF} (h : DJ F X W (v1 :: v2 :: rest) fs) : DE F X W (.JoinedStr (v1 :: v2 :: rest) pos) (jsD fs Str.empty) :=
  ⟨PE.weak (pe_joined h.pj) fun σ H Q q => js_read fs Str.empty σ H Q q⟩
theorem de_joined1 (h : DE F X W a fa) : DE F X W (.JoinedStr [a] pos) fa := ⟨pe_joined1 h.pe⟩
/-! ### str(x) -/
theorem run_fn2 {CX : CXT} {k : Nat} {f : Addr} {fd : FuncData} {ps : List Str} {sp : Sp} {E : L2.St → XK} {pins : List (Addr × Obj)} {σ : L2.St} {H : Hp} {s : Shared} {Q : VK} {us : List Value} {vs : List V} (Fn : FnOk X.prog X.w X.K X.mg X.base CX k f fd ps sp) (hr : Room (k + 2) X.A) (hb : Binds X.K fd ps []) (hx : PassesAt CX X σ (E σ))
    (I : Inv X pins σ H s) (r : Vals vs us) (h : sp vs H Q (E σ)) : wpAny (model X.prog X.w) X.A.in1.in1 (call (.ref f) us) (EP X pins σ Q) X.xe s := by
  have hl : us.length = ps.length := by rw [← r.length]; exact Fn.len _ _ _ _ h
  have b := hb s us I.kIn (by rw [List.append_nil]; exact hl)
  rw [List.append_nil] at b
  refine wpAny_call (codeAny_mono (Fn.run X.A.in1.in1 X.stack s H ⟨us, []⟩ us vs Q (E σ) hr.in1.in1 I.env0.in1.in1 b r h) fun r s' hq => ?_)
  cases r with
  | error e => exact hx pins H s e s' I hq
  | ok fl =>
    cases fl with
    | ret u => exact I.after hq
    | next => exact False.elim hq
    | brk => exact False.elim hq
    | cont => exact False.elim hq
def strB : D → R D
  | .str y => .ok (.str y)
  | _ => .no
def opStrO (C : Addr) (g : List D → R D) (x : D) : R D := match x with
  | .ins C' fs => if C' = C then (g [.ins C' fs]).bind strB else .no
  | _ => .no
theorem de_strO {C : Addr} {k k' : Nat} {gf : List D → R D} {x : Str} {p : Pos} (hx : x = "str") (G : GSp X.prog X.w X.K X.mg X.base k "__str__" C 1 gf) (hr : Room k' X.A) (hg : Gl X "str") (hm : X.mg "str" = none) (tk : Takes X W) (ha : DE F X W a fa) (hkk : k + 2 ≤ k' := by decide)
    (he : starEach [a] X.env = (false, eval a X.env) :: starEach [] X.env := by rfl) (hpl : (backTo pos (starEach [] X.env)).any (·.1) = false := by rfl) :
    DE F X W (.Call (.Name x p) [a] [] pos) (eUn (opStrO C gf) fa) := by
  subst hx
  obtain ⟨f, fd, ps, G, hf, hfn, hfi, hb2⟩ := G
  refine ⟨⟨fun pins s σ H Q I ⟨sd, rel, p⟩ => ?_⟩⟩
  refine wpAny_Call_Name_kw (ld_blt I hg hm (by decide +kernel : bootBuiltins "str" = some (.type "str")) ?_ (by decide) (by decide))
  refine PyProof.Rows.callWith_type1 (thn ((pa_cons ha.pe pa_nil he).run pos pins s σ H (fun vs H1 => ∃ a1 dx ws, vs = [.ref a1] ∧ H1 a1 = some (.ins C dx ws) ∧ spD X.mg 1 gf [.ref a1] H1 (fun z H3 => ∃ y, z = .str y ∧ Q (.str y) H3) (WE W σ)) I
    (te1S (b := false) (b' := false) rel p fun d q v H1 s1 r1 hv p1 => ?_)) fun us s1 ⟨vs, H1, I1, r1, q1⟩ => ?_) he hpl
  · have hv : Holds H1 (Av F σ sd) d v := hv
    cases d with
    | ins C' fs =>
      unfold opStrO at p1
      dsimp only at p1
      by_cases hC : C' = C
      · rw [if_pos hC] at p1
        subst hC
        have hvc := hv
        obtain ⟨a1, dx, ws, rfl, na, r, l⟩ := hv
        refine ⟨a1, dx, ws, rfl, r, rfl, [.ins C' fs], Av F σ sd, ⟨_, _, rfl, hvc, rfl⟩, fun a z => r1.dom z, PostD.of ?_⟩
        cases hg : gf [.ins C' fs] with
        | no => rw [hg] at p1; exact p1
        | ex c xs => rw [hg] at p1; exact p1
        | ok r =>
          rw [hg, R.bind_ok] at p1
          cases r with
          | str y =>
            intro z H3 s3 hz
            cases hz
            exact ⟨y, rfl, p1 _ H3 s3 rfl⟩
          | _ => exact p1.elim
      · rw [if_neg hC] at p1; exact p1.elim
    | _ => exact p1.elim
  · obtain ⟨a1, dx, ws, rfl, r, q⟩ := q1
    obtain ⟨u, rfl, ru⟩ := r1.one
    cases (show u = Value.ref a1 from ru)
    obtain ⟨od, J⟩ := ins_inst I1 r
    have hu := hr.units
    refine PySem.W.kso_call (by show X.A.units + 1 + 1 < cLine; omega) I1.kIn J hf hfn ?_
    refine wpAny_mono (run_fn2 (E := WE W) (us := [.ref a1]) (vs := [.ref a1]) G (hr.mono hkk) hb2 (passAt tk σ) I1 (.cons rfl .nil) q) (fun w s' z => ?_) fun _ _ x => x
    obtain ⟨z', H', I', rz, y, rfl, qz⟩ := z
    obtain ⟨t, rfl⟩ := (show ∃ t, w = Value.str y t from rz)
    exact ⟨.str y, H', I', ⟨t, rfl⟩, qz⟩
end DS
set_option Elab.async false
set_option linter.all false
set_option maxRecDepth 100000
set_option maxHeartbeats 4000000
/-! number == x by x's own ==; defs with a written tuple as default. -/
namespace DS
open PySem PySem.Spec L2 PyProof.Rows
variable {F : Fr} {X : Cx} {W : WX} {a b c e : Expr} {fa fb fc : EF} {pos : Pos}
theorem intEqRef (p : Int) (tu : Tok) (ad : Addr) (C dx : Addr) : Meets (Builtin.«int.__eq__» ⟨[.int p tu, .ref ad], []⟩) (fun _ R s => s.heap.get? ad = some (PySem.W.instObj C dx) ∧ R (.ok (.ret Value.notImplemented)) s) :=
  .of_wp fun prog w A R s h => by
    obtain ⟨hp, g, d, tk, os⟩ := s
    obtain ⟨hl, h⟩ := h
    wp_walk using wpAny_load hl
    first
      | exact ⟨_, rfl, h⟩
      | (show wpAny _ _ (pure none) _ _ _
         refine wpAny_pure ?_
         wp_walk
         exact ⟨_, rfl, h⟩)
theorem eqBack_K {prog : Program} {w : World} {A : Around} {E : Value → Shared → Prop} {s : Shared} {K : PySem.W.Frag} {x C f dx : Addr} {p : Int} {tu : Tok} {od : Option Obj} {Q : Value → Shared → Prop} (hu : A.units < cLine) (X : K.In s.heap) (I : PySem.W.InstAt s.heap x (PySem.W.instObj C dx) C od)
    (hs : PySem.W.findIn K (.ref C) "__eq__" = some (some (.ref f))) (hf : PySem.W.isFn K (.ref f) = true) (hm : PySem.W.mroIn K C (.type "int") = some false)
    (h : wpAny (model prog w) A (call (.ref f) [.ref x, .int p tu]) (PySem.W.CmpBack Q) E s) : wpAny (model prog w) A (richCompare .Eq (.int p tu) (.ref x)) Q E s := by
  have one : wpAny (model prog w) A (tryCompare (.int p tu) "__eq__" (.ref x)) (fun r s' => r = none ∧ s' = s) E s :=
    wpAny_tryCompare_declines (typeIs_int s p tu) F.slot_int_eq (call_meets F.slot_int_eq (typeIs_int s p tu) F.entry_int_eq (F.args_int_eq_2 _ _) (intEqRef p tu x C dx) ⟨I.1, rfl, rfl, rfl⟩)
  have two : wpAny (model prog w) A (tryCompare (.ref x) "__eq__" (.int p tu)) (fun r s' => ∃ v, r = some v ∧ Q v s') E s := by
    unfold tryCompare
    refine wpAny_bind (PySem.W.ifBound_K X I hs hf (wpAny_mono h (fun v s' hv => ?_) fun _ _ e => e))
    cases v <;> first | exact hv.elim | exact wpAny_pure ⟨_, rfl, hv⟩
  have hone : oneThing? .Eq (.int p tu) (.ref x) = none := rfl
  simp only [richCompare, cmpInfo_Eq, hone]
  refine wpAny_holding (wpAny_bind (wpAny_cRoomFor hu ?_))
  refine wpAny_bind (wpAny_typeOf (typeIs_int s p tu) ?_)
  refine wpAny_bind (I.type.here ?_)
  split
  · refine wpAny_bind ((PySem.W.looks_mroIn X hm).here ?_)
    simp only [Bool.false_eq_true, if_false, Bool.not_false, if_true]
    refine wpAny_bind (wpAny_mono one (fun r s1 z => ?_) fun _ _ e => e)
    obtain ⟨z1, z2⟩ := z
    subst z1
    subst z2
    refine wpAny_bind (wpAny_mono two (fun r s2 z => ?_) fun _ _ e => e)
    obtain ⟨v, rfl, hq⟩ := z
    exact wpAny_pure hq
  · rename_i q
    exact absurd (by simp) q
def opEqR (C : Addr) (g : List D → R D) (x y : D) : R D := match x, y with
  | .int i, .ins C' fs => if C' = C then g [.ins C' fs, .int i] else .no
  | _, _ => .no
theorem pc_eqR {C : Addr} {k k' : Nat} {gf : List D → R D} (G : GSp X.prog X.w X.K X.mg X.base k "__eq__" C 2 gf) (hm : PySem.W.mroIn X.K C (.type "int") = some false) (hr : Room k' X.A) (tk : Takes X W) (ha : DE F X W a fa) (hb : DE F X W b fb) (hkk : k ≤ k') :
    PC X .Eq a b (TEx false F X.mg W (eBin (opEqR C gf) fa fb)) := by
  obtain ⟨f, fd, ps, G, hf, hfn, hfi, hb2⟩ := G
  refine ⟨fun pins s σ H Q I ⟨sd, rel, p⟩ => ?_⟩
  refine binT ha.pe hb.pe I (R := fun x y H2 => ∃ i q dx ws, x = .int i ∧ y = .ref q ∧ H2 q = some (.ins C dx ws) ∧ spD X.mg 2 gf [y, x] H2 Q (WE W σ)) (te2s (b1 := false) (b2 := false) (b' := false) rel p fun d e q1 q2 v w H2 dm h1 h2 p2 => ?_) fun v u s2 x y H2 I2 rx ry q => ?_
  · have h1 : Holds H2 (Av F σ sd) d v := h1
    have h2 : Holds H2 (Av F σ sd) e w := h2
    cases d with
    | int i =>
      cases e with
      | ins C' fs =>
        unfold opEqR at p2
        dsimp only at p2
        by_cases hC : C' = C
        · rw [if_pos hC] at p2
          subst hC
          cases h1
          have h2c := h2
          obtain ⟨a1, dx, ws, rfl, na, r, l⟩ := h2
          exact ⟨i, a1, dx, ws, rfl, rfl, r, rfl, [.ins C' fs, .int i], Av F σ sd, ⟨_, _, rfl, h2c, _, _, rfl, rfl, rfl⟩, dm, PostD.of p2⟩
        · rw [if_neg hC] at p2; exact p2.elim
      | _ => exact p2.elim
    | _ => exact p2.elim
  · obtain ⟨i, a1, dx, ws, rfl, rfl, r, q⟩ := q
    obtain ⟨tu, rfl⟩ := (show ∃ t, v = Value.int i t from rx)
    cases (show u = Value.ref a1 from ry)
    obtain ⟨od, J⟩ := ins_inst I2 r
    unfold compareOp
    refine eqBack_K (f := f) hr.units0 I2.kIn J hf hfn hm ?_
    refine wpAny_mono (run_fnS (E := WE W) (us := [.ref a1, .int i tu]) (vs := [.ref a1, .int i]) G (hr.mono hkk) hb2 (passAt tk σ) I2 (.cons rfl (.cons ⟨tu, rfl⟩ .nil)) q) (fun w s' z => ?_) fun _ _ x => x
    obtain ⟨z', H', I', rz, qz⟩ := z
    exact SlX.cmpback rz ⟨z', H', I', rz, qz⟩
theorem de_eqR {C : Addr} {k k' : Nat} {gf : List D → R D} (G : GSp X.prog X.w X.K X.mg X.base k "__eq__" C 2 gf) (hm : PySem.W.mroIn X.K C (.type "int") = some false) (hr : Room k' X.A) (tk : Takes X W) (ha : DE F X W a fa) (hb : DE F X W b fb) (hkk : k ≤ k' := by decide) :
    DE F X W (.Compare a [.Eq] [b] pos) (eBin (opEqR C gf) fa fb) :=
  ⟨pe_cmp (pc_eqR G hm hr tk ha hb hkk) (nobehind b (by decide) (by decide))⟩
theorem dt_eqR {C : Addr} {k k' : Nat} {gf : List D → R D} (G : GSp X.prog X.w X.K X.mg X.base k "__eq__" C 2 gf) (hm : PySem.W.mroIn X.K C (.type "int") = some false) (hr : Room k' X.A) (tk : Takes X W) (ha : DE F X W a fa) (hb : DE F X W b fb) (hkk : k ≤ k' := by decide) :
    DT F X W (.Compare a [.Eq] [b] pos) (tVal (eBin (opEqR C gf) fa fb)) :=
  ⟨PT.weak (pt_cmp (pc_eqR G hm hr tk ha hb hkk) (nobehind b (by decide) (by decide))) fun σ H Q ⟨sd, rel, p⟩ => ⟨sd, rel, post_of_t p⟩⟩
def tNoInt (x : Str) (K : PySem.W.Frag) : Bool := decide (PySem.W.mroIn K (He.ga K x) (.type "int") = some false)
theorem tNoInt_ok {x : Str} {K : PySem.W.Frag} (h : tNoInt x K = true) : PySem.W.mroIn K (He.ga K x) (.type "int") = some false := of_decide_eq_true h
end DS
set_option Elab.async false
set_option linter.all false
set_option maxRecDepth 100000
set_option maxHeartbeats 4000000
/-! a written tuple of whole numbers as a default. -/
namespace DS
open PySem PySem.Spec L2 PyProof.Rows
variable {F : Fr} {X : Cx} {W : WX} {a b c e : Expr} {fa fb fc : EF} {pos : Pos} {es : List Expr} {fs : List EF}
def KtOk (K : PySem.W.Frag) (T : Addr) (ys : List Int) : Prop := ∀ H : Hp, SqT K H T (ys.map V.int)
def tKt (T : PySem.W.Frag → Addr) (ys : List Int) (K : PySem.W.Frag) : Bool := match K.lookup (T K) with
  | some ⟨.type c, _, .seq its _, _⟩ => decide (c = "tuple") && (decide (its.size ≤ sizeLine) && He.relAll (ys.map V.int) its.toList)
  | _ => false
theorem tKt_ok {T : PySem.W.Frag → Addr} {ys : List Int} {K : PySem.W.Frag} (h : tKt T ys K = true) : KtOk K (T K) ys := fun H => by
  unfold tKt at h
  cases q : K.lookup (T K) with
  | none => rw [q] at h; cases h
  | some o =>
    obtain ⟨oc, od, dt, osl⟩ := o
    rw [q] at h
    cases oc with
    | type c =>
      cases dt with
      | seq its n =>
        obtain ⟨h1, h2⟩ := He.ba (show (decide (c = "tuple") && (decide (its.size ≤ sizeLine) && He.relAll (ys.map V.int) its.toList)) = true from h)
        obtain ⟨h3, h4⟩ := He.ba h2
        exact .inr ⟨_, its, n, q, congrArg Value.type (of_decide_eq_true h1), rfl, of_decide_eq_true h3, He.relAll_ok h4⟩
      | _ => cases h
    | _ => cases od <;> cases dt <;> cases h
def opLenK (T : Addr) (ys : List Int) : List D → R D
  | [.kt T' zs] => if T' = T ∧ zs = ys then .ok (.int ys.length) else .no
  | ds => opLen ds
theorem ok_lenK {K : PySem.W.Frag} {T : Addr} {ys : List Int} (hk : KtOk K T ys) : CallOk (rLenA K) (opLenK T ys) := by
  intro mg W σ A ds vs H Q dm hv p
  unfold opLenK at p
  split at p
  · obtain ⟨v, r, rfl, h, rfl⟩ := hv
    split at p
    · rename_i hc
      obtain ⟨rfl, rfl⟩ := hc
      cases (show v = V.ref _ from h)
      exact .inl ⟨_, _, rfl, .inr (hk H), by rw [List.length_map]; exact ok_p p rfl⟩
    · exact p.elim
  · exact ok_len mg W σ A _ vs H Q dm hv p
def opIxK (T : Addr) (ys : List Int) (x y : D) : R D := match x, y with
  | .kt T' zs, .int i => if T' = T ∧ zs = ys then (match L2.atI ys i with
    | some z => .ok (.int z)
    | none => .no) else .no
  | _, _ => opIx x y
theorem de_subK {T : Addr} {ys : List Int} (hk : KtOk X.K T ys) (hu : X.A.units + 64 < cLine) (ha : DB F X W a fa) (hb : DB F X W b fb) (hs : PlainIx b) : DE F X W (.Subscript a b pos) (eBin (opIxK T ys) fa fb) :=
  ⟨PE.weak (PE.or (pe_ix ix_seq ha.pe hb.pe hs) (de_sub hu ha hb hs).pe) fun σ H Q ⟨sd, rel, p⟩ => by
    by_cases hd : ∃ T' zs i, fa sd = .ok (.kt T' zs) ∧ fb sd = .ok (.int i)
    · obtain ⟨T', zs, i, hd1, hd2⟩ := hd
      refine .inl (te2s (b1 := true) (b2 := true) (op := opIxK T ys) rel p fun d e q1 q2 v w H2 dm h1 h2 p2 => ?_)
      rw [hd1] at q1
      cases q1
      rw [hd2] at q2
      cases q2
      unfold opIxK at p2
      dsimp only at p2
      split at p2
      · rename_i hc
        obtain ⟨rfl, rfl⟩ := hc
        cases (show v = V.ref _ from h1)
        cases (show w = V.int _ from h2)
        split at p2
        · rename_i z hz
          exact .inr (.inl ⟨_, _, _, _, rfl, rfl, hk H2, by rw [atI_map, hz]; rfl, ok_p p2 rfl⟩)
        · exact p2.elim
      · exact p2.elim
    · refine .inr ⟨sd, rel, ?_⟩
      have e0 : eBin (opIxK T ys) fa fb sd = eBin opIx fa fb sd := by
        unfold eBin
        cases q1 : fa sd with
        | no => rfl
        | ex c fs => rfl
        | ok d =>
          rw [R.bind_ok, R.bind_ok]
          cases q2 : fb sd with
          | no => rfl
          | ex c fs => rfl
          | ok e =>
            rw [R.bind_ok, R.bind_ok]
            cases d with
            | kt T' zs =>
              cases e with
              | int i => exact absurd ⟨T', zs, i, q1, q2⟩ hd
              | _ => rfl
            | _ => rfl
      rw [← e0]
      exact p⟩
/-! ### C(..), the last parameter by its default -/
structure GClD (P : Program) (w : World) (K : PySem.W.Frag) (mg : Str → Option Value) (base : Heap) (k : Nat) (x : Str) (C : Addr) (n : Nat) (g : List D → R (List (Str × D))) (zs : List V) : Prop where
  ex : ∃ f fd ps ds, FnOk P w K mg base (L2.CX P w) k f fd ps (spI mg C n g) ∧ Mk K C f ∧ mg x = some (.ref C) ∧ Vals zs ds ∧ Binds K fd ps ds
theorem run_makeD {CX : CXT} {k : Nat} {f C : Addr} {fd : FuncData} {ps : List Str} {sp : Sp} {E : XK} {pins : List (Addr × Obj)} {σ : L2.St} {H : Hp} {s : Shared} {Q : VK} {us ds : List Value} {vs zs : List V} (M : Mk X.K C f) (Fn : FnOk X.prog X.w X.K X.mg X.base CX k f fd ps sp) (hr : Room (k + 1) X.A) (hb : Binds X.K fd ps ds) (rz : Vals zs ds)
    (hx : ∀ (pins : List (Addr × Obj)) (H : Hp) (s : Shared) (e : Value) (s' : Shared), Inv X pins σ H s → CX X.stack H s E e s' → X.xe e s') (I : Inv X pins σ H s) (r : Vals vs us)
    (h : ∀ x dx, H x = none → H dx = none → dx ≠ x → sp (.ref x :: (vs ++ zs)) (upd (upd H dx (.own x)) x (.ins C dx [])) (fun v H2 => v = .non ∧ Q (.ref x) H2) E) :
    wpAny (model X.prog X.w) X.A (call (.ref C) us) (EP X pins σ Q) X.xe s := by
  have hq := h (s.heap.objs.size + 1) s.heap.objs.size (I.hok.fresh (Nat.le_succ _)) (I.hok.fresh (Nat.le_refl _)) (Nat.ne_of_lt (Nat.lt_succ_self _))
  have I2 := Inv.made (C := C) I
  have r2 : Vals (V.ref (s.heap.objs.size + 1) :: (vs ++ zs)) ((Value.ref (s.heap.objs.size + 1) :: us) ++ ds) := .cons rfl (r.append rz)
  have hl : ((Value.ref (s.heap.objs.size + 1) :: us) ++ ds).length = ps.length := by
    have e := r2.length
    rw [Fn.len _ _ _ _ hq] at e
    exact e.symm
  have b := hb { s with heap := (s.heap.push { cls := .type "dict", data := .dict #[] }).push (PySem.W.instObj C s.heap.objs.size) } (Value.ref (s.heap.objs.size + 1) :: us) I2.kIn hl
  refine wpAny_call (make_map (f := f) I.kIn M.makes M.init (beq_iff_eq.mp M.fn) (codeAny_mono (Fn.run _ X.stack _ _ ⟨Value.ref (s.heap.objs.size + 1) :: us, []⟩ ((Value.ref (s.heap.objs.size + 1) :: us) ++ ds) _ _ E (hr.make C us [])
    (I2.env0.make C us []) b r2 hq) fun r s' hq' => ?_))
  cases r with
  | error e => exact hx pins _ _ e s' I2 hq'
  | ok fl =>
    cases fl with
    | ret u =>
      obtain ⟨v, H', I3, rv, ev, q3⟩ := I2.after hq'
      subst ev
      exact ⟨rv, ⟨V.ref (s.heap.objs.size + 1), H', I3, rfl, q3⟩⟩
    | next => exact False.elim hq'
    | brk => exact False.elim hq'
    | cont => exact False.elim hq'
def tMakeD (C : Addr) (sp : Sp) (W : WX) (zs : List V) (t : TA) : TE := fun σ H Q => t σ H fun vs H1 => ∀ x dx, H1 x = none → H1 dx = none → dx ≠ x → sp (.ref x :: (vs ++ zs)) (upd (upd H1 dx (.own x)) x (.ins C dx [])) (fun v H2 => v = .non ∧ Q (.ref x) H2) (WE W σ)
theorem pe_makeD {k : Nat} {f C : Addr} {fd : FuncData} {ps : List Str} {sp : Sp} {x : Str} {p : Pos} {t : TA} {ds : List Value} {zs : List V} (M : Mk X.K C f) (Fn : FnOk X.prog X.w X.K X.mg X.base (L2.CX X.prog X.w) k f fd ps sp) (hr : Room (k + 1) X.A) (hg : Gl X x) (hm : X.mg x = some (.ref C)) (hb : Binds X.K fd ps ds) (rz : Vals zs ds) (tk : Takes X W)
    (ha : PA X (e :: es) t) (hdb : (x == ("__debug__" : Str)) = false := by decide) (he : starEach (e :: es) X.env = (false, eval e X.env) :: starEach es X.env := by rfl) (hpl : (backTo pos (starEach es X.env)).any (·.1) = false := by rfl) :
    PE X (.Call (.Name x p) (e :: es) [] pos) (tMakeD C sp W zs t) := by
  refine ⟨fun pins s σ H Q I h => ?_⟩
  refine wpAny_Call_Name_kw (ld_glob I hg hm ?_ hdb)
  refine PySem.W.callWith_K (h₀ := X.base) I.ok.mod.kin M.kp (thn (ha.run pos pins s σ H _ I h) fun us s1 ⟨vs, H1, I1, r, q⟩ => ⟨I1.kIn, ?_⟩) he hpl
  exact run_makeD M Fn hr hb rz (passAt tk σ) I1 r q
def opMakeD (C : Addr) (g : List D → R (List (Str × D))) (T : Addr) (ys : List Int) (ds : List D) : R D := (g (ds ++ [.kt T ys])).bind fun fs => .ok (.ins C fs)
theorem de_makeD {x : Str} {C T : Addr} {ys : List Int} {k k' n : Nat} {gf : List D → R (List (Str × D))} {p : Pos} (G : GClD X.prog X.w X.K X.mg X.base k x C n gf [.ref T]) (hr : Room k' X.A) (hg : Gl X x) (tk : Takes X W) (ha : DA false F X W (e :: es) fs) (hfs : fs.length + 2 = n := by rfl) (hkk : k + 1 ≤ k' := by decide)
    (hdb : (x == ("__debug__" : Str)) = false := by decide) (he : starEach (e :: es) X.env = (false, eval e X.env) :: starEach es X.env := by rfl) (hpl : (backTo pos (starEach es X.env)).any (·.1) = false := by rfl) :
    DE F X W (.Call (.Name x p) (e :: es) [] pos) (eAll (opMakeD C gf T ys) fs) := by
  obtain ⟨f, fd, ps, dz, G, M, hm, rz, hb⟩ := G
  refine ⟨PE.weak (pe_makeD M G (hr.mono hkk) hg hm hb rz tk ha.pa hdb he hpl) fun σ H Q ⟨sd, rel, p⟩ => tas (b := false) rel p fun ds q vs H2 _ r2 hv p2 => fun x dx hx hdx hne => ?_⟩
  have s1 : Same H2 (upd (upd H2 dx (.own x)) x (.ins C dx [])) := fun b o h => by
    rw [upd_ne (ne_of_none h hx), upd_ne (ne_of_none h hdx)]; exact h
  refine ⟨?_, x, dx, vs ++ [.ref T], ds ++ [.kt T ys], Av F σ sd, rfl, upd_same, ?_, fun a z => Same.dom s1 a (r2.dom z), fun z => r2.dom z hx, ?_⟩
  · rw [List.length_cons, List.length_append, hv.l.length, evalL_length q]; exact hfs
  · exact (HoldsL.up (Up.ofOff (fun b o h _ => s1 _ _ h) fun b z => z.imp_right fun z => by rw [z]; exact hx) _ hv.l).append ⟨_, [], rfl, rfl, rfl⟩
  · unfold opMakeD at p2
    cases q3 : gf (ds ++ [.kt T ys]) with
    | no => rw [q3] at p2; exact p2.elim
    | ex c fs =>
      rw [q3] at p2
      exact fun cls da H' s x => p2 cls da H' (fun b o h => s b o (s1 b o h) (ne_of_none h hx)) x
    | ok fs =>
      rw [q3] at p2
      refine fun H' dx' ws s h l => ⟨rfl, p2 _ H' (fun b o h => s b o (s1 b o h) (ne_of_none h hx)) ⟨x, dx', ws, rfl, fun z => r2.dom z hx, h, HoldsF.up (up_own fun a z => .inl z) _ l⟩⟩
end DS
set_option Elab.async false
set_option linter.all false
set_option maxRecDepth 100000
set_option maxHeartbeats 4000000
/-! Calls whose arguments are lent: their tops may be the caller's own; what comes back shares nothing with them. -/
namespace DS
open PySem PySem.Spec L2 PyProof.Rows
variable {F : Fr} {X : Cx} {W : WX} {a b c e : Expr} {fa fb fc : EF} {pos : Pos} {es : List Expr} {fs : List EF}
theorem HoldsXL.length {H : Hp} {A : Addr → Prop} {b : Bool} : ∀ {ds : List D} {vs : List V}, HoldsXL b H A ds vs → vs.length = ds.length
  | [], _, h => by cases h; rfl
  | d :: ds, _, h => by obtain ⟨v, r, rfl, _, h2⟩ := h; simp [HoldsXL.length h2]
theorem HoldsXL.getB {H : Hp} {A : Addr → Prop} : ∀ {ds : List D} {vs : List V} {i : Nat} {d : D}, HoldsXL true H A ds vs → ds[i]? = some d → ∃ v, vs[i]? = some v ∧ HoldsB H A d v
  | [], _, i, d, _, e => by simp at e
  | x :: ds, _, 0, d, h, e => by
    obtain ⟨v, r, rfl, h1, h2⟩ := h
    simp at e; subst e
    exact ⟨v, by simp, h1⟩
  | x :: ds, _, i + 1, d, h, e => by
    obtain ⟨v, r, rfl, h1, h2⟩ := h
    simpa using HoldsXL.getB h2 (i := i) (by simpa using e)
theorem HoldsXL.sameB {H H' : Hp} {A : Addr → Prop} (s : Same H H') : ∀ {ds : List D} {vs : List V}, HoldsXL true H A ds vs → HoldsXL true H' A ds vs
  | [], _, h => h
  | d :: ds, _, h => by obtain ⟨v, r, e, h1, h2⟩ := h; exact ⟨v, r, e, HoldsB.same s h1, HoldsXL.sameB s h2⟩
theorem HoldsXL.lessB {H : Hp} {A A' : Addr → Prop} (k : ∀ a, H a ≠ none → ¬ A a → ¬ A' a) : ∀ {ds : List D} {vs : List V}, HoldsXL true H A ds vs → HoldsXL true H A' ds vs
  | [], _, h => h
  | d :: ds, _, h => by obtain ⟨v, r, e, h1, h2⟩ := h; exact ⟨v, r, e, HoldsB.less k h1, HoldsXL.lessB k h2⟩
theorem HoldsXL.append {b : Bool} {H : Hp} {A : Addr → Prop} : ∀ {ds es : List D} {vs ws : List V}, HoldsXL b H A ds vs → HoldsXL b H A es ws → HoldsXL b H A (ds ++ es) (vs ++ ws)
  | [], _, _, _, h, k => by cases h; exact k
  | d :: ds, _, _, _, h, k => by obtain ⟨v, r, rfl, h1, h2⟩ := h; exact ⟨v, _, rfl, h1, HoldsXL.append h2 k⟩
def spB (mg : Str → Option Value) (n : Nat) (g : List D → R D) : Sp := fun vs H Q E => vs.length = n ∧ ∃ ds B, HoldsXL true H B ds vs ∧ (∀ a, B a → H a ≠ none) ∧ PostD mg B (g ds) H Q E
def runB (k : Nat) (f : SF) (ds : List D) : R D := retOf (f (ds.map .bw ++ List.replicate k .un))
section
variable {P : Program} {w : World} {K : PySem.W.Frag} {mg : Str → Option Value} {base : Heap}
theorem startB_rel {H : Hp} {B : Addr → Prop} {N : List Str} {ds : List D} {vs : List V} {k : Nat} (h : HoldsXL true H B ds vs) (hB : ∀ a, B a → H a ≠ none) (hk : N.length - vs.length = k) : Rel ⟨H, B, 0⟩ (L2.start N vs) H (ds.map .bw ++ List.replicate k .un) := by
  subst hk
  have hl := h.length
  have hown : ∀ (i : Nat) (s : Sl), (ds.map Sl.bw ++ List.replicate (N.length - vs.length) Sl.un)[i]? = some s → s.own = false := fun i s e => by
    rcases List.mem_append.mp (List.mem_of_getElem? e) with m | m
    · obtain ⟨d, _, rfl⟩ := List.mem_map.mp m; rfl
    · rw [(List.mem_replicate.mp m).2]; rfl
  have noown : ∀ i a, ¬ OwnAt (L2.start N vs) (ds.map Sl.bw ++ List.replicate (N.length - vs.length) Sl.un) i a := fun i a ⟨t, e, o, _⟩ => by
    rw [hown i t e] at o; cases o
  refine ⟨Same.refl _, by simp [L2.start, hl], fun i s e => ?_, fun i j a h1 _ => absurd h1 (noown i a), fun a ⟨i, z⟩ => absurd z (noown i a), hB⟩
  have hi : i < (L2.start N vs).length := by
    have := (List.getElem?_eq_some_iff.mp e).1
    simpa [L2.start, hl] using this
  by_cases hd : i < ds.length
  · rw [List.getElem?_append_left (by simpa using hd), List.getElem?_map, List.getElem?_eq_getElem hd] at e
    cases e
    obtain ⟨v, ev, hv⟩ := h.getB (List.getElem?_eq_getElem hd)
    refine ⟨some v, ?_, v, rfl, HoldsB.less (fun a _ na z => z.elim na fun ⟨i, z⟩ => absurd z (noown i a)) hv⟩
    unfold L2.start
    rw [List.getElem?_append_left (by simp; omega), List.getElem?_map, ev]
    rfl
  · rw [List.getElem?_append_right (by simpa using hd)] at e
    have hs : s = .un := (List.mem_replicate.mp (List.mem_of_getElem? e)).2
    subst hs
    exact ⟨_, List.getElem?_eq_getElem hi, trivial⟩
structure GFnB (P : Program) (w : World) (K : PySem.W.Frag) (mg : Str → Option Value) (base : Heap) (k : Nat) (x : Str) (n : Nat) (g : List D → R D) : Prop where
  ex : ∃ f fd ps, FnOk P w K mg base (L2.CX P w) k f fd ps (spB mg n g) ∧ mg x = some (.ref f) ∧ PySem.W.keepIn K (.ref f) = true ∧ Binds K fd ps []
theorem bodyB_end {X : Cx} {k : Nat} {f : SF} {ds : List D} {vs : List V} {N : List Str} {H : Hp} {B : Addr → Prop} {Q : VK} {E : XK} (h : HoldsXL true H B ds vs) (hB : ∀ a, B a → H a ≠ none) (hk : N.length - vs.length = k)
    (p : PostD mg B (runB k f ds) H Q E) : TSx ⟨H, B, 0⟩ mg (fun cls d _ H' => E cls d H') f { nx := fun _ H' => Q .non H', rt := Q } (L2.start N vs) H := by
  refine ⟨_, startB_rel h hB hk, ?_⟩
  unfold runB retOf at p
  cases q : f (ds.map .bw ++ List.replicate k .un) with
  | nx s' => rw [q] at p; exact fun σ' H' r _ => p _ H' r.same rfl
  | rt d => rw [q] at p; exact p
  | rn n =>
    rw [q] at p
    intro pa H' s _ nb h
    have h := h ⟨fun _ => none, fun _ => False, 0⟩ rfl
    refine p _ H' s ?_
    cases n with
    | nl ds => obtain ⟨a, vs, e, _, r, l⟩ := h; cases e; exact ⟨pa, vs, rfl, nb, r, l.less fun _ z => .inl z⟩
    | nd ds => obtain ⟨a, vs, e, _, r, l⟩ := h; cases e; exact ⟨pa, vs, rfl, nb, .inl r, HoldsK.up (up_own fun _ z => .inl z) _ l⟩
  | bk s' => rw [q] at p; exact p.elim
  | ct s' => rw [q] at p; exact p.elim
  | ex c fs s' => rw [q] at p; exact fun cls da σ' H' r _ x => p cls da H' r.same x
  | no => rw [q] at p; exact p
theorem fn_okB {x qual : Str} {st : Stmt} {f : Addr} {fd : FuncData} {N ps : List Str} {k kk n : Nat} {body : SF} (Fn : Fun K x qual st f fd) (S : FnScope N ps (defScope st)) (hn : ps.length = n) (hk : N.length - n = kk)
    (hb : ∀ (F : Fr) (W : WX) (cdv : Value) (A : Around) (outer : List Env) (s : Shared) (H : Hp) (E : XK), Room k (A.deeper (envOfC qual (defScope st) s.heap.objs.size f cdv)) →
      Takes (cxOf (L2.CX P w) P w K mg base N qual (defScope st) f cdv A outer s H E) W → PassesOwn (model P w) (A.deeper (envOfC qual (defScope st) s.heap.objs.size f cdv)) (envOfC qual (defScope st) s.heap.objs.size f cdv) (cxOf (L2.CX P w) P w K mg base N qual (defScope st) f cdv A outer s H E).xe →
      DXs F (cxOf (L2.CX P w) P w K mg base N qual (defScope st) f cdv A outer s H E) W (defBody st) body) :
    FnOk P w K mg base (L2.CX P w) (k + 1) f fd ps (spB mg n (runB kk body)) := by
  subst hn
  refine Fn.okX S (fun vs H Q E h => h.1) fun cdv A outer s H vs Q E hr h => ?_
  obtain ⟨hl, ds, B, hh, hB, p⟩ := h
  refine ⟨_, (hb ⟨H, B, 0⟩ (fun cls d _ H' => E cls d H') cdv A outer s H E hr (takes_of rfl rfl rfl rfl) (passes_of rfl)).ps, ?_⟩
  exact bodyB_end (X := cxOf (L2.CX P w) P w K mg base N qual (defScope st) f cdv A outer s H E) hh hB (by rw [hl]; exact hk) p
/-! ### __init__ with lent arguments -/
def spIB (mg : Str → Option Value) (C : Addr) (n : Nat) (g : List D → R (List (Str × D))) : Sp := fun vs H Q E => vs.length = n ∧ ∃ x dx rest ds B, vs = .ref x :: rest ∧ H x = some (.ins C dx []) ∧ HoldsXL true (fun b => if b = x then none else H b) (fun a => B a ∨ a = x) ds rest ∧ (∀ a, B a → H a ≠ none) ∧ ¬ B x ∧ PostI mg x C B (g ds) H Q E
def runIB (C : Addr) (k : Nat) (f : SF) (ds : List D) : R (List (Str × D)) := retI C (f (.oi C [] :: (ds.map .bw ++ List.replicate k .un)))
theorem startIB_rel {H : Hp} {B : Addr → Prop} {N : List Str} {ds : List D} {rest : List V} {k : Nat} {x dx C : Addr} (hx : H x = some (.ins C dx [])) (h : HoldsXL true (fun b => if b = x then none else H b) (fun a => B a ∨ a = x) ds rest) (hB : ∀ a, B a → H a ≠ none) (nB : ¬ B x) (hk : N.length - (rest.length + 1) = k) :
    Rel ⟨fun b => if b = x then none else H b, B, x⟩ (L2.start N (.ref x :: rest)) H (.oi C [] :: (ds.map .bw ++ List.replicate k .un)) := by
  subst hk
  have hl := h.length
  have hown : ∀ (i : Nat) (s : Sl), (ds.map Sl.bw ++ List.replicate (N.length - (rest.length + 1)) Sl.un)[i]? = some s → s.own = false := fun i s e => by
    rcases List.mem_append.mp (List.mem_of_getElem? e) with m | m
    · obtain ⟨d, _, rfl⟩ := List.mem_map.mp m; rfl
    · rw [(List.mem_replicate.mp m).2]; rfl
  have hst : L2.start N (.ref x :: rest) = some (.ref x) :: (rest.map some ++ List.replicate (N.length - (rest.length + 1)) none) := by simp [L2.start]
  rw [hst]
  have own0 : ∀ i a, OwnAt (some (V.ref x) :: (rest.map some ++ List.replicate (N.length - (rest.length + 1)) none)) (.oi C [] :: (ds.map Sl.bw ++ List.replicate (N.length - (rest.length + 1)) Sl.un)) i a → i = 0 ∧ a = x := fun i a ⟨t, e, o, e2⟩ => by
    cases i with
    | zero => simp at e2; exact ⟨rfl, e2.symm⟩
    | succ i =>
      rw [List.getElem?_cons_succ] at e
      rw [hown i t e] at o
      cases o
  have own : ∀ a, Own (some (V.ref x) :: (rest.map some ++ List.replicate (N.length - (rest.length + 1)) none)) (.oi C [] :: (ds.map Sl.bw ++ List.replicate (N.length - (rest.length + 1)) Sl.un)) a → a = x := fun a ⟨i, z⟩ => (own0 i a z).2
  refine ⟨fun b o q => ?_, by simp [hl], fun i s e => ?_, fun i j a h1 h2 => by rw [(own0 i a h1).1, (own0 j a h2).1], fun a z => by rw [own a z]; exact nB, hB⟩
  · have q : (if b = x then none else H b) = some o := q
    by_cases hb : b = x
    · rw [if_pos hb] at q; cases q
    · rw [if_neg hb] at q; exact q
  · cases i with
    | zero =>
      simp at e
      subst e
      exact ⟨_, rfl, x, dx, [], rfl, ⟨if_pos rfl, rfl⟩, hx, rfl⟩
    | succ i =>
      rw [List.getElem?_cons_succ] at e ⊢
      by_cases hd : i < ds.length
      · rw [List.getElem?_append_left (by simpa using hd), List.getElem?_map, List.getElem?_eq_getElem hd] at e
        cases e
        obtain ⟨v, ev, hv⟩ := h.getB (List.getElem?_eq_getElem hd)
        refine ⟨some v, ?_, v, rfl, HoldsB.less (fun a _ na z => na (z.imp_right (own a))) hv⟩
        rw [List.getElem?_append_left (by simp; omega), List.getElem?_map, ev]
        rfl
      · have hi : i < (rest.map some ++ List.replicate (N.length - (rest.length + 1)) (none : Option V)).length := by
          have := (List.getElem?_eq_some_iff.mp e).1
          simpa [hl] using this
        rw [List.getElem?_append_right (by simpa using hd)] at e
        have hs : s = .un := (List.mem_replicate.mp (List.mem_of_getElem? e)).2
        subst hs
        exact ⟨_, List.getElem?_eq_getElem hi, trivial⟩
theorem bodyIB_end {k : Nat} {f : SF} {ds : List D} {rest : List V} {N : List Str} {H : Hp} {B : Addr → Prop} {Q : VK} {E : XK} {x dx C : Addr} (hx : H x = some (.ins C dx [])) (h : HoldsXL true (fun b => if b = x then none else H b) (fun a => B a ∨ a = x) ds rest) (hB : ∀ a, B a → H a ≠ none) (nB : ¬ B x) (hk : N.length - (rest.length + 1) = k)
    (p : PostI mg x C B (runIB C k f ds) H Q E) : TSx ⟨fun b => if b = x then none else H b, B, x⟩ mg (fun cls d _ H' => E cls d H') f { nx := fun _ H' => Q .non H', rt := Q } (L2.start N (.ref x :: rest)) H := by
  refine ⟨_, startIB_rel hx h hB nB hk, ?_⟩
  have off : ∀ {σ' : L2.St} {H' : Hp} {s' : SD}, Rel ⟨fun b => if b = x then none else H b, B, x⟩ σ' H' s' → ∀ b o, H b = some o → b ≠ x → H' b = some o := fun r b o q hb => r.same b o (by show (if b = x then none else H b) = some o; rw [if_neg hb]; exact q)
  unfold runIB retI at p
  cases q : f (.oi C [] :: (ds.map .bw ++ List.replicate k .un)) with
  | nx s' =>
    rw [q] at p
    dsimp only at p
    intro σ' H' r _
    split at p
    · rename_i C' fs e
      split at p
      · rename_i hc
        subst hc
        obtain ⟨v, e2, a, dx', ws, rfl, n, r0, l⟩ := r.slot 0 _ e
        have ea : a = x := n.2
        subst ea
        exact p H' dx' ws (off r) r0 (HoldsF.up (up_own fun b z => z.imp_right fun z => ⟨0, _, e, rfl, by rw [z]; exact e2⟩) _ l)
      · exact p.elim
    · exact p.elim
  | rt d => rw [q] at p; exact p.elim
  | rn n => rw [q] at p; exact p.elim
  | bk s' => rw [q] at p; exact p.elim
  | ct s' => rw [q] at p; exact p.elim
  | ex c fs s' => rw [q] at p; exact fun cls da σ' H' r _ x => p cls da H' (off r) x
  | no => rw [q] at p; exact p
variable {dvs : List V} {kws : List (Str × V)}
theorem fnI_okDB {x qual : Str} {st : Stmt} {f C : Addr} {fd : FuncData} {N ps : List Str} {k kk n : Nat} {body : SF} (Fn : L2.FunD K x qual (defArgs st) (defBody st) (defScope st) dvs kws f fd) (S : FnScope N ps (defScope st)) (hn : ps.length = n) (hk : N.length - n = kk)
    (hb : ∀ (F : Fr) (W : WX) (cdv : Value) (A : Around) (outer : List Env) (s : Shared) (H : Hp) (E : XK), Room k (A.deeper (envOfC qual (defScope st) s.heap.objs.size f cdv)) →
      Takes (cxOf (L2.CX P w) P w K mg base N qual (defScope st) f cdv A outer s H E) W → PassesOwn (model P w) (A.deeper (envOfC qual (defScope st) s.heap.objs.size f cdv)) (envOfC qual (defScope st) s.heap.objs.size f cdv) (cxOf (L2.CX P w) P w K mg base N qual (defScope st) f cdv A outer s H E).xe →
      DXs F (cxOf (L2.CX P w) P w K mg base N qual (defScope st) f cdv A outer s H E) W (defBody st) body) :
    FnOk P w K mg base (L2.CX P w) (k + 1) f fd ps (spIB mg C n (runIB C kk body)) := by
  subst hn
  refine FunD.okX Fn S (fun vs H Q E h => h.1) fun cdv A outer s H vs Q E hr h => ?_
  obtain ⟨hl, x, dx, rest, ds, B, rfl, hx, hh, hB, nB, p⟩ := h
  refine ⟨_, (hb ⟨fun b => if b = x then none else H b, B, x⟩ (fun cls d _ H2 => E cls d H2) cdv A outer s H E hr (takes_of rfl rfl rfl rfl) (passes_of rfl)).ps, ?_⟩
  exact bodyIB_end hx hh hB nB (by rw [← hk, ← hl]; rfl) p
structure GClB (P : Program) (w : World) (K : PySem.W.Frag) (mg : Str → Option Value) (base : Heap) (k : Nat) (x : Str) (C : Addr) (n : Nat) (g : List D → R (List (Str × D))) : Prop where
  ex : ∃ f fd ps, FnOk P w K mg base (L2.CX P w) k f fd ps (spIB mg C n g) ∧ Mk K C f ∧ mg x = some (.ref C) ∧ Binds K fd ps []
structure GClDB (P : Program) (w : World) (K : PySem.W.Frag) (mg : Str → Option Value) (base : Heap) (k : Nat) (x : Str) (C : Addr) (n : Nat) (g : List D → R (List (Str × D))) (zs : List V) : Prop where
  ex : ∃ f fd ps ds, FnOk P w K mg base (L2.CX P w) k f fd ps (spIB mg C n g) ∧ Mk K C f ∧ mg x = some (.ref C) ∧ Vals zs ds ∧ Binds K fd ps ds
end
theorem de_callB' {x : Str} {k k' n : Nat} {gf : List D → R D} {p : Pos} (G : GFnB X.prog X.w X.K X.mg X.base k x n gf) (hr : Room k' X.A) (hg : Gl X x) (tk : Takes X W) (ha : DA true F X W (e :: es) fs) (hfs : fs.length = n := by rfl) (hkk : k ≤ k' := by decide)
    (hdb : (x == ("__debug__" : Str)) = false := by decide) (he : starEach (e :: es) X.env = (false, eval e X.env) :: starEach es X.env := by rfl) (hpl : (backTo pos (starEach es X.env)).any (·.1) = false := by rfl) :
    DE F X W (.Call (.Name x p) (e :: es) [] pos) (eAll gf fs) := by
  obtain ⟨f, fd, ps, G, hm, hk, hb⟩ := G
  refine ⟨PE.weak (pe_callS G (hr.mono hkk) hg hm hk hb (fun σ => passAt tk σ) ha.pa hdb he hpl) fun σ H Q ⟨sd, rel, p⟩ => tas (b := true) rel p fun ds q vs H2 _ r2 hv p2 => ?_⟩
  exact ⟨by rw [hv.length, evalL_length q]; exact hfs, ds, Av F σ sd, hv, fun a z => r2.dom z, PostD.of p2⟩
theorem lent_made {H : Hp} {A : Addr → Prop} {x dx C : Addr} {ds : List D} {vs : List V} (hx : H x = none) (hdx : H dx = none) (hv : HoldsXL true H A ds vs) : HoldsXL true (fun b => if b = x then none else upd (upd H dx (.own x)) x (.ins C dx []) b) (fun a => A a ∨ a = x) ds vs := by
  have s : Same H (fun b => if b = x then none else upd (upd H dx (.own x)) x (.ins C dx []) b) := fun b o h => by
    show (if b = x then none else upd (upd H dx (.own x)) x (.ins C dx []) b) = some o
    rw [if_neg (ne_of_none h hx), upd_ne (ne_of_none h hx), upd_ne (ne_of_none h hdx)]
    exact h
  exact HoldsXL.sameB s (HoldsXL.lessB (fun a ha na z => z.elim na fun z => ha (by rw [z]; exact hx)) hv)
theorem de_makeB {x : Str} {C : Addr} {k k' n : Nat} {gf : List D → R (List (Str × D))} {p : Pos} (G : GClB X.prog X.w X.K X.mg X.base k x C n gf) (hr : Room k' X.A) (hg : Gl X x) (tk : Takes X W) (ha : DA true F X W (e :: es) fs) (hfs : fs.length + 1 = n := by rfl) (hkk : k + 1 ≤ k' := by decide)
    (hdb : (x == ("__debug__" : Str)) = false := by decide) (he : starEach (e :: es) X.env = (false, eval e X.env) :: starEach es X.env := by rfl) (hpl : (backTo pos (starEach es X.env)).any (·.1) = false := by rfl) :
    DE F X W (.Call (.Name x p) (e :: es) [] pos) (eAll (opMake C gf) fs) := by
  obtain ⟨f, fd, ps, G, M, hm, hb⟩ := G
  refine ⟨PE.weak (pe_makeS M G (hr.mono hkk) hg hm hb tk ha.pa hdb he hpl) fun σ H Q ⟨sd, rel, p⟩ => tas (b := true) rel p fun ds q vs H2 _ r2 hv p2 => fun x dx hx hdx hne => ?_⟩
  have s1 : Same H2 (upd (upd H2 dx (.own x)) x (.ins C dx [])) := fun b o h => by
    rw [upd_ne (ne_of_none h hx), upd_ne (ne_of_none h hdx)]; exact h
  refine ⟨?_, x, dx, vs, ds, Av F σ sd, rfl, upd_same, lent_made hx hdx hv, fun a z => Same.dom s1 a (r2.dom z), fun z => r2.dom z hx, ?_⟩
  · rw [List.length_cons, hv.length, evalL_length q]; exact hfs
  · unfold opMake at p2
    cases q3 : gf ds with
    | no => rw [q3] at p2; exact p2.elim
    | ex c fs =>
      rw [q3] at p2
      exact fun cls da H' s x => p2 cls da H' (fun b o h => s b o (s1 b o h) (ne_of_none h hx)) x
    | ok fs =>
      rw [q3] at p2
      refine fun H' dx' ws s h l => ⟨rfl, p2 _ H' (fun b o h => s b o (s1 b o h) (ne_of_none h hx)) ⟨x, dx', ws, rfl, fun z => r2.dom z hx, h, HoldsF.up (up_own fun a z => .inl z) _ l⟩⟩
theorem de_makeDB {x : Str} {C T : Addr} {ys : List Int} {k k' n : Nat} {gf : List D → R (List (Str × D))} {p : Pos} (G : GClDB X.prog X.w X.K X.mg X.base k x C n gf [.ref T]) (hr : Room k' X.A) (hg : Gl X x) (tk : Takes X W) (ha : DA true F X W (e :: es) fs) (hfs : fs.length + 2 = n := by rfl) (hkk : k + 1 ≤ k' := by decide)
    (hdb : (x == ("__debug__" : Str)) = false := by decide) (he : starEach (e :: es) X.env = (false, eval e X.env) :: starEach es X.env := by rfl) (hpl : (backTo pos (starEach es X.env)).any (·.1) = false := by rfl) :
    DE F X W (.Call (.Name x p) (e :: es) [] pos) (eAll (opMakeD C gf T ys) fs) := by
  obtain ⟨f, fd, ps, dz, G, M, hm, rz, hb⟩ := G
  refine ⟨PE.weak (pe_makeD M G (hr.mono hkk) hg hm hb rz tk ha.pa hdb he hpl) fun σ H Q ⟨sd, rel, p⟩ => tas (b := true) rel p fun ds q vs H2 _ r2 hv p2 => fun x dx hx hdx hne => ?_⟩
  have s1 : Same H2 (upd (upd H2 dx (.own x)) x (.ins C dx [])) := fun b o h => by
    rw [upd_ne (ne_of_none h hx), upd_ne (ne_of_none h hdx)]; exact h
  refine ⟨?_, x, dx, vs ++ [.ref T], ds ++ [.kt T ys], Av F σ sd, rfl, upd_same, (lent_made hx hdx hv).append ⟨_, [], rfl, by rw [if_pos rfl]; rfl, rfl⟩, fun a z => Same.dom s1 a (r2.dom z), fun z => r2.dom z hx, ?_⟩
  · rw [List.length_cons, List.length_append, hv.length, evalL_length q]; exact hfs
  · unfold opMakeD at p2
    cases q3 : gf (ds ++ [.kt T ys]) with
    | no => rw [q3] at p2; exact p2.elim
    | ex c fs =>
      rw [q3] at p2
      exact fun cls da H' s x => p2 cls da H' (fun b o h => s b o (s1 b o h) (ne_of_none h hx)) x
    | ok fs =>
      rw [q3] at p2
      refine fun H' dx' ws s h l => ⟨rfl, p2 _ H' (fun b o h => s b o (s1 b o h) (ne_of_none h hx)) ⟨x, dx', ws, rfl, fun z => r2.dom z hx, h, HoldsF.up (up_own fun a z => .inl z) _ l⟩⟩
/-! ### things that are looked at, never kept -/
def PostO (mg : Str → Option Value) (W : WX) (σ : L2.St) (r : R D) (A : Addr → Prop) (H : Hp) (Q : VK) : Prop := match r with
  | .ok d => ∀ v H', Same H H' → Holds H' noA d v → Q v H'
  | .ex c fs => ∀ cls da H', Same H H' → ExRep mg H' A c fs cls da → W cls da σ H'
  | .no => False
def TEo (F : Fr) (mg : Str → Option Value) (W : WX) (f : EF) : TE := fun σ H Q => ∃ sd, Rel F σ H sd ∧ PostO mg W σ (f sd) (Av F σ sd) H Q
structure DOp (F : Fr) (X : Cx) (W : WX) (e : Expr) (f : EF) : Prop where
  pe : PE X e (TEo F X.mg W f)
theorem DX.o {e : Expr} {f : EF} (h : DB F X W e f) : DOp F X W e f := ⟨PE.weak h.pe fun σ H Q ⟨sd, rel, p⟩ => ⟨sd, rel, by
  cases q : f sd with
  | ok d => rw [q] at p; exact fun v H' s h => p v H' s (HoldsB.open h)
  | ex c fs => rw [q] at p; exact p
  | no => rw [q] at p; exact p⟩⟩
structure DAo (F : Fr) (X : Cx) (W : WX) (es : List Expr) (fs : List EF) : Prop where
  pa : PA X es fun σ H Q => ∃ sd, Rel F σ H sd ∧ match evalL fs sd with
    | .ok ds => ∀ vs H', Same H H' → HoldsL H' noA ds vs → Q vs H'
    | .ex c fs => ∀ cls da H', Same H H' → ExRep X.mg H' (Av F σ sd) c fs cls da → W cls da σ H'
    | .no => False
theorem dao_nil : DAo F X W [] [] := ⟨PA.weak pa_nil fun σ H Q ⟨sd, rel, p⟩ => p [] H (Same.refl H) rfl⟩
theorem dao_cons {es : List Expr} {fs : List EF} (h : DOp F X W e fa) (hr : DAo F X W es fs) (hs : starEach (e :: es) X.env = (false, eval e X.env) :: starEach es X.env := by rfl) : DAo F X W (e :: es) (fa :: fs) :=
  ⟨PA.weak (pa_cons h.pe hr.pa hs) fun σ H Q ⟨sd, rel, p⟩ => by
    refine ⟨sd, rel, ?_⟩
    simp only [evalL] at p
    cases q1 : fa sd with
    | no => rw [q1] at p; exact p
    | ex c fs => rw [q1] at p; exact p
    | ok d =>
      rw [q1, R.bind_ok] at p
      intro v H1 s1 hv
      refine ⟨sd, rel.mono s1, ?_⟩
      cases q2 : evalL fs sd with
      | no => rw [q2] at p; exact p
      | ex c fs => rw [q2] at p; exact fun cls da H' s h => p cls da H' (s1.trans s) h
      | ok ds =>
        rw [q2, R.bind_ok] at p
        intro vs H2 s2 hvs
        exact p (v :: vs) H2 (s1.trans s2) ⟨v, vs, rfl, hv.same s2, hvs⟩⟩
theorem do_lst (h : DAo F X W es fs) : DOp F X W (.List es pos) (eAll opLst fs) := ⟨PE.weak (pe_lst h.pa) fun σ H Q ⟨sd, rel, p⟩ => by
  refine ⟨sd, rel, ?_⟩
  unfold eAll at p
  cases q : evalL fs sd with
  | no => rw [q] at p; exact p
  | ex c fs => rw [q] at p; exact p
  | ok ds =>
    rw [q, R.bind_ok] at p
    unfold opLst at p
    by_cases hl : ds.length ≤ sizeLine
    · rw [if_pos hl] at p
      intro vs H2 s2 hv
      exact ⟨by rw [hv.length]; exact hl, fun q hq => p _ _ (s2.trans (same_upd hq)) ⟨q, _, rfl, fun z => z, upd_same, hv.same (same_upd hq)⟩⟩
    · rw [if_neg hl] at p; exact p.elim⟩
theorem teo2 {fa fb : EF} {op : D → D → R D} {mg : Str → Option Value} {σ : L2.St} {H : Hp} {Q : VK} {r : V → V → Hp → Prop}
    (hr : ∀ d e v w H2, HoldsB H2 noA d v → HoldsB H2 noA e w → Post false mg W σ noA (op d e) H2 Q → r v w H2) (hp : ∀ d e, (∃ x, op d e = .ok x ∧ flatB x = true) ∨ op d e = .no)
    (h : TEx false F mg W (fun s => (fa s).bind fun x => (fb s).bind fun y => op x y) σ H Q) : TEo F mg W fa σ H fun v H1 => TEo F mg W fb σ H1 (r v) := by
  obtain ⟨sd, rel, p⟩ := h
  refine ⟨sd, rel, ?_⟩
  cases q : fa sd with
  | ok d =>
    dsimp only at p
    rw [q] at p
    intro v H2 s h
    refine ⟨sd, rel.mono s, ?_⟩
    cases q2 : fb sd with
    | ok e =>
      rw [R.bind_ok, q2] at p
      intro w H3 s3 h3
      refine hr d e v w H3 (Holds.b (h.same s3)) (Holds.b h3) ?_
      have p2 := Post.mono (s.trans s3) p
      rw [R.bind_ok] at p2
      rcases hp d e with ⟨x, ex, fx⟩ | ex
      · rw [ex] at p2 ⊢
        exact fun v H' s h => p2 v H' s (flat_any fx h)
      · rw [ex] at p2; exact p2.elim
    | ex c fs => rw [R.bind_ok, q2] at p; exact fun cls da H' s2 h => p cls da H' (s.trans s2) h
    | no => rw [R.bind_ok, q2] at p; exact p
  | ex c fs => dsimp only at p; rw [q] at p; exact p
  | no => dsimp only at p; rw [q] at p; exact p
theorem eq_flat (d e : D) : (∃ x, opEq d e = .ok x ∧ flatB x = true) ∨ opEq d e = .no := by
  unfold opEq
  split
  · exact .inl ⟨_, rfl, rfl⟩
  · exact .inr rfl
theorem ne_flat (d e : D) : (∃ x, opNe d e = .ok x ∧ flatB x = true) ∨ opNe d e = .no := by
  unfold opNe
  split
  · exact .inl ⟨_, rfl, rfl⟩
  · exact .inr rfl
theorem de_cmpO {o : CmpOp} {r : R2} {op : D → D → R D} (ho : OpR X (compareOp o) r) (hk : OpOk r op) (hp : ∀ d e, (∃ x, op d e = .ok x ∧ flatB x = true) ∨ op d e = .no) (ha : DOp F X W a fa) (hb : DOp F X W b fb) (hm : behindInMarks o b = false) : DE F X W (.Compare a [o] [b] pos) (eBin op fa fb) :=
  ⟨PE.weak (pe_cmpR ho ha.pe hb.pe hm) fun σ H Q h => teo2 (fun d e v w H2 h1 h2 p => hk X.mg W σ noA d e v w H2 Q (fun a z => z.elim) h1 h2 p) hp h⟩
end DS
set_option Elab.async false
set_option linter.all false
set_option maxRecDepth 100000
set_option maxHeartbeats 4000000
/-! raise C() of an own class without arguments; raise T('m') and except T of a built-in class; tests on things looked at. -/
namespace DS
open PySem PySem.Spec L2 PyProof.Rows PySem.Calls
variable {F : Fr} {X : Cx} {W : WX} {a b c e : Expr} {fa fb fc : EF} {pos : Pos} {es : List Expr} {fs : List EF}
theorem dt_cmpO {o : CmpOp} {r : R2} {op : D → D → R D} (ho : OpR X (compareOp o) r) (hk : OpOk r op) (hp : ∀ d e, (∃ x, op d e = .ok x ∧ flatB x = true) ∨ op d e = .no) (ha : DOp F X W a fa) (hb : DOp F X W b fb) (hm : behindInMarks o b = false) : DT F X W (.Compare a [o] [b] pos) (tVal (eBin op fa fb)) :=
  ⟨PT.weak (pt_cmpR ho ha.pe hb.pe hm) fun σ H Q ⟨sd, rel, p⟩ => teo2 (fun d e v w H2 h1 h2 p => hk X.mg W σ noA d e v w H2 _ (fun a z => z.elim) h1 h2 p) hp ⟨sd, rel, post_of_t (bb := false) p⟩⟩
theorem mk_endN {pins : List (Addr × Obj)} {σ : L2.St} {H1 : Hp} {hp hp2 h2 : Heap} {g1 g2 : Array GenState} {d1 d2 : Drawn} {t1 t2 : Nat} {os1 os2 : OsState} {a C : Addr} (I1 : Inv X pins σ H1 ⟨hp, g1, d1, t1, os1⟩)
    (ha : hp.objs.size ≤ a) (k : ∀ b o, hp.get? b = some o → hp2.get? b = some o) (un : Un (frs X.stack) [] (upd H1 a (exo a C none)) (upd H1 a (exo a C none)) hp2 h2) (hok : HOk X.prog X.w (upd H1 a (exo a C none)) h2) (ho : os2 = os1) (hb : AllBare g2) :
    ∃ (t0 : Addr) (G : Heap), Inv X pins σ H1 ⟨G, g2, d2, t2, os2⟩ ∧ (∀ b o, G.get? b = some o → h2.get? b = some o) ∧ G.get? a = none ∧
      h2.get? a = some ({ cls := .ref C, dict := none, data := .fields #[.ref t0, .none, .none, .none, .bool false, .none] } : Obj) ∧ H1 a = none := by
  obtain ⟨t0, hoe⟩ := exo_at hok (upd_same (H := H1) (a := a))
  have hn : H1 a = none := I1.hok.fresh ha
  obtain ⟨G, g1', g2'⟩ := restrict h2 fun b => decide (b ≠ a)
  have gk : ∀ b, b ≠ a → G.get? b = h2.get? b := fun b hb => g1' b (decide_eq_true hb)
  have ge : G.get? a = none := g2' a (by simp)
  have nha : ∀ {b : Addr} {o : Obj}, hp.get? b = some o → b ≠ a := fun {b o} z => Nat.ne_of_lt (Nat.lt_of_lt_of_le (Heap.lt_size z) ha)
  have up : ∀ {b : Addr}, b ≠ a → H1 b = none → upd H1 a (exo a C none) b = none := fun {b} hb n => by rw [upd_ne hb]; exact n
  have U : Un (frs X.stack) [] H1 H1 hp G := {
    keep := fun b o z n hf hx => by
      rw [gk b (nha z)]
      exact un.keep b o (k b o z) (up (nha z) n) hf hx
    slot := fun b o z n hf hx => by
      rw [gk b (nha z)]
      exact un.slot b o (k b o z) (up (nha z) n) hf hx
    free := fun b o z n hx => n
    there := fun b o z hx => by
      rw [gk b (nha z)]
      exact un.there b o (k b o z) hx
    tups := fun b xs z => z
    frzs := fun b o v z => z
    tbls := fun b ps z => ⟨#[], by rw [Array.append_empty]; exact z⟩ }
  have hok3 : HOk X.prog X.w H1 G := fun b o z => by
    have hba : b ≠ a := fun e => by
      rw [e, hn] at z
      cases z
    have z2 : upd H1 a (exo a C none) b = some o := by rw [upd_ne hba]; exact z
    have hown : ∀ {c : Addr}, upd H1 a (exo a C none) c = some (.own b) → c ≠ a := fun {c} hc e => by
      rw [e, upd_same] at hc
      cases hc
    have htup : ∀ {c : Addr} {xs}, upd H1 a (exo a C none) c = some (.tup xs) → c ≠ a := fun {c xs} hc e => by
      rw [e, upd_same] at hc
      cases hc
    exact (hok b o z2).stay (fun c v hc y => by
        have hca : c ≠ a := by
          rcases hc with hc | hc
          · rw [hc]
            exact hba
          · exact hown hc
        rw [gk c hca]
        exact y)
      (fun c hc => by have := hown hc; rw [upd_ne this] at hc; exact hc) (fun c xs hc => by have := htup hc; rw [upd_ne this] at hc; exact hc)
  have J : Inv X pins σ H1 ⟨G, g2, d2, t2, os2⟩ := I1.call' (ch := []) ho U hok3 hb (fun b z => absurd z (by simp))
  refine ⟨t0, G, J, fun b o z => ?_, ge, hoe, hn⟩
  by_cases hba : b = a
  · rw [hba, ge] at z
    cases z
  · rw [gk b hba] at z
    exact z
theorem pmk_oex0 {x : Str} {C fI : Addr} {k : Nat} {fd : FuncData} {ps : List Str} {p : Pos} (T : OexC X.K C) (iC : PySem.W.findIn X.K (.ref C) "__init__" = some (some (.ref fI))) (tI : PySem.W.typeIn X.K (.ref fI) = some (.type "function"))
    (F1 : FnOk X.prog X.w X.K X.mg X.base (L2.CX X.prog X.w) k fI fd ps (spEx0 C)) (hr : Room (k + 1) X.A) (hb : Binds X.K fd ps []) (hx : Passes (L2.CX X.prog X.w) X (fun _ _ _ => False)) (hg : Gl X x) (hm : X.mg x = some (.ref C))
    (hdb : (x == ("__debug__" : Str)) = false := by decide) : PMk X (.Call (.Name x p) [] [] pos) (fun σ H Q => Q (.ref C) none H) := by
  intro pins s σ H1 Q I1 q
  obtain ⟨nm, q', N, bs, bm, sn, sub, ab, col, dd, k0, k1, k2, k3, k5, hC, hbm⟩ := T.cls
  refine wpAny_Call_Name_kw (ld_glob I1 hg hm ?_ hdb)
  refine PySem.W.callWith_K0 I1.kIn T.kC ?_
  obtain ⟨hp, g, dr, tk, os⟩ := s
  have hsz : hp.objs.size ≤ hp.objs.size + 1 := Nat.le_succ _
  have hn : H1 (hp.objs.size + 1) = none := I1.hok.fresh hsz
  have kk : ∀ b o, hp.get? b = some o → ((hp.push (PySem.W.kdv_tup [])).push (PySem.HandSPX.excO C hp.objs.size)).get? b = some o := fun b o e => Heap.get?_push_of_some _ (Heap.get?_push_of_some _ e)
  have hget : ((hp.push (PySem.W.kdv_tup [])).push (PySem.HandSPX.excO C hp.objs.size)).get? (hp.objs.size + 1) = some (PySem.HandSPX.excO C hp.objs.size) := by heap_get
  have I2 : Inv X pins σ (upd H1 (hp.objs.size + 1) (exo (hp.objs.size + 1) C none)) ⟨(hp.push (PySem.W.kdv_tup [])).push (PySem.HandSPX.excO C hp.objs.size), g, dr, tk, os⟩ :=
    I1.laid (t' := tk) (a := hp.objs.size + 1) (o := exo (hp.objs.size + 1) C none) (h' := (hp.push (PySem.W.kdv_tup [])).push (PySem.HandSPX.excO C hp.objs.size)) kk hsz (exo_ok hget)
  have r2 : Vals [V.ref (hp.objs.size + 1)] [Value.ref (hp.objs.size + 1)] := .cons rfl .nil
  have hq : spEx0 C [V.ref (hp.objs.size + 1)] (upd H1 (hp.objs.size + 1) (exo (hp.objs.size + 1) C none)) (fun v H2 => v = .non ∧ H2 = upd H1 (hp.objs.size + 1) (exo (hp.objs.size + 1) C none)) (fun _ _ _ => False) := ⟨_, rfl, upd_same, rfl, rfl⟩
  have hl : [Value.ref (hp.objs.size + 1)].length = ps.length := (F1.len _ _ _ _ hq)
  have b := hb { heap := (hp.push (PySem.W.kdv_tup [])).push (PySem.HandSPX.excO C hp.objs.size), gens := g, drawn := dr, toks := tk, os := os } [Value.ref (hp.objs.size + 1)] I2.kIn (by rw [List.append_nil]; exact hl)
  rw [List.append_nil] at b
  refine wpAny_call (PySem.HandSPX.call_own PySem.F.excBase_ValueError (fun Y => PySem.HandSPX.refsVE_contains Y bm hbm) (I1.kIn _ _ hC) (PySem.W.looks_findIn I1.kIn iC) (fun self => PySem.W.bind_fn I1.kIn self tI) (Nat.zero_le _)
    (codeAny_mono (F1.run _ X.stack _ _ ⟨[Value.ref (hp.objs.size + 1)], []⟩ [Value.ref (hp.objs.size + 1)] _ _ (fun _ _ _ => False) (hr.make C [] []) (I2.env0.make C [] []) b r2 hq) fun r s' hq' => ?_))
  cases r with
  | error er => exact hx pins σ _ _ er s' I2 hq'
  | ok fl =>
    cases fl with
    | ret u =>
      obtain ⟨v, H2, os2, bare2, un2, hok2, rv, ev, eH⟩ := hq'
      subst ev
      subst eH
      obtain ⟨h2, g2, d2, t2, os'⟩ := s'
      obtain ⟨t0, G, J, kG, ge, hoe, na⟩ := mk_endN (d2 := d2) (t2 := t2) I1 hsz kk un2 hok2 os2 bare2
      exact ⟨rv, ⟨_, _, _, ⟨G, g2, d2, t2, os'⟩, H1, .ref C, none, rfl, J, kG, ge, hoe, ⟨rfl, rfl⟩, rfl, rfl, na, rfl, bare2, raises_own T.exC T.tyC, q⟩⟩
    | next => exact False.elim hq'
    | brk => exact False.elim hq'
    | cont => exact False.elim hq'
def sRaiseN (x : Str) : SF := fun s => .ex x [] s
theorem ds_raiseN {x : Str} {C : Addr} {k : Nat} {p p' : Pos} (G : GEx0 X.prog X.w X.K X.mg X.base x C) (hr : Room k X.A) (hc : X.calm = true) (hg : Gl X x) (tk : Takes X W) (hkk : 2 ≤ k := by decide)
    (hdb : (x == ("__debug__" : Str)) = false := by decide) : DX1 F X W (.Raise (some (.Call (.Name x p') [] [] p)) none pos) (sRaiseN x) := by
  obtain ⟨f, fd, ps, G, iC, tI, hb, T, hm⟩ := G
  refine ⟨PS.weak (ps_raise hc tk (pmk_oex0 T iC tI G (hr.mono hkk) hb (passes_none tk) hg hm hdb)) fun D σ H ⟨sd, rel, p⟩ => ?_⟩
  exact p _ _ σ H rel (ExtS.same (Same.refl H) fun _ z => z) (.inl ⟨C, hm, rfl, .inl rfl⟩)
/-! ### built-in classes -/
def sRaiseT (x : Str) : SF := fun s => .ex x [] s
theorem ds_raiseT {T N I : String} {m : Str} {j : Nat} {p2 p p' : Pos} {x : Str} (Fb : ExcB T N I) (hc : X.calm = true) (tk : Takes X W) (hg : Gl X x) (hm : X.mg x = none) (hv : bootBuiltins x = some (.type T)) (hx : x = Str.ofString T) (hn : x ≠ "__name__" := by decide) (hdb : (x == ("__debug__" : Str)) = false := by decide) :
    DX1 F X W (.Raise (some (.Call (.Name x p') [.Constant (.str m) j p2] [] p)) none pos) (sRaiseT x) := by
  refine ⟨PS.weak (ps_raiseB hc tk Fb hg hm hv hn hdb) fun D σ H ⟨sd, rel, p⟩ => ?_⟩
  exact p _ _ σ H rel (ExtS.same (Same.refl H) fun _ z => z) (.inr ⟨T, hm, hx, rfl, rfl⟩)
theorem runB_of {k : Nat} {f : SF} {ds : List D} {d : D} (h : f (ds.map .bw ++ List.replicate k .un) = .rt d) : runB k f ds = .ok d := by unfold runB; rw [h]; rfl
def sTryT (x : Str) (body h : SF) : SF := fun s => match body s with
  | .ex c fs s' => if c = x ∧ okIn s' = true then behX none (h (frzA s')) else .no
  | o => o
theorem ds_tryT {T : String} {x : Str} {bd : List Stmt} {s0 : Stmt} {su : List Stmt} {p1 p2 : Pos} {f h : SF} (hst : X.stack = X.env :: X.outer) (hfr : X.env.frame = some X.env.locals) (hN : X.N.Nodup) (tk : Takes X W) (hg : Gl X x) (hm : X.mg x = none) (hv : bootBuiltins x = some (.type T)) (hx : x = Str.ofString T)
    (hT : ∀ K : PySem.W.Frag, PySem.W.exmOne K (.type T) (.type T) = some true) (hinj : ∀ T' : String, x = Str.ofString T' → T' = T)
    (hb : ∀ (W : WX) (pn : List (Addr × Obj)) (xe : Value → Shared → Prop), Takes (X.tr pn xe) W → PassesOwn (model X.prog X.w) X.A X.env xe → DXs F (X.tr pn xe) W bd f)
    (hh : ∀ (F' : Fr) (y : Addr) (o : Obj) (k : Value) (d : Option Addr) (pn : List (Addr × Obj)), Zc k d o → (∃ vs, o.data = .fields vs) → DXs F' (X.suite y ((y, o) :: pn)) W0 (s0 :: su) h)
    (hn : x ≠ "__name__" := by decide) (hdb : (x == ("__debug__" : Str)) = false := by decide) :
    DX1 F X W (.Try bd [.ExceptHandler (some (.Name x p1)) none (s0 :: su) p2] [] [] pos) (sTryT x f h) := by
  have cl : Clauses X [.ExceptHandler (some (.Name x p1)) none (s0 :: su) p2] [(.type T, none, fun y _ _ E σ H => ∃ F', y = F'.S ∧ TSx F' X.mg W0 h E σ H)] :=
    .one (names_blt hg hm hv hn hdb) (fun y o k d pn hz hf => ⟨fun pins s σ H D I q => by
      obtain ⟨F', _, q⟩ := q
      exact (hh F' y o k d pn hz hf).ps.run pins s σ H D I q⟩) .nil
  refine ⟨PS.weak (ps_try_cls hst hfr hN tk (tb := fun W => TSx F X.mg W f) (fun W pn xe t p => (hb W pn xe t p).ps) cl) fun E σ H ⟨sd, rel, p⟩ => ⟨sd, rel, ?_⟩⟩
  unfold sTryT at p
  cases q : f sd with
  | nx s' => rw [q] at p; exact p
  | rt d => rw [q] at p; exact p
  | rn n => rw [q] at p; exact p
  | bk s' => rw [q] at p; exact p
  | ct s' => rw [q] at p; exact p
  | no => rw [q] at p; exact p
  | ex c fs s1 =>
    rw [q] at p
    dsimp only at p
    split at p
    · rename_i hc
      obtain ⟨rfl, hin⟩ := hc
      intro cls da σ1 H1 r1 e1 xr
      have ef : ExtS σ sd H σ1 (frzA s1) H1 := e1.trans (ExtS.same (Same.refl _) fun a ⟨i, z⟩ => absurd z (frzA_noown i a))
      have hcls : cls = .type T := by
        rcases xr with ⟨C, m, _⟩ | ⟨T', _, e, rfl, _⟩
        · rw [hm] at m; cases m
        · rw [hinj T' e]
      subst hcls
      refine ⟨true, hT _, fun _ y ny => ?_, fun z => by cases z⟩
      refine ⟨⟨H1, F.B, y⟩, rfl, frzA s1, r1.suite hin y, ?_⟩
      cases q2 : h (frzA s1) with
      | no => rw [q2] at p; exact p
      | ex c fs s' => rw [q2] at p; exact p.elim
      | rt d => rw [q2] at p; exact fun v H2 s hv => p v H2 (r1.same.trans s) hv
      | rn n => rw [q2] at p; exact fun p0 H2 s n0 nb h => p p0 H2 (r1.same.trans s) (r1.same.free n0) nb h
      | nx s2 =>
        rw [q2] at p
        unfold behX unX at p
        dsimp only at p
        split at p
        · rename_i ho
          exact fun σ2 H2 r2 e2 => p σ2 H2 (r2.back r1.same ho) (ef.trans e2)
        · exact p.elim
      | bk s2 =>
        rw [q2] at p
        unfold behX unX at p
        dsimp only at p
        split at p
        · rename_i ho
          exact fun σ2 H2 r2 e2 => p σ2 H2 (r2.back r1.same ho) (ef.trans e2)
        · exact p.elim
      | ct s2 =>
        rw [q2] at p
        unfold behX unX at p
        dsimp only at p
        split at p
        · rename_i ho
          exact fun σ2 H2 r2 e2 => p σ2 H2 (r2.back r1.same ho) (ef.trans e2)
        · exact p.elim
    · exact p.elim
end DS
set_option Elab.async false
set_option linter.all false
set_option maxRecDepth 100000
set_option maxHeartbeats 2000000
namespace DS
open PySem L2
/-! ### loops by an invariant -/
theorem forL_inv {g : GF} {b : SF} (I : Nat → SD → Prop) : ∀ (ds : List D) (i : Nat) (s : SD), I i s →
    (∀ (j : Nat) (d : D) (s : SD), ds[j]? = some d → I (i + j) s → ∃ s1 s2, g d s = some s1 ∧ (b s1 = .nx s2 ∨ b s1 = .ct s2) ∧ I (i + j + 1) s2) →
    ∃ s', forL g b ds s = .nx s' ∧ I (i + ds.length) s'
  | [], i, s, h, _ => ⟨s, rfl, h⟩
  | d :: ds, i, s, h, st => by
    obtain ⟨s1, s2, h1, h2, h3⟩ := st 0 d s rfl h
    obtain ⟨s', e, h4⟩ := forL_inv I ds (i + 1) s2 h3 (fun j d s hj hI => by
      have := st (j + 1) d s (by simpa using hj) (by rw [← Nat.add_assoc, Nat.add_right_comm]; exact hI)
      rw [← Nat.add_assoc, Nat.add_right_comm i j 1] at this
      exact this)
    refine ⟨s', ?_, by rw [List.length_cons, Nat.add_comm ds.length 1, ← Nat.add_assoc]; exact h4⟩
    unfold forL
    rw [h1]
    rcases h2 with h2 | h2 <;> (dsimp only; rw [h2]; exact e)
theorem sFor_inv {it : IF} {g : GF} {b : SF} {ds : List D} {s : SD} (hi : it s = .ok ds) (I : Nat → SD → Prop) (h0 : I 0 s)
    (st : ∀ (j : Nat) (d : D) (s : SD), ds[j]? = some d → I j s → ∃ s1 s2, g d s = some s1 ∧ (b s1 = .nx s2 ∨ b s1 = .ct s2) ∧ I (j + 1) s2) :
    ∃ s', sFor it g b s = .nx s' ∧ I ds.length s' := by
  obtain ⟨s', e, h⟩ := forL_inv I ds 0 s h0 (by simpa using st)
  refine ⟨s', ?_, by simpa using h⟩
  unfold sFor
  rw [hi]
  exact e
theorem sWhile_inv {t : TF} {b : SF} (I : Nat → SD → Prop) (Z : SD → Prop)
    (st : ∀ (m : Nat) (s : SD), I m s → (t s = .ok false ∧ Z s) ∨ (t s = .ok true ∧ ∃ s2 k, k < m ∧ (b s = .nx s2 ∨ b s = .ct s2) ∧ I k s2)) :
    ∀ (m : Nat) (s : SD), I m s → ∃ s', sWhile t b s = .nx s' ∧ Z s' := by
  intro m
  induction m using Nat.strongRecOn with
  | _ m ih =>
    intro s h
    rcases st m s h with ⟨h1, h2⟩ | ⟨h1, s2, k, hk, h2, h3⟩
    · exact ⟨s, by rw [sWhile_eq, h1], h2⟩
    · obtain ⟨s', e, z⟩ := ih k hk s2 h3
      refine ⟨s', ?_, z⟩
      rw [sWhile_eq, h1]
      rcases h2 with h2 | h2 <;> (dsimp only; rw [h2]; exact e)
/-! ### comprehensions -/
theorem lcL_map {α : Type} {g : GF} {t : TF} {el : EF} {s0 : SD} (f : α → D) (p : α → Bool) (v : α → D) : ∀ (l : List α), (∀ a ∈ l, ∃ s1, g (f a) s0 = some s1 ∧ t s1 = .ok (p a) ∧ (p a = true → el s1 = .ok (v a))) →
    lcL g t el s0 (l.map f) = .ok ((l.filter p).map v)
  | [], _ => rfl
  | a :: l, h => by
    obtain ⟨s1, h1, h2, h3⟩ := h a (.head _)
    have ih := lcL_map f p v l fun b hb => h b (.tail _ hb)
    rw [List.map_cons]
    unfold lcL
    rw [h1]
    dsimp only
    rw [h2]
    simp only [noX, R.bind_ok]
    cases q : p a with
    | false => rw [if_neg Bool.false_ne_true, List.filter_cons_of_neg (by simp [q])]; exact ih
    | true =>
      rw [if_pos rfl, h3 q, List.filter_cons_of_pos (by simp [q]), List.map_cons]
      simp only [noX, R.bind_ok]
      rw [ih]
      rfl
theorem lcD_map {α : Type} {g : GF} {t : TF} {ek ev : EF} {s0 : SD} (f : α → D) (p : α → Bool) (k : α → L2.Key) (v : α → D) : ∀ (l : List α) (acc : List (L2.Key × D)), acc.length + l.length ≤ sizeLine →
    (∀ a ∈ l, ∃ s1, g (f a) s0 = some s1 ∧ t s1 = .ok (p a) ∧ (p a = true → ek s1 = .ok (keyDd (k a)) ∧ ev s1 = .ok (v a))) →
    lcD g t ek ev s0 acc (l.map f) = .ok ((l.filter p).foldl (fun acc a => putD acc (k a) (v a)) acc)
  | [], acc, _, _ => rfl
  | a :: l, acc, hl, h => by
    obtain ⟨s1, h1, h2, h3⟩ := h a (.head _)
    rw [List.length_cons] at hl
    rw [List.map_cons]
    unfold lcD
    rw [h1]
    dsimp only
    rw [h2]
    simp only [noX, R.bind_ok]
    cases q : p a with
    | false =>
      rw [if_neg Bool.false_ne_true, List.filter_cons_of_neg (by simp [q])]
      exact lcD_map f p k v l acc (by omega) fun b hb => h b (.tail _ hb)
    | true =>
      obtain ⟨h4, h5⟩ := h3 q
      rw [if_pos rfl, h4, List.filter_cons_of_pos (by simp [q]), List.foldl_cons]
      simp only [noX, R.bind_ok]
      rw [h5]
      simp only [noX, R.bind_ok]
      have : keyD (keyDd (k a)) = some (k a) := by cases k a <;> rfl
      rw [this]
      dsimp only
      rw [if_pos (by omega)]
      have hp := length_putD acc (k a) (v a)
      exact lcD_map f p k v l _ (by omega) fun b hb => h b (.tail _ hb)
/-! ### values -/
abbrev nD (i : Nat) : D := .int (i : Int)
abbrev nL (l : List Nat) : D := .lst (l.map nD)
theorem atI_nat {α : Type} {xs : List α} {i : Nat} (h : i < xs.length) : L2.atI xs (i : Int) = some (xs[i]) := by
  unfold L2.atI L2.ixN
  rw [if_pos (by omega), if_pos (by omega)]
  simp [h]
theorem atI_last {α : Type} {xs : List α} (h : xs ≠ []) : L2.atI xs (-1) = some (xs.getLast h) := by
  unfold L2.atI L2.ixN
  have hl : 0 < xs.length := List.length_pos_iff.mpr h
  rw [if_neg (by omega), if_pos (by omega)]
  have : ((-1 : Int) + xs.length).toNat = xs.length - 1 := by omega
  simp only [Option.bind_some, this]
  rw [List.getElem?_eq_getElem (by omega), List.getLast_eq_getElem]
theorem opIx_nl {l : List Nat} {i : Nat} (h : i < l.length) : opIx (nL l) (.int (i : Int)) = .ok (nD l[i]) := by
  unfold opIx
  simp only
  rw [atI_nat (by simpa using h)]
  simp
theorem opIx_il {l : List Int} {i : Nat} (h : i < l.length) : opIx (.lst (l.map D.int)) (.int (i : Int)) = .ok (.int l[i]) := by
  unfold opIx
  simp only
  rw [atI_nat (by simpa using h)]
  simp
theorem fVs_ints : ∀ (l : List Int), fVs (l.map D.int) = some (l.map V.int)
  | [] => rfl
  | a :: l => by simp [fVs, fV, fVs_ints l]
theorem inD_ints (a : Int) (l : List Int) : inD (.int a) (.lst (l.map D.int)) = some (decide (a ∈ l)) := by
  unfold inD
  simp only [fV, fVs_ints]
  unfold inV
  congr 1
  induction l with
  | nil => simp
  | cons b l ih =>
    simp only [List.map_cons, List.any_cons, ih, List.mem_cons]
    have : eqV (V.int b) (V.int a) = (b == a) := rfl
    rw [this]
    by_cases h : a = b
    · subst h; simp
    · simp [h, Ne.symm h]
theorem map_nD (l : List Nat) : l.map nD = (l.map fun i : Nat => (i : Int)).map D.int := by simp [nD]
theorem inD_nl (a : Nat) (l : List Nat) : inD (.int (a : Int)) (nL l) = some (decide (a ∈ l)) := by
  unfold nL
  rw [map_nD, inD_ints]
  congr 1
  by_cases h : a ∈ l
  · simp only [h, List.mem_map, decide_true, decide_eq_true_eq]
    exact ⟨a, h, rfl⟩
  · simp only [h, List.mem_map, decide_false, decide_eq_false_iff_not]
    exact fun ⟨b, hb, e⟩ => h (by rw [← Int.ofNat.inj e]; exact hb)
theorem toPyL_ints : ∀ (l : List Int), toPyL (l.map D.int) = some (l.map PyData.int)
  | [] => rfl
  | a :: l => by simp [toPyL, toPy, toPyL_ints l]
theorem canLay_ints : ∀ (l : List Int), PyData.canLayAll0 (l.map PyData.int) = true
  | [] => rfl
  | a :: l => by simp [PyData.canLayAll0, PyData.canLay0, canLay_ints l]
theorem depth_ints : ∀ (l : List Int), PyData.depthAll (l.map PyData.int) = 0
  | [] => rfl
  | a :: l => by simp [PyData.depthAll, PyData.depth, depth_ints l]
theorem eqv_ints : ∀ (l m : List Int), PyData.eqvAll (l.map PyData.int) (m.map PyData.int) = decide (l = m)
  | [], [] => rfl
  | a :: l, [] => rfl
  | [], b :: m => rfl
  | a :: l, b :: m => by
    simp only [List.map_cons, PyData.eqvAll, PyData.eqv, eqv_ints l m]
    by_cases h : a = b
    · subst h
      by_cases h2 : l = m <;> simp [h2]
    · simp [h]
theorem shaped_ints (l : List Int) : SeqAt.shaped (.list (l.map PyData.int)) = true := by
  simp [SeqAt.shaped, PyData.canLay0, canLay_ints, PyData.depth, depth_ints]
theorem eqD_ints (l m : List Int) : eqD (.lst (l.map D.int)) (.lst (m.map D.int)) = some (decide (l = m)) := by
  simp only [eqD, toPy, toPyL_ints, Option.map_some, shaped_ints, and_self, if_true, PyData.eqv, eqv_ints]
theorem eqD_int (a b : Int) : eqD (.int a) (.int b) = some (decide (a = b)) := by
  simp only [eqD, toPy, SeqAt.shaped, PyData.canLay0, PyData.depth, PyData.eqv]
  by_cases h : a = b <;> simp [h]
theorem eqD_bl (a b : Bool) : eqD (.bl a) (.bl b) = some (a == b) := by
  simp [eqD, toPy, SeqAt.shaped, PyData.canLay0, PyData.depth, PyData.eqv]
theorem opEq_int (a b : Int) : opEq (.int a) (.int b) = .ok (.bl (decide (a = b))) := by simp only [opEq, eqD_int]
theorem opNe_int (a b : Int) : opNe (.int a) (.int b) = .ok (.bl (!decide (a = b))) := by simp only [opNe, eqD_int]
theorem opEq_ints (l m : List Int) : opEq (.lst (l.map D.int)) (.lst (m.map D.int)) = .ok (.bl (decide (l = m))) := by simp only [opEq, eqD_ints]
theorem opEq_nl (l m : List Nat) : opEq (nL l) (nL m) = .ok (.bl (decide (l = m))) := by
  unfold nL
  rw [map_nD, map_nD, opEq_ints]
  congr 2
  have hi : Function.Injective (fun l : List Nat => l.map fun i : Nat => (i : Int)) := fun l m h => by
    have e := congrArg (fun l => l.map Int.toNat) h
    have z : ∀ l : List Nat, (l.map fun i : Nat => (i : Int)).map Int.toNat = l := fun l => by
      rw [List.map_map]
      exact (List.map_congr_left fun i _ => by simp).trans (List.map_id l)
    simpa only [z] using e
  by_cases h : l = m
  · simp [h]
  · have : ¬ (l.map fun i : Nat => (i : Int)) = m.map fun i : Nat => (i : Int) := fun z => h (hi z)
    simp [h, this]
theorem toPyL_bls : ∀ (l : List Bool), toPyL (l.map D.bl) = some (l.map PyData.bool)
  | [] => rfl
  | a :: l => by simp [toPyL, toPy, toPyL_bls l]
theorem opInt_i (a : Int) : opInt [.int a] = .ok (.int a) := rfl
theorem opMod_i {a b : Int} (h : b ≠ 0) : opMod (.int a) (.int b) = .ok (.int (a.fmod b)) := by simp [opMod, opI2, h]
theorem log2_lt {b : Int} {k n : Nat} (h : b.natAbs < 2 ^ k) (hk : k ≤ n) (h0 : 0 < n) : b.natAbs.log2 < n := by
  by_cases z : b.natAbs = 0
  · rw [z]; simpa using h0
  · exact Nat.lt_of_lt_of_le ((Nat.log2_lt z).mpr h) hk
theorem opFdiv_i {a b : Int} (h : b ≠ 0) (h2 : b.natAbs < 2 ^ 64) : opFdiv (.int a) (.int b) = .ok (.int (a.fdiv b)) := by
  have : b.natAbs.log2 < 9000 := log2_lt h2 (by decide) (by decide)
  simp [opFdiv, opI2, h, this]
theorem opMul_i {a b : Int} (h1 : a.natAbs < 2 ^ 64) (h2 : b.natAbs < 2 ^ 64) : opMul (.int a) (.int b) = .ok (.int (a * b)) := by
  have x1 : a.natAbs.log2 < 1000 := log2_lt h1 (by decide) (by decide)
  have x2 : b.natAbs.log2 < 1000 := log2_lt h2 (by decide) (by decide)
  have : a.natAbs.log2 + b.natAbs.log2 < 1000000 := by omega
  simp [opMul, this]
theorem rangeD_get {n j : Nat} {d : D} (h : (rangeD 0 n)[j]? = some d) : d = nD j ∧ j < n := by
  unfold rangeD at h
  rw [List.getElem?_map, Option.map_eq_some_iff] at h
  obtain ⟨k, h1, rfl⟩ := h
  have hj : j < n := by
    have := (List.getElem?_eq_some_iff.mp h1).1
    simpa using this
  rw [List.getElem?_range hj] at h1
  cases h1
  exact ⟨by simp [nD], hj⟩
theorem rangeD_eq (n : Nat) : rangeD 0 n = (List.range n).map nD := by
  unfold rangeD
  exact List.map_congr_left fun i _ => by simp [nD]
theorem enumL_eq : ∀ (i : Nat) (ds : List D), enumL i ds = (ds.zipIdx i).map fun p => .tup [nD p.2, p.1]
  | _, [] => rfl
  | i, d :: ds => by
    simp only [enumL, List.zipIdx_cons, List.map_cons, enumL_eq (i + 1) ds]
/-! ### statements, step by step -/
section
variable {f g : SF} {s s' : SD} {d : D} {e e2 : EF} {t : TF} {i : Nat} {ds : List D} {kvs : List (L2.Key × D)}
theorem runD_of {k : Nat} (h : f (ds.map .sh ++ List.replicate k .un) = .rt d) : runD k f ds = .ok d := by unfold runD; rw [h]; rfl
theorem seq_nx (h : f s = .nx s') : sSeq f g s = g s' := by unfold sSeq; rw [h]
theorem seq_rt (h : f s = .rt d) : sSeq f g s = .rt d := by unfold sSeq; rw [h]
theorem if_t (h : t s = .ok true) : sIf t f g s = f s := by unfold sIf; rw [h]
theorem if_f (h : t s = .ok false) : sIf t f g s = g s := by unfold sIf; rw [h]
theorem set_ok (h : e s = .ok d) : sSet i e s = .nx (s.set i (.sh d)) := by unfold sSet sE; rw [h]
theorem setN_ok {fn : NF} {n : ND} (h : fn s = .ok n) : sSetN i fn s = .nx (s.set i n.sl) := by unfold sSetN; rw [h]
theorem ret_ok (h : e s = .ok d) : sRet e s = .rt d := by unfold sRet sE; rw [h]
theorem app_ok (hs : s[i]? = some (.ol ds)) (h : e s = .ok d) (hl : ds.length < sizeLine) : sApp i e s = .nx (s.set i (.ol (ds ++ [d]))) := by
  unfold sApp sE
  rw [hs]
  dsimp only
  rw [h]
  dsimp only
  rw [if_pos hl]
theorem putL_ok {n : Nat} {j : Int} (hs : s[i]? = some (.ol ds)) (h : e s = .ok d) (h2 : e2 s = .ok (.int j)) (hj : L2.ixN ds.length j = some n) : sPutI i e e2 s = .nx (s.set i (.ol (ds.set n d))) := by
  unfold sPutI sE
  rw [hs]
  dsimp only
  rw [h]
  dsimp only
  rw [h2]
  dsimp only
  rw [hj]
theorem putK_ok {k : D} {key : L2.Key} (hs : s[i]? = some (.od kvs)) (h : e s = .ok d) (h2 : e2 s = .ok k) (hk : keyD k = some key) (hl : kvs.length < sizeLine) : sPutI i e e2 s = .nx (s.set i (.od (putD kvs key d))) := by
  unfold sPutI sE
  rw [hs]
  dsimp only
  rw [h]
  dsimp only
  rw [h2]
  dsimp only
  rw [hk]
  dsimp only
  rw [if_pos hl]
theorem par_ok {j : Nat} {d2 : D} (h : e s = .ok d) (h2 : e2 s = .ok d2) : sPar i j e e2 s = .nx ((s.set i (.sh d)).set j (.sh d2)) := by
  unfold sPar
  simp only [evalL, h, h2, R.bind_ok]
theorem fld_ok {C : Addr} {x : Str} {fs : List (Str × D)} (h : e s = .ok d) (hs : s[i]? = some (.oi C fs)) (hl : fs.length < 1000) : sFldD C i x e s = .nx (s.set i (.oi C (putFD x d fs))) := by
  unfold sFldD sE
  rw [h]
  dsimp only
  rw [hs]
  dsimp only
  rw [if_pos ⟨rfl, hl⟩]
end
theorem ixN_nat {n i : Nat} (h : i < n) : L2.ixN n (i : Int) = some i := by
  unfold L2.ixN
  rw [if_pos (by omega), if_pos (by omega)]
  simp
theorem szl : sizeLine = 16777216 := rfl
/-! ### tables -/
section
variable {κ : Type} [DecidableEq κ]
theorem valD_mapIf (k k' : κ) (d : D) : ∀ kvs : List (κ × D), valD (kvs.map fun kv => if kv.1 = k then (kv.1, d) else kv) k' = if k' = k then (valD kvs k').map fun _ => d else valD kvs k'
  | [] => by by_cases h : k' = k <;> simp [h, valD_nil]
  | p :: r => by
    have ih := valD_mapIf k k' d r
    rw [List.map_cons]
    by_cases h1 : p.1 = k
    · rw [if_pos h1]
      by_cases h2 : k' = k
      · subst h2
        rw [valD_pos (p := (p.1, d)) h1, valD_pos h1, if_pos rfl]
        rfl
      · have h3 : ¬ p.1 = k' := fun z => h2 (by rw [← z, h1])
        rw [valD_neg (p := (p.1, d)) h3, valD_neg h3, ih]
    · rw [if_neg h1]
      by_cases h3 : p.1 = k'
      · have h2 : ¬ k' = k := fun z => h1 (by rw [h3, z])
        rw [valD_pos h3, if_neg h2, valD_pos h3]
      · rw [valD_neg h3, valD_neg h3, ih]
theorem valD_append (k : κ) (ls : List (κ × D)) : ∀ kvs : List (κ × D), valD (kvs ++ ls) k = (valD kvs k).or (valD ls k)
  | [] => by simp [valD_nil]
  | p :: r => by
    rw [List.cons_append]
    by_cases h : p.1 = k
    · rw [valD_pos h, valD_pos h]; rfl
    · rw [valD_neg h, valD_neg h, valD_append k ls r]
theorem valD_putD (kvs : List (κ × D)) (k k' : κ) (d : D) : valD (putD kvs k d) k' = if k' = k then some d else valD kvs k' := by
  unfold putD
  by_cases h : (kvs.any fun kv => decide (kv.1 = k)) = true
  · rw [if_pos h, valD_mapIf]
    by_cases h2 : k' = k
    · subst h2
      rw [if_pos rfl, if_pos rfl]
      rw [valD_any] at h
      cases q : valD kvs k' with
      | none => rw [q] at h; cases h
      | some x => rfl
    · rw [if_neg h2, if_neg h2]
  · rw [if_neg h, valD_append]
    rw [valD_any] at h
    by_cases h2 : k' = k
    · subst h2
      rw [if_pos rfl]
      cases q : valD kvs k' with
      | none => rw [valD_pos rfl]; rfl
      | some x => rw [q] at h; exact absurd rfl h
    · rw [if_neg h2, valD_neg (fun z => h2 z.symm), valD_nil]
      simp
end
end DS
set_option Elab.async false
set_option linter.all false
set_option maxRecDepth 100000
set_option maxHeartbeats 2000000
namespace DS
open PySem L2
theorem filter_tt {α : Type} : ∀ (l : List α), l.filter (fun _ => true) = l
  | [] => rfl
  | a :: l => by simp
theorem nLc_fil {α : Type} {it : IF} {g : GF} {t : TF} {el : EF} {idx : List Nat} {s : SD} (l : List α) (f : α → D) (p : α → Bool) (v : α → D) (hi : it s = .ok (l.map f)) (hl : l.length ≤ 1000000)
    (h : ∀ a ∈ l, ∃ s1, g (f a) (wipeS (blkS s) idx) = some s1 ∧ t s1 = .ok (p a) ∧ (p a = true → el s1 = .ok (v a))) : nLc it g t el idx s = .ok (.nl ((l.filter p).map v)) := by
  unfold nLc
  rw [hi, R.bind_ok, lcL_map f p v l h, R.bind_ok, if_pos]
  have := List.length_filter_le p l
  rw [List.length_map, szl]
  omega
theorem nLc_all {α : Type} {it : IF} {g : GF} {t : TF} {el : EF} {idx : List Nat} {s : SD} (l : List α) (f v : α → D) (hi : it s = .ok (l.map f)) (hl : l.length ≤ 1000000)
    (h : ∀ a ∈ l, ∃ s1, g (f a) (wipeS (blkS s) idx) = some s1 ∧ t s1 = .ok true ∧ el s1 = .ok (v a)) : nLc it g t el idx s = .ok (.nl (l.map v)) := by
  have := nLc_fil (t := t) (el := el) l f (fun _ => true) v hi hl fun a ha => by
    obtain ⟨s1, h1, h2, h3⟩ := h a ha
    exact ⟨s1, h1, h2, fun _ => h3⟩
  rw [filter_tt] at this
  exact this
theorem nDc_all {α : Type} {it : IF} {g : GF} {t : TF} {ek ev : EF} {idx : List Nat} {s : SD} (l : List α) (f : α → D) (k : α → L2.Key) (v : α → D) (hi : it s = .ok (l.map f)) (hl : l.length ≤ 1000000)
    (h : ∀ a ∈ l, ∃ s1, g (f a) (wipeS (blkS s) idx) = some s1 ∧ t s1 = .ok true ∧ ek s1 = .ok (keyDd (k a)) ∧ ev s1 = .ok (v a)) : nDc it g t ek ev idx s = .ok (.nd (l.foldl (fun acc a => putD acc (k a) (v a)) [])) := by
  unfold nDc
  rw [hi, R.bind_ok, lcD_map f (fun _ => true) k v l [] (by rw [szl]; simp; omega) fun a ha => by
    obtain ⟨s1, h1, h2, h3⟩ := h a ha
    exact ⟨s1, h1, h2, fun _ => h3⟩, R.bind_ok, filter_tt]
theorem iRange1 {e : EF} {s : SD} {n : Nat} (h : e s = .ok (nD n)) (hn : n ≤ 1000000) : iAll opRange1 [e] s = .ok ((List.range n).map nD) := by
  unfold iAll
  simp only [evalL, h, R.bind_ok]
  unfold opRange1
  dsimp only
  rw [if_pos (by omega), ← rangeD_eq]
  simp
theorem nRange1_ok {e : EF} {s : SD} {n : Nat} (h : e s = .ok (nD n)) (hn : n ≤ 1000000) : nRange1 e s = .ok (.nl ((List.range n).map nD)) := by
  unfold nRange1
  simp only [h, R.bind_ok]
  unfold nRg1
  dsimp only
  rw [if_pos ⟨by decide, by omega, by rw [szl]; omega⟩]
  congr 2
  unfold rangeL
  simp [nD]
theorem iEnum {e : EF} {s : SD} {l : List D} (h : e s = .ok (.lst l)) : iAll opEnum [e] s = .ok ((l.zipIdx 0).map fun p => .tup [nD p.2, p.1]) := by
  unfold iAll
  simp only [evalL, h, R.bind_ok]
  rw [← enumL_eq]
  rfl
theorem eBin_eq {op : D → D → R D} {fa fb : EF} {s : SD} {d e : D} (h1 : fa s = .ok d) (h2 : fb s = .ok e) : eBin op fa fb s = op d e := by unfold eBin; rw [h1, R.bind_ok, h2, R.bind_ok]
theorem eUn_eq {op : D → R D} {fa : EF} {s : SD} {d : D} (h1 : fa s = .ok d) : eUn op fa s = op d := by unfold eUn; rw [h1, R.bind_ok]
theorem eAll1 {op : List D → R D} {fa : EF} {s : SD} {d : D} (h1 : fa s = .ok d) : eAll op [fa] s = op [d] := by simp only [eAll, evalL, h1, R.bind_ok]
theorem eAll2 {op : List D → R D} {fa fb : EF} {s : SD} {d e : D} (h1 : fa s = .ok d) (h2 : fb s = .ok e) : eAll op [fa, fb] s = op [d, e] := by simp only [eAll, evalL, h1, h2, R.bind_ok]
theorem eAll3 {op : List D → R D} {fa fb fc : EF} {s : SD} {d e c : D} (h1 : fa s = .ok d) (h2 : fb s = .ok e) (h3 : fc s = .ok c) : eAll op [fa, fb, fc] s = op [d, e, c] := by simp only [eAll, evalL, h1, h2, h3, R.bind_ok]
theorem seq_ex {f g : SF} {s s' : SD} {c : Str} {fs : List (Str × D)} (h : f s = .ex c fs s') : sSeq f g s = .ex c fs s' := by unfold sSeq; rw [h]
theorem raise_ok {x fld : Str} {e : EF} {s : SD} {d : D} (h : e s = .ok d) : sRaise x fld e s = .ex x [(fld, d)] s := by unfold sRaise; rw [h]
theorem try_nx {tb : List (Str × Str)} {f : SF} {cl : List XCl} {s s' : SD} (h : f s = .nx s') : sTry tb f cl s = .nx s' := by unfold sTry; rw [h]
theorem try_rt {tb : List (Str × Str)} {f : SF} {cl : List XCl} {s : SD} {d : D} (h : f s = .rt d) : sTry tb f cl s = .rt d := by unfold sTry; rw [h]
theorem try_ex {tb : List (Str × Str)} {f : SF} {cl : List XCl} {s s' : SD} {c : Str} {fs : List (Str × D)} (h : f s = .ex c fs s') (ho : okIn s' = true) : sTry tb f cl s = clGo tb (frzA s') c fs cl := by
  unfold sTry
  rw [h]
  dsimp only
  rw [if_pos ho]
theorem runD_ex {k : Nat} {f : SF} {ds : List D} {c : Str} {fs : List (Str × D)} {s : SD} (h : f (ds.map .sh ++ List.replicate k .un) = .ex c fs s) : runD k f ds = .ex c fs := by unfold runD; rw [h]; rfl
theorem set_ex {e : EF} {s : SD} {i : Nat} {c : Str} {fs : List (Str × D)} (h : e s = .ex c fs) : sSet i e s = .ex c fs s := by unfold sSet sE; rw [h]
theorem ret_ex {e : EF} {s : SD} {c : Str} {fs : List (Str × D)} (h : e s = .ex c fs) : sRet e s = .ex c fs s := by unfold sRet sE; rw [h]
theorem expr_ex {e : EF} {s : SD} {c : Str} {fs : List (Str × D)} (h : e s = .ex c fs) : sExpr e s = .ex c fs s := by unfold sExpr sE; rw [h]
theorem expr_ok {e : EF} {s : SD} {d : D} (h : e s = .ok d) : sExpr e s = .nx s := by unfold sExpr sE; rw [h]
theorem augI_ok {C : Addr} {g : List D → R D} {i : Nat} {f : EF} {s : SD} {d e r : D} (hs : s[i]? = some (.sh d)) (h : f s = .ok e) (hr : opSp22 C g d e = .ok r) : sAugI C g i f s = .nx (s.set i (.sh r)) := by
  unfold sAugI
  rw [hs]
  dsimp only
  rw [h]
  dsimp only
  rw [hr]
end DS
set_option Elab.async false
set_option linter.all false
set_option maxRecDepth 100000
set_option maxHeartbeats 2000000
/-! Running a body by rewriting: every statement's outcome as an equation that rewrites from the outside in. -/
namespace DS
open PySem L2
def soB (o : SO) (g : SF) : SO := match o with
  | .nx s' => g s'
  | o => o
def rS (r : R D) (s : SD) (k : D → SO) : SO := match r with
  | .ok d => k d
  | .ex c fs => .ex c fs s
  | .no => .no
def rN (r : R ND) (s : SD) (k : ND → SO) : SO := match r with
  | .ok d => k d
  | .ex c fs => .ex c fs s
  | .no => .no
def rL (r : R (List D)) (s : SD) (k : List D → SO) : SO := match r with
  | .ok d => k d
  | .ex c fs => .ex c fs s
  | .no => .no
def rT (r : R Bool) (s : SD) (f g : SF) : SO := match r with
  | .ok true => f s
  | .ok false => g s
  | .ex c fs => .ex c fs s
  | .no => .no
/-- a test's way in an expression -/
def rIf {α : Type} (r : R Bool) (s : SD) (f g : SD → R α) : R α := match r with
  | .ok true => f s
  | .ok false => g s
  | .ex c fs => .ex c fs
  | .no => .no
section
variable {f g : SF} {s s' : SD} {d e : D} {fa fb : EF} {t u : TF} {i j : Nat} {n : ND} {c : Str} {fs : List (Str × D)} {k : D → SO} {kn : ND → SO} {kl : List D → SO} {ds : List D} {α : Type} {va vb : SD → R α}
theorem x_seq : sSeq f g s = soB (f s) g := by unfold sSeq soB; rfl
theorem x_nx : soB (.nx s) g = g s := rfl
theorem x_rt : soB (.rt d) g = .rt d := rfl
theorem x_rn : soB (.rn n) g = .rn n := rfl
theorem x_ex : soB (.ex c fs s) g = .ex c fs s := rfl
theorem x_bk : soB (.bk s) g = .bk s := rfl
theorem x_ct : soB (.ct s) g = .ct s := rfl
theorem x_ok : rS (.ok d) s k = k d := rfl
theorem x_okN : rN (.ok n) s kn = kn n := rfl
theorem x_okL : rL (.ok ds) s kl = kl ds := rfl
theorem x_exS : rS (.ex c fs) s k = .ex c fs s := rfl
theorem x_t : rT (.ok true) s f g = f s := rfl
theorem x_f : rT (.ok false) s f g = g s := rfl
theorem x_rt' : rIf (.ok true) s va vb = va s := rfl
theorem x_rf' : rIf (.ok false) s va vb = vb s := rfl
theorem x_set : sSet i fa s = rS (fa s) s fun d => .nx (s.set i (.sh d)) := by unfold sSet sE rS; rfl
theorem x_ret : sRet fa s = rS (fa s) s .rt := by unfold sRet sE rS; rfl
theorem x_expr : sExpr fa s = rS (fa s) s fun _ => .nx s := by unfold sExpr sE rS; rfl
theorem x_setN {fn : NF} : sSetN i fn s = rN (fn s) s fun n => .nx (s.set i n.sl) := by unfold sSetN rN; rfl
theorem x_if : sIf t f g s = rT (t s) s f g := by unfold sIf rT; rfl
theorem x_par : sPar i j fa fb s = rS (fa s) s fun d => rS (fb s) s fun e => .nx ((s.set i (.sh d)).set j (.sh e)) := by
  unfold sPar evalL evalL evalL
  cases fa s with
  | ok d =>
    simp only [R.bind_ok]
    cases fb s with
    | ok e => rfl
    | ex c fs => rfl
    | no => rfl
  | ex c fs => rfl
  | no => rfl
def appS (s : SD) (i : Nat) (d : D) : SO := match s[i]? with
  | some (.ol ds) => if ds.length < sizeLine then .nx (s.set i (.ol (ds ++ [d]))) else .no
  | _ => .no
theorem x_bin {op : D → D → R D} : eBin op fa fb s = (fa s).bind fun x => (fb s).bind fun y => op x y := rfl
theorem x_un {op : D → R D} : eUn op fa s = (fa s).bind op := rfl
theorem x_all {op : List D → R D} {l : List EF} : eAll op l s = (evalL l s).bind op := rfl
theorem x_nil : evalL [] s = .ok [] := rfl
theorem x_cons {l : List EF} : evalL (fa :: l) s = (fa s).bind fun d => (evalL l s).bind fun ds => .ok (d :: ds) := rfl
theorem x_nAll {op : List D → R ND} {l : List EF} : nAll op l s = (evalL l s).bind op := rfl
theorem x_nBin {op : D → D → R ND} : nBin op fa fb s = (fa s).bind fun x => (fb s).bind fun y => op x y := rfl
theorem x_eN {fn : NF} : eN fn s = (fn s).bind fun n => .ok n.d := rfl
theorem x_tVal : tVal fa s = (fa s).bind asB := rfl
theorem x_tTru : tTru fa s = (fa s).bind tru := rfl
theorem x_tNot : tNotF t s = (t s).bind fun b => .ok (!b) := rfl
theorem x_tAnd : tAndF t u s = rIf (t s) s u fun _ => .ok false := by
  unfold tAndF rIf
  cases t s with
  | ok b => cases b <;> rfl
  | ex c fs => rfl
  | no => rfl
theorem x_tOr : tOrF t u s = rIf (t s) s (fun _ => .ok true) u := by
  unfold tOrF rIf
  cases t s with
  | ok b => cases b <;> rfl
  | ex c fs => rfl
  | no => rfl
theorem x_eIf : eIf t fa fb s = rIf (t s) s fa fb := by
  unfold eIf rIf
  cases t s with
  | ok b => cases b <;> rfl
  | ex c fs => rfl
  | no => rfl
theorem x_eAnd : eAnd fa fb s = rIf ((fa s).bind asB) s fb fun _ => .ok (.bl false) := by
  unfold eAnd rIf
  cases fa s with
  | ok d =>
    simp only [R.bind_ok]
    cases asB d with
    | ok b => cases b <;> rfl
    | ex c fs => rfl
    | no => rfl
  | ex c fs => rfl
  | no => rfl
theorem x_eOr : eOr fa fb s = rIf ((fa s).bind asB) s (fun _ => .ok (.bl true)) fb := by
  unfold eOr rIf
  cases fa s with
  | ok d =>
    simp only [R.bind_ok]
    cases asB d with
    | ok b => cases b <;> rfl
    | ex c fs => rfl
    | no => rfl
  | ex c fs => rfl
  | no => rfl
theorem x_eNot : eNot fa s = (fa s).bind fun d => (asB d).bind fun b => .ok (.bl (!b)) := rfl
theorem x_asB {b : Bool} : asB (.bl b) = .ok b := rfl
theorem x_truB {b : Bool} : tru (.bl b) = .ok b := rfl
theorem x_eC {x : D} : eC x s = .ok x := rfl
theorem x_var (h : s[i]? = some (.sh d)) : eVar i s = .ok d := by unfold eVar; rw [h]
theorem x_bvar (h : s[i]? = some (.sh d)) : bVar i s = .ok d := by unfold bVar; rw [h]
theorem x_bol (h : s[i]? = some (.ol ds)) : bVar i s = .ok (.lst ds) := by unfold bVar; rw [h]
theorem x_nLst (h : ds.length ≤ 16777216) : nLst ds = .ok (.nl ds) := by unfold nLst; rw [if_pos (by rw [szl]; exact h)]
theorem x_opTup (h : ds.length ≤ 16777216) : opTup ds = .ok (.tup ds) := by unfold opTup; rw [if_pos (by rw [szl]; exact h)]
end
def aS (o : Option Sl) (fa : EF) (s : SD) (i : Nat) : SO := match o with
  | some (.ol ds) => rS (fa s) s fun d => if ds.length < sizeLine then .nx (s.set i (.ol (ds ++ [d]))) else .no
  | _ => .no
def cS (o : Option Sl) (s : SD) (i : Nat) : SO := match o with
  | some (.ol _) => .nx (s.set i (.ol []))
  | _ => .no
def tS (tb : List (Str × Str)) (o : SO) (cl : List XCl) : SO := match o with
  | .ex c fs s' => if okIn s' = true then clGo tb (frzA s') c fs cl else .no
  | o => o
section
variable {s s' : SD} {d : D} {fa : EF} {i : Nat} {ds : List D} {f : SF} {tb : List (Str × Str)} {cl : List XCl} {c : Str} {fs : List (Str × D)}
theorem x_app : sApp i fa s = aS (s[i]?) fa s i := by
  unfold sApp aS
  cases s[i]? with
  | none => rfl
  | some t => cases t <;> rfl
theorem x_aS (h : ds.length < 16777216) : aS (some (.ol ds)) fa s i = rS (fa s) s fun d => .nx (s.set i (.ol (ds ++ [d]))) := by
  unfold aS
  dsimp only
  simp only [if_pos (show ds.length < sizeLine by rw [szl]; exact h)]
theorem x_clear : sClear i s = cS (s[i]?) s i := by
  unfold sClear cS
  cases s[i]? with
  | none => rfl
  | some t => cases t <;> rfl
theorem x_cS : cS (some (.ol ds)) s i = .nx (s.set i (.ol [])) := rfl
theorem x_try : sTry tb f cl s = tS tb (f s) cl := by unfold sTry tS; rfl
theorem x_tnx : tS tb (.nx s) cl = .nx s := rfl
theorem x_trt : tS tb (.rt d) cl = .rt d := rfl
theorem x_slice {fl fh : SD → R (Option Int)} : eSlice fa fl fh s = (fa s).bind fun x => (fl s).bind fun lo => (fh s).bind fun hi => opSlice x lo hi := rfl
theorem x_asInt {x : Int} : asInt (.int x) = .ok (some x) := rfl
theorem x_opLst (h : ds.length ≤ 16777216) : opLst ds = .ok (.lst ds) := by unfold opLst; rw [if_pos (by rw [szl]; exact h)]
theorem x_raiseN {x : Str} : sRaiseN x s = .ex x [] s := rfl
theorem x_raiseT {x : Str} : sRaiseT x s = .ex x [] s := rfl
theorem x_raise {x fld : Str} : sRaise x fld fa s = rS (fa s) s fun d => .ex x [(fld, d)] s := by unfold sRaise rS; rfl
end
theorem x_dl {ds : List D} : ND.d (.nl ds) = .lst ds := rfl
theorem x_dk {kvs : List (L2.Key × D)} : ND.d (.nd kvs) = .dk kvs := rfl
theorem x_sl {ds : List D} : ND.sl (.nl ds) = .ol ds := rfl
theorem x_sk {kvs : List (L2.Key × D)} : ND.sl (.nd kvs) = .od kvs := rfl
theorem x_ite_ok {p : Prop} [Decidable p] {α : Type} (a : R α) : (if p then a else .no) = if p then a else .no := rfl
end DS
set_option Elab.async false
set_option linter.all false
/-! Permutations of 0 .. n-1 as lists, their rings: plain mathematics. -/
namespace PM
def ap (f : List Nat) (i : Nat) : Nat := f.getD i 0
theorem ap_get {f : List Nat} {i : Nat} (h : i < f.length) : ap f i = f[i] := by simp [ap, h]
structure Pm (n : Nat) (f : List Nat) : Prop where
  len : f.length = n
  lt : ∀ i, i < n → ap f i < n
  inj : ∀ i j, i < n → j < n → ap f i = ap f j → i = j
def it (f : List Nat) : Nat → Nat → Nat
  | 0, p => p
  | k + 1, p => ap f (it f k p)
section
variable {n : Nat} {f : List Nat} (P : Pm n f)
include P
theorem it_lt {p : Nat} (hp : p < n) : ∀ k, it f k p < n
  | 0 => hp
  | k + 1 => P.lt _ (it_lt hp k)
theorem it_cancel {p : Nat} (hp : p < n) : ∀ (i d : Nat), it f i p = it f (i + d) p → it f d p = p
  | 0, d, h => by rw [Nat.zero_add] at h; exact h.symm
  | i + 1, d, h => by
    have e : i + 1 + d = (i + d) + 1 := by omega
    rw [e] at h
    exact it_cancel hp i d (P.inj _ _ (it_lt P hp i) (it_lt P hp (i + d)) h)
end
theorem nodup_le : ∀ (n : Nat) (l : List Nat), l.Nodup → (∀ x ∈ l, x < n) → l.length ≤ n
  | 0, [], _, _ => Nat.le_refl _
  | 0, a :: l, _, h => absurd (h a (.head _)) (by omega)
  | n + 1, l, hn, h => by
    by_cases m : n ∈ l
    · have e := List.length_erase_of_mem m
      have := nodup_le n (l.erase n) (hn.erase n) fun x hx => by
        have h1 := h x (List.mem_of_mem_erase hx)
        have h2 : x ≠ n := fun z => by
          rw [z] at hx
          exact (List.Nodup.not_mem_erase hn) hx
        omega
      have : 0 < l.length := List.length_pos_of_mem m
      omega
    · have := nodup_le n l hn fun x hx => by
        have h1 := h x hx
        have h2 : x ≠ n := fun z => m (by rw [← z]; exact hx)
        omega
      omega
theorem least {P : Nat → Prop} : ∀ k, P k → ∃ k, P k ∧ ∀ j, j < k → ¬ P j := fun k => by
  induction k using Nat.strongRecOn with
  | _ k ih =>
    intro h
    by_cases z : ∃ j, j < k ∧ P j
    · obtain ⟨j, h1, h2⟩ := z
      exact ih j h1 h2
    · exact ⟨k, h, fun j h1 h2 => z ⟨j, h1, h2⟩⟩
theorem range_nodup_map {g : Nat → Nat} : ∀ (m : Nat), (∀ i j, i < j → j < m → g i ≠ g j) → ((List.range m).map g).Nodup := fun m h => by
  rw [List.Nodup, List.pairwise_map]
  refine List.Pairwise.imp_of_mem ?_ List.pairwise_lt_range
  intro a b ha hb hab
  exact h a b hab (List.mem_range.mp hb)
theorem exists_per {n : Nat} {f : List Nat} (P : Pm n f) {p : Nat} (hp : p < n) : ∃ k, (0 < k ∧ it f k p = p) ∧ ∀ j, j < k → ¬ (0 < j ∧ it f j p = p) := by
  by_cases z : ∃ i j, i < j ∧ j < n + 1 ∧ it f i p = it f j p
  · obtain ⟨i, j, h1, h2, h3⟩ := z
    refine least (P := fun k => 0 < k ∧ it f k p = p) (j - i) ⟨by omega, it_cancel P hp i (j - i) ?_⟩
    rw [h3]
    congr 1
    omega
  · exfalso
    have := nodup_le n ((List.range (n + 1)).map fun k => it f k p) (range_nodup_map _ fun i j h1 h2 h3 => z ⟨i, j, h1, h2, h3⟩) fun x hx => by
      obtain ⟨k, _, rfl⟩ := List.mem_map.mp hx
      exact it_lt P hp k
    rw [List.length_map, List.length_range] at this
    omega
open Classical in
noncomputable def per (f : List Nat) (p : Nat) : Nat := if h : ∃ k, (0 < k ∧ it f k p = p) ∧ ∀ j, j < k → ¬ (0 < j ∧ it f j p = p) then h.choose else 1
section
variable {n : Nat} {f : List Nat} (P : Pm n f) {p : Nat} (hp : p < n)
include P hp
theorem per_spec : (0 < per f p ∧ it f (per f p) p = p) ∧ ∀ j, j < per f p → ¬ (0 < j ∧ it f j p = p) := by
  have h := exists_per P hp
  unfold per
  rw [dif_pos h]
  exact h.choose_spec
theorem it_ne {i j : Nat} (h1 : i < j) (h2 : j < per f p) : it f i p ≠ it f j p := fun h => by
  have := it_cancel P hp i (j - i) (by rw [h]; congr 1; omega)
  exact (per_spec P hp).2 (j - i) (by omega) ⟨by omega, this⟩
theorem per_le : per f p ≤ n := by
  have := nodup_le n ((List.range (per f p)).map fun k => it f k p) (range_nodup_map _ fun i j h1 h2 => it_ne P hp h1 h2) fun x hx => by
    obtain ⟨k, _, rfl⟩ := List.mem_map.mp hx
    exact it_lt P hp k
  simpa using this
end
/-- the ring of p, begun at p -/
noncomputable def ring (f : List Nat) (p : Nat) : List Nat := (List.range (per f p)).map fun k => it f k p
@[simp] theorem ring_length (f : List Nat) (p : Nat) : (ring f p).length = per f p := by simp [ring]
theorem ring_get {f : List Nat} {p j : Nat} (h : j < per f p) : (ring f p)[j]'(by simpa using h) = it f j p := by simp [ring]
/-- a list that f leads round -/
structure Cyc (f : List Nat) (r : List Nat) : Prop where
  ne : r ≠ []
  go : ∀ j (h : j < r.length), ap f r[j] = r[(j + 1) % r.length]'(Nat.mod_lt _ (by omega))
section
variable {n : Nat} {f : List Nat} (P : Pm n f) {p : Nat} (hp : p < n)
include P hp
theorem ring_nodup : (ring f p).Nodup := range_nodup_map _ fun i j h1 h2 => it_ne P hp h1 h2
theorem ring_lt {x : Nat} (h : x ∈ ring f p) : x < n := by
  obtain ⟨k, _, rfl⟩ := List.mem_map.mp h
  exact it_lt P hp k
theorem ring_self : p ∈ ring f p := List.mem_map.mpr ⟨0, List.mem_range.mpr (per_spec P hp).1.1, rfl⟩
theorem ring_cyc : Cyc f (ring f p) := by
  have h0 := (per_spec P hp).1
  refine ⟨List.ne_nil_of_mem (ring_self P hp), fun j h => ?_⟩
  have h' : j < per f p := by simpa using h
  rw [ring_get h']
  by_cases z : j + 1 < per f p
  · have e : (j + 1) % (ring f p).length = j + 1 := by rw [ring_length]; exact Nat.mod_eq_of_lt z
    have : (ring f p)[(j + 1) % (ring f p).length]'(Nat.mod_lt _ (by omega)) = (ring f p)[j + 1]'(by simpa using z) := by congr 1
    rw [this, ring_get z]
    rfl
  · have ez : j + 1 = per f p := by omega
    have e : (j + 1) % (ring f p).length = 0 := by rw [ring_length, ez]; exact Nat.mod_self _
    have : (ring f p)[(j + 1) % (ring f p).length]'(Nat.mod_lt _ (by omega)) = (ring f p)[0]'(by simpa using h0.1) := by congr 1
    rw [this, ring_get h0.1]
    have h3 := h0.2
    rw [← ez] at h3
    exact h3
theorem ring_step {x : Nat} (h : x ∈ ring f p) : ap f x ∈ ring f p := by
  obtain ⟨j, hj, rfl⟩ := List.getElem_of_mem h
  rw [(ring_cyc P hp).go j hj]
  exact List.getElem_mem _
theorem ring_back {x : Nat} (hx : x < n) (h : ap f x ∈ ring f p) : x ∈ ring f p := by
  obtain ⟨j, hj, e⟩ := List.getElem_of_mem h
  have h' : j < per f p := by simpa using hj
  rw [ring_get h'] at e
  have h0 := (per_spec P hp).1
  cases j with
  | zero =>
    have e2 : it f (per f p - 1 + 1) p = p := by
      rw [show per f p - 1 + 1 = per f p by omega]; exact h0.2
    have e3 : ap f (it f (per f p - 1) p) = ap f x := by
      rw [← e]; exact e2
    have := P.inj _ _ (it_lt P hp _) hx e3
    rw [← this]
    exact List.mem_map.mpr ⟨per f p - 1, List.mem_range.mpr (by omega), rfl⟩
  | succ j =>
    have := P.inj _ _ (it_lt P hp j) hx (show ap f (it f j p) = ap f x from e)
    rw [← this]
    exact List.mem_map.mpr ⟨j, List.mem_range.mpr (by omega), rfl⟩
theorem ring_one (h : ap f p = p) : ring f p = [p] := by
  have h1 := per_spec P hp
  have : per f p = 1 := by
    have := h1.1.1
    by_cases z : per f p = 1
    · exact z
    · exact absurd ⟨by omega, h⟩ (h1.2 1 (by omega))
  simp [ring, this, it]
theorem ring_big (h : ap f p ≠ p) : 1 < (ring f p).length := by
  rw [ring_length]
  have h1 := per_spec P hp
  have := h1.1.1
  by_cases z : per f p = 1
  · have e := h1.1.2
    rw [z] at e
    exact absurd e h
  · omega
end
/-- the rings of f: state of the walk over the places -/
noncomputable def stepR (f : List Nat) (s : List (List Nat) × List Nat) (p : Nat) : List (List Nat) × List Nat :=
  if p ∈ s.2 then s else (if 1 < (ring f p).length then s.1 ++ [ring f p] else s.1, s.2 ++ ring f p)
noncomputable def ringsTo (f : List Nat) (m : Nat) : List (List Nat) × List Nat := (List.range m).foldl (stepR f) ([], [])
noncomputable def rings (f : List Nat) : List (List Nat) := (ringsTo f f.length).1
theorem ringsTo_succ (f : List Nat) (m : Nat) : ringsTo f (m + 1) = stepR f (ringsTo f m) m := by
  unfold ringsTo
  rw [List.range_succ, List.foldl_append]
  rfl
structure RInv (n : Nat) (f : List Nat) (m : Nat) (s : List (List Nat) × List Nat) : Prop where
  seen : ∀ p, p < m → p ∈ s.2
  lt : ∀ p ∈ s.2, p < n
  nd : s.2.Nodup
  back : ∀ x, x < n → ap f x ∈ s.2 → x ∈ s.2
  fwd : ∀ x, x ∈ s.2 → ap f x ∈ s.2
  cyc : ∀ r ∈ s.1, Cyc f r ∧ 1 < r.length
  fnd : s.1.flatten.Nodup
  sub : ∀ x ∈ s.1.flatten, x ∈ s.2
  all : ∀ x ∈ s.2, ap f x ≠ x → x ∈ s.1.flatten
theorem it_seen {n : Nat} {f : List Nat} {s : List Nat} (P : Pm n f) (back : ∀ x, x < n → ap f x ∈ s → x ∈ s) {p : Nat} (hp : p < n) : ∀ k, it f k p ∈ s → p ∈ s
  | 0, h => h
  | k + 1, h => it_seen P back hp k (back _ (it_lt P hp k) h)
theorem rinv {n : Nat} {f : List Nat} (P : Pm n f) : ∀ m, m ≤ n → RInv n f m (ringsTo f m)
  | 0, _ => by
    have e : ringsTo f 0 = ([], []) := rfl
    rw [e]
    constructor
    · intro p h; omega
    · intro p h; cases h
    · exact List.Pairwise.nil
    · intro x _ h; cases h
    · intro x h; cases h
    · intro r h; cases h
    · exact List.Pairwise.nil
    · intro x h; cases h
    · intro x h; cases h
  | m + 1, hm => by
    have ih := rinv P m (by omega)
    rw [ringsTo_succ]
    unfold stepR
    by_cases z : m ∈ (ringsTo f m).2
    · rw [if_pos z]
      exact ⟨fun p h => by
        by_cases e : p = m
        · rw [e]; exact z
        · exact ih.seen p (by omega), ih.lt, ih.nd, ih.back, ih.fwd, ih.cyc, ih.fnd, ih.sub, ih.all⟩
    · rw [if_neg z]
      have hp : m < n := by omega
      have dis : ∀ x ∈ ring f m, x ∉ (ringsTo f m).2 := fun x hx h => by
        obtain ⟨k, _, rfl⟩ := List.mem_map.mp hx
        exact z (it_seen P ih.back hp k h)
      have nd2 : ((ringsTo f m).2 ++ ring f m).Nodup := List.nodup_append.mpr ⟨ih.nd, ring_nodup P hp, fun a ha b hb e => dis b hb (by rw [← e]; exact ha)⟩
      refine ⟨fun p h => ?_, fun p h => ?_, nd2, fun x hx h => ?_, fun x h => ?_, fun r h => ?_, ?_, fun x h => ?_, fun x h hne => ?_⟩
      · by_cases e : p = m
        · rw [e]; exact List.mem_append_right _ (ring_self P hp)
        · exact List.mem_append_left _ (ih.seen p (by omega))
      · exact (List.mem_append.mp h).elim (ih.lt p) fun h => ring_lt P hp h
      · exact (List.mem_append.mp h).elim (fun h => List.mem_append_left _ (ih.back x hx h)) fun h => List.mem_append_right _ (ring_back P hp hx h)
      · exact (List.mem_append.mp h).elim (fun h => List.mem_append_left _ (ih.fwd x h)) fun h => List.mem_append_right _ (ring_step P hp h)
      · dsimp only at h
        split at h
        · rename_i big
          rcases List.mem_append.mp h with h | h
          · exact ih.cyc r h
          · rw [List.mem_singleton] at h
            rw [h]
            exact ⟨ring_cyc P hp, big⟩
        · exact ih.cyc r h
      · dsimp only
        split
        · rw [List.flatten_append, List.flatten_singleton]
          exact List.nodup_append.mpr ⟨ih.fnd, ring_nodup P hp, fun a ha b hb e => dis b hb (by rw [← e]; exact ih.sub a ha)⟩
        · exact ih.fnd
      · dsimp only at h
        split at h
        · rw [List.flatten_append, List.flatten_singleton] at h
          exact (List.mem_append.mp h).elim (fun h => List.mem_append_left _ (ih.sub x h)) fun h => List.mem_append_right _ h
        · exact List.mem_append_left _ (ih.sub x h)
      · dsimp only
        rcases List.mem_append.mp h with h | h
        · have := ih.all x h hne
          split
          · rw [List.flatten_append]; exact List.mem_append_left _ this
          · exact this
        · have big : 1 < (ring f m).length := by
            by_cases e : ap f m = m
            · rw [ring_one P hp e, List.mem_singleton] at h
              rw [h] at hne
              exact absurd e hne
            · exact ring_big P hp e
          rw [if_pos big, List.flatten_append, List.flatten_singleton]
          exact List.mem_append_right _ h
theorem rings_cyc {n : Nat} {f : List Nat} (P : Pm n f) {r : List Nat} (h : r ∈ rings f) : Cyc f r ∧ 1 < r.length := (rinv P n (Nat.le_refl n)).cyc r (by unfold rings at h; rw [P.len] at h; exact h)
theorem rings_nodup {n : Nat} {f : List Nat} (P : Pm n f) : (rings f).flatten.Nodup := by
  have := (rinv P n (Nat.le_refl n)).fnd
  unfold rings
  rw [P.len]
  exact this
theorem rings_lt {n : Nat} {f : List Nat} (P : Pm n f) {x : Nat} (h : x ∈ (rings f).flatten) : x < n := by
  unfold rings at h
  rw [P.len] at h
  exact (rinv P n (Nat.le_refl n)).lt x ((rinv P n (Nat.le_refl n)).sub x h)
theorem rings_all {n : Nat} {f : List Nat} (P : Pm n f) {x : Nat} (hx : x < n) (h : ap f x ≠ x) : x ∈ (rings f).flatten := by
  unfold rings
  rw [P.len]
  exact (rinv P n (Nat.le_refl n)).all x ((rinv P n (Nat.le_refl n)).seen x hx) h
end PM
set_option Elab.async false
set_option linter.all false
/-! Permutations one behind another, back, many times: plain mathematics. -/
namespace PM
def comp (f g : List Nat) : List Nat := f.map (ap g)
noncomputable def pre (f : List Nat) (i : Nat) : Nat := it f (per f i - 1) i
noncomputable def inv (f : List Nat) : List Nat := (List.range f.length).map (pre f)
section
variable {n : Nat} {f g : List Nat} (P : Pm n f) (G : Pm n g)
include P
theorem pre_lt {i : Nat} (h : i < n) : pre f i < n := it_lt P h _
theorem ap_pre {i : Nat} (h : i < n) : ap f (pre f i) = i := by
  have h1 := per_spec P h
  have e : per f i - 1 + 1 = per f i := by have := h1.1.1; omega
  have : it f (per f i - 1 + 1) i = i := by rw [e]; exact h1.1.2
  exact this
theorem pre_ap {i : Nat} (h : i < n) : pre f (ap f i) = i := P.inj _ _ (pre_lt P (P.lt i h)) h (ap_pre P (P.lt i h))
theorem inv_length : (inv f).length = n := by simp [inv, P.len]
theorem ap_inv {i : Nat} (h : i < n) : ap (inv f) i = pre f i := by
  rw [ap_get (by rw [inv_length P]; exact h)]
  simp [inv]
theorem inv_pm : Pm n (inv f) := ⟨inv_length P, fun i h => by rw [ap_inv P h]; exact pre_lt P h, fun i j hi hj e => by
  rw [ap_inv P hi, ap_inv P hj] at e
  have := congrArg (ap f) e
  rwa [ap_pre P hi, ap_pre P hj] at this⟩
theorem comp_length : (comp f g).length = n := by simp [comp, P.len]
theorem ap_comp {i : Nat} (h : i < n) : ap (comp f g) i = ap g (ap f i) := by
  have hl := P.len
  rw [ap_get (by rw [comp_length P]; exact h)]
  simp [comp, ap_get (show i < f.length by omega)]
include G
theorem comp_pm : Pm n (comp f g) := ⟨comp_length P, fun i h => by rw [ap_comp P h]; exact G.lt _ (P.lt _ h), fun i j hi hj e => by
  rw [ap_comp P hi, ap_comp P hj] at e
  exact P.inj _ _ hi hj (G.inj _ _ (P.lt _ hi) (P.lt _ hj) e)⟩
end
theorem ext_pm {n : Nat} {f g : List Nat} (hf : f.length = n) (hg : g.length = n) (h : ∀ i, i < n → ap f i = ap g i) : f = g := by
  refine List.ext_getElem (by omega) fun i h1 h2 => ?_
  have := h i (by omega)
  rwa [ap_get h1, ap_get h2] at this
theorem idl_pm (n : Nat) : Pm n (List.range n) := by
  have e : ∀ i, i < n → ap (List.range n) i = i := fun i h => by rw [ap_get (by simpa using h)]; simp
  exact ⟨by simp, fun i h => by rw [e i h]; exact h, fun i j hi hj z => by rwa [e i hi, e j hj] at z⟩
theorem ap_idl {n i : Nat} (h : i < n) : ap (List.range n) i = i := by rw [ap_get (by simpa using h)]; simp
/-- the list of m times f -/
def pow (f : List Nat) (m : Nat) : List Nat := (List.range f.length).map fun i => it f m i
noncomputable def powZ (f : List Nat) (k : Int) : List Nat := if 0 ≤ k then pow f k.toNat else pow (inv f) (-k).toNat
section
variable {n : Nat} {f : List Nat} (P : Pm n f)
include P
theorem pow_length (m : Nat) : (pow f m).length = n := by simp [pow, P.len]
theorem ap_pow {m i : Nat} (h : i < n) : ap (pow f m) i = it f m i := by
  rw [ap_get (by rw [pow_length P]; exact h)]
  simp [pow]
theorem pow_zero : pow f 0 = List.range n := by simp [pow, it, P.len]
theorem pow_one : pow f 1 = f := ext_pm (pow_length P 1) P.len fun i h => by rw [ap_pow P h]; rfl
theorem pow_succ (m : Nat) : pow f (m + 1) = comp (pow f m) f := by
  refine ext_pm (pow_length P _) (by rw [comp, List.length_map]; exact pow_length P m) fun i h => ?_
  have hp : (pow f m).length = n := pow_length P m
  rw [ap_pow P h, comp, ap_get (by rw [List.length_map, hp]; exact h), List.getElem_map]
  have e : (pow f m)[i]'(by rw [hp]; exact h) = it f m i := by rw [← ap_get (by rw [hp]; exact h)]; exact ap_pow P h
  rw [e]
  rfl
theorem pow_pm : ∀ m, Pm n (pow f m)
  | 0 => by rw [pow_zero P]; exact idl_pm n
  | m + 1 => by rw [pow_succ P]; exact comp_pm (pow_pm m) P
theorem powZ_pm (k : Int) : Pm n (powZ f k) := by
  unfold powZ
  split
  · exact pow_pm P _
  · exact pow_pm (inv_pm P) _
end
/-! ### along a ring -/
theorem cyc_it {f r : List Nat} (C : Cyc f r) {j : Nat} (h : j < r.length) : ∀ m, it f m r[j] = r[(j + m) % r.length]'(Nat.mod_lt _ (by omega))
  | 0 => by
    have : (j + 0) % r.length = j := Nat.mod_eq_of_lt (by omega)
    simp only [this]
    rfl
  | m + 1 => by
    show ap f (it f m r[j]) = _
    rw [cyc_it C h m, C.go _ (Nat.mod_lt _ (by omega))]
    congr 1
    rw [Nat.mod_add_mod, Nat.add_assoc]
theorem cyc_pre {n : Nat} {f r : List Nat} (P : Pm n f) (C : Cyc f r) (hr : ∀ x ∈ r, x < n) {j : Nat} (h : j < r.length) : ap (inv f) r[j] = r[(j + (r.length - 1)) % r.length]'(Nat.mod_lt _ (by omega)) := by
  have hj := hr _ (List.getElem_mem h)
  rw [ap_inv P hj]
  have hm : (j + (r.length - 1)) % r.length < r.length := Nat.mod_lt _ (by omega)
  have e := C.go _ hm
  have e2 : ((j + (r.length - 1)) % r.length + 1) % r.length = j := by
    rw [Nat.mod_add_mod, show j + (r.length - 1) + 1 = j + r.length by omega, Nat.add_mod_right]
    exact Nat.mod_eq_of_lt h
  simp only [e2] at e
  rw [← e]
  exact pre_ap P (hr _ (List.getElem_mem hm))
theorem cyc_itinv {n : Nat} {f r : List Nat} (P : Pm n f) (C : Cyc f r) (hr : ∀ x ∈ r, x < n) {j : Nat} (h : j < r.length) : ∀ m, it (inv f) m r[j] = r[(j + m * (r.length - 1)) % r.length]'(Nat.mod_lt _ (by omega))
  | 0 => by
    have : (j + 0 * (r.length - 1)) % r.length = j := by rw [Nat.zero_mul]; exact Nat.mod_eq_of_lt (by omega)
    simp only [this]
    rfl
  | m + 1 => by
    show ap (inv f) (it (inv f) m r[j]) = _
    rw [cyc_itinv P C hr h m, cyc_pre P C hr (Nat.mod_lt _ (by omega))]
    congr 1
    rw [Nat.mod_add_mod, Nat.add_mul, Nat.one_mul, Nat.add_assoc]
/-- r[(j + k) % len(r)] is k times from r[j] -/
theorem cyc_powZ {n : Nat} {f r : List Nat} (P : Pm n f) (C : Cyc f r) (hr : ∀ x ∈ r, x < n) {j : Nat} (h : j < r.length) (k : Int) : ∃ q : Nat, ((j : Int) + k).fmod (r.length : Int) = (q : Int) ∧ ∃ hq : q < r.length, r[q] = ap (powZ f k) r[j] := by
  have hj := hr _ (List.getElem_mem h)
  have hl : 0 < r.length := by omega
  by_cases hk : 0 ≤ k
  · refine ⟨(j + k.toNat) % r.length, ?_, Nat.mod_lt _ hl, ?_⟩
    · have e : (j : Int) + k = ((j + k.toNat : Nat) : Int) := by omega
      rw [e, Int.fmod_eq_emod_of_nonneg _ (by omega)]
      rfl
    · unfold powZ
      rw [if_pos hk, ap_pow P hj, cyc_it C h]
  · refine ⟨(j + (-k).toNat * (r.length - 1)) % r.length, ?_, Nat.mod_lt _ hl, ?_⟩
    · obtain ⟨m, hm⟩ : ∃ m : Nat, k = -(m : Int) := ⟨(-k).toNat, by omega⟩
      subst hm
      have e0 : (- -(m : Int)).toNat = m := by omega
      rw [e0]
      rw [Int.fmod_eq_emod_of_nonneg _ (by omega)]
      have e1 : (j : Int) + -(m : Int) = ((j + m * (r.length - 1) : Nat) : Int) + (r.length : Int) * (-(m : Int)) := by
        have e2 : ((m * (r.length - 1) : Nat) : Int) = (m : Int) * ((r.length : Int) - 1) := by
          rw [Int.natCast_mul]
          congr 1
          omega
        rw [Int.natCast_add, e2, Int.mul_sub, Int.mul_neg, Int.mul_comm (r.length : Int) (m : Int)]
        omega
      rw [e1, Int.add_mul_emod_self_left]
      rfl
    · unfold powZ
      rw [if_neg hk, ap_pow (inv_pm P) hj, cyc_itinv P C hr h]
theorem fix_it {f : List Nat} {x : Nat} (h : ap f x = x) : ∀ m, it f m x = x
  | 0 => rfl
  | m + 1 => by
    show ap f (it f m x) = x
    rw [fix_it h m, h]
theorem fix_powZ {n : Nat} {f : List Nat} (P : Pm n f) {x : Nat} (hx : x < n) (h : ap f x = x) (k : Int) : ap (powZ f k) x = x := by
  unfold powZ
  split
  · rw [ap_pow P hx]; exact fix_it h _
  · rw [ap_pow (inv_pm P) hx]
    refine fix_it ?_ _
    rw [ap_inv P hx]
    have := pre_ap P hx
    rwa [h] at this
end PM
set_option linter.all false
/-! Polynomials as lists of whole numbers: coefficients, trimming, sums, products, divisors, the law of Gauss. -/
namespace PQ
def cf (p : List Int) (i : Nat) : Int := p.getD i 0
def evP (n : Int) : List Int → Int
  | [] => 0
  | a :: p => a + n * evP n p
def tr : List Int → List Int
  | [] => []
  | a :: p => if tr p = [] then (if a = 0 then [] else [a]) else a :: tr p
def Tr (p : List Int) : Prop := ∀ h : p ≠ [], p.getLast h ≠ 0
/-- the coefficients of g * h -/
def M (g : List Int) : List Int → Nat → Int
  | [], _ => 0
  | c :: h, 0 => c * cf g 0
  | c :: h, j + 1 => c * cf g (j + 1) + M g h j
@[simp] theorem cf_nil (i : Nat) : cf [] i = 0 := by simp [cf]
@[simp] theorem cf_zero (a : Int) (p : List Int) : cf (a :: p) 0 = a := by simp [cf]
@[simp] theorem cf_succ (a : Int) (p : List Int) (i : Nat) : cf (a :: p) (i + 1) = cf p i := by simp [cf]
theorem cf_get {p : List Int} {i : Nat} (h : i < p.length) : cf p i = p[i] := by simp [cf, h]
theorem cf_out {p : List Int} {i : Nat} (h : p.length ≤ i) : cf p i = 0 := by simp [cf, h]
theorem cf_mem {p : List Int} {i : Nat} (h : cf p i ≠ 0) : cf p i ∈ p := by
  by_cases hi : i < p.length
  · rw [cf_get hi]; exact List.getElem_mem hi
  · exact absurd (cf_out (by omega)) h
theorem ev_zero {n : Int} : ∀ {p : List Int}, (∀ i, cf p i = 0) → evP n p = 0
  | [], _ => rfl
  | a :: p, h => by
    have h0 := h 0
    have h1 : ∀ i, cf p i = 0 := fun i => by simpa using h (i + 1)
    simp only [cf_zero] at h0
    simp [evP, h0, ev_zero h1]
theorem ev_congr {n : Int} : ∀ {p q : List Int}, (∀ i, cf p i = cf q i) → evP n p = evP n q
  | [], q, h => by rw [ev_zero (p := q) fun i => by rw [← h i]; simp]; rfl
  | a :: p, [], h => by rw [ev_zero (p := a :: p) fun i => by rw [h i]; simp]; rfl
  | a :: p, b :: q, h => by
    have h0 := h 0
    simp only [cf_zero] at h0
    simp only [evP, h0, ev_congr (n := n) (p := p) (q := q) fun i => by simpa using h (i + 1)]
/-! ### trimming -/
theorem cf_tr : ∀ (p : List Int) (i : Nat), cf (tr p) i = cf p i
  | [], i => rfl
  | a :: p, i => by
    unfold tr
    by_cases h : tr p = []
    · rw [if_pos h]
      have hz : ∀ j, cf p j = 0 := fun j => by rw [← cf_tr p j, h]; simp
      by_cases ha : a = 0
      · rw [if_pos ha, ha]; cases i <;> simp [hz]
      · rw [if_neg ha]; cases i <;> simp [hz]
    · rw [if_neg h]
      cases i with
      | zero => simp
      | succ i => simp [cf_tr p i]
theorem Tr.cons {a : Int} {p : List Int} (h : Tr p) (hp : p ≠ []) : Tr (a :: p) := fun _ => by rw [List.getLast_cons hp]; exact h hp
theorem Tr.tail {a : Int} {p : List Int} (h : Tr (a :: p)) : Tr p := fun hp => by have := h (by simp); rwa [List.getLast_cons hp] at this
theorem tr_Tr : ∀ p : List Int, Tr (tr p)
  | [] => fun h => absurd rfl h
  | a :: p => by
    unfold tr
    by_cases h : tr p = []
    · rw [if_pos h]
      by_cases ha : a = 0
      · rw [if_pos ha]; exact fun h => absurd rfl h
      · rw [if_neg ha]; exact fun _ => by simpa using ha
    · rw [if_neg h]
      exact (tr_Tr p).cons h
theorem tr_mem {c : Int} : ∀ {p : List Int}, c ∈ tr p → c ∈ p
  | [], h => h
  | a :: p, h => by
    unfold tr at h
    split at h
    · split at h
      · simp at h
      · simp only [List.mem_singleton] at h; rw [h]; exact .head _
    · cases h with
      | head => exact .head _
      | tail _ h => exact .tail _ (tr_mem h)
theorem tr_len : ∀ p : List Int, (tr p).length ≤ p.length
  | [] => Nat.le_refl _
  | a :: p => by
    have := tr_len p
    unfold tr
    split
    · split <;> simp
    · simpa using this
theorem Tr.nil_of {p : List Int} (h : Tr p) (z : ∀ i, cf p i = 0) : p = [] := by
  by_cases hp : p = []
  · exact hp
  · have h1 := h hp
    have hl : 0 < p.length := List.length_pos_iff.mpr hp
    rw [List.getLast_eq_getElem, ← cf_get (by omega)] at h1
    exact absurd (z _) h1
theorem Tr_ext : ∀ {p q : List Int}, Tr p → Tr q → (∀ i, cf p i = cf q i) → p = q
  | [], q, _, hq, h => (hq.nil_of fun i => by rw [← h i]; simp).symm
  | a :: p, [], hp, _, h => hp.nil_of fun i => by rw [h i]; simp
  | a :: p, b :: q, hp, hq, h => by
    have h0 := h 0
    simp only [cf_zero] at h0
    rw [h0, Tr_ext hp.tail hq.tail fun i => by simpa using h (i + 1)]
theorem tr_id {p : List Int} (h : Tr p) : tr p = p := Tr_ext (tr_Tr p) h (cf_tr p)
theorem tr_congr {p q : List Int} (h : ∀ i, cf p i = cf q i) : tr p = tr q := Tr_ext (tr_Tr p) (tr_Tr q) fun i => by rw [cf_tr, cf_tr, h]
theorem cf_append (p q : List Int) (i : Nat) : cf (p ++ q) i = if i < p.length then cf p i else cf q (i - p.length) := by
  unfold cf
  simp only [List.getD_eq_getElem?_getD]
  by_cases h : i < p.length
  · rw [if_pos h, List.getElem?_append_left h]
  · rw [if_neg h, List.getElem?_append_right (by omega)]
theorem tr_snoc0 (p : List Int) : tr (p ++ [0]) = tr p := tr_congr fun i => by
  rw [cf_append]
  split
  · rfl
  · rename_i h
    rw [cf_out (p := p) (by omega)]
    cases hi : i - p.length <;> simp
theorem cf_ge_of {p : List Int} {m : Nat} (h : ∀ i, m ≤ i → cf p i = 0) : (tr p).length ≤ m := by
  by_cases hp : tr p = []
  · rw [hp]; exact Nat.zero_le _
  · have h1 := tr_Tr p hp
    have hl : 0 < (tr p).length := List.length_pos_iff.mpr hp
    rw [List.getLast_eq_getElem, ← cf_get (by omega), cf_tr] at h1
    apply Decidable.byContradiction
    intro hc
    exact h1 (h _ (by omega))
theorem Tr.last_cf {p : List Int} (h : Tr p) (hp : p ≠ []) : cf p (p.length - 1) ≠ 0 := by
  have hl : 0 < p.length := List.length_pos_iff.mpr hp
  rw [cf_get (by omega), ← List.getLast_eq_getElem hp]
  exact h hp
theorem cf_range (f : Nat → Int) (m i : Nat) : cf ((List.range m).map f) i = if i < m then f i else 0 := by
  by_cases h : i < m
  · rw [if_pos h, cf_get (by simpa using h)]; simp
  · rw [if_neg h, cf_out (by simp; omega)]
/-! ### sums and products -/
def addP (p q : List Int) : List Int := tr ((List.range (max p.length q.length)).map fun i => cf p i + cf q i)
theorem cf_addP (p q : List Int) (i : Nat) : cf (addP p q) i = cf p i + cf q i := by
  unfold addP
  rw [cf_tr, cf_range]
  split
  · rfl
  · rw [cf_out (p := p) (by omega), cf_out (p := q) (by omega)]; rfl
def negP (p : List Int) : List Int := p.map fun a => -a
theorem cf_negP : ∀ (p : List Int) (i : Nat), cf (negP p) i = - cf p i
  | [], i => by simp [negP]
  | a :: p, 0 => by simp [negP]
  | a :: p, i + 1 => by simpa [negP] using cf_negP p i
theorem cf_map0 (f : Int → Int) (h0 : f 0 = 0) : ∀ (p : List Int) (i : Nat), cf (p.map f) i = f (cf p i)
  | [], i => by simp [h0]
  | a :: p, 0 => by simp
  | a :: p, i + 1 => by simpa using cf_map0 f h0 p i
theorem M_single (c : Int) : ∀ (p : List Int) (k : Nat), M [c] p k = cf p k * c
  | [], k => by simp [M]
  | a :: p, 0 => by simp [M]
  | a :: p, k + 1 => by simp [M, M_single c p k]
def sumAt (q p : List Int) (k : Nat) : Int := (((List.range p.length).filter fun j => decide (j ≤ k)).map fun j => cf p j * cf q (k - j)).sum
theorem sumAt_eq (q : List Int) : ∀ (p : List Int) (k : Nat), sumAt q p k = M q p k
  | [], k => by simp [sumAt, M]
  | a :: p, k => by
    unfold sumAt
    rw [List.length_cons, List.range_succ_eq_map, List.filter_cons_of_pos (by simp), List.map_cons, List.sum_cons, List.filter_map, List.map_map]
    cases k with
    | zero =>
      have : ((List.range p.length).filter ((fun j => decide (j ≤ 0)) ∘ Nat.succ)) = [] := by simp
      rw [this]
      simp [M]
    | succ k =>
      have e : ((fun j => decide (j ≤ k + 1)) ∘ Nat.succ) = fun j => decide (j ≤ k) := by
        funext j
        simp
      rw [e]
      have e2 : ((fun j => cf (a :: p) j * cf q (k + 1 - j)) ∘ Nat.succ) = fun j => cf p j * cf q (k - j) := by
        funext j
        simp [Nat.succ_eq_add_one]
      rw [e2]
      have := sumAt_eq q p k
      unfold sumAt at this
      rw [this]
      simp [M]
theorem M_out (g : List Int) : ∀ (h : List Int) (i : Nat), g.length + h.length ≤ i + 1 → M g h i = 0
  | [], i, _ => rfl
  | c :: h, 0, hi => by
    simp only [List.length_cons] at hi
    simp [M, cf_out (p := g) (i := 0) (by omega)]
  | c :: h, i + 1, hi => by
    simp only [List.length_cons] at hi
    simp only [M, M_out g h i (by omega)]
    rw [cf_out (by omega)]
    simp
def mulP (p q : List Int) : List Int := tr ((List.range (p.length + q.length)).map fun k => sumAt q p k)
theorem cf_mulP (p q : List Int) (k : Nat) : cf (mulP p q) k = M q p k := by
  unfold mulP
  rw [cf_tr, cf_range]
  split
  · exact sumAt_eq q p k
  · exact (M_out q p k (by omega)).symm
theorem M_sum (g : List Int) : ∀ (h : List Int) (i : Nat), M g h i = ((List.range (i + 1)).map fun j => cf h j * cf g (i - j)).sum
  | [], i => by
    have : ∀ l : List Nat, (l.map fun j => cf [] j * cf g (i - j)).sum = 0 := fun l => by
      induction l with
      | nil => rfl
      | cons a l ih => rw [List.map_cons, List.sum_cons, ih]; simp
    rw [this]
    rfl
  | c :: h, 0 => by simp [M]
  | c :: h, i + 1 => by
    rw [List.range_succ_eq_map, List.map_cons, List.sum_cons, List.map_map]
    have e : ((fun j => cf (c :: h) j * cf g (i + 1 - j)) ∘ Nat.succ) = fun j => cf h j * cf g (i - j) := by
      funext j
      simp [Nat.succ_eq_add_one]
    rw [e, ← M_sum g h i]
    simp [M]
theorem sum_add {α : Type} (f g : α → Int) : ∀ l : List α, (l.map fun j => f j + g j).sum = (l.map f).sum + (l.map g).sum
  | [] => rfl
  | a :: l => by simp only [List.map_cons, List.sum_cons, sum_add f g l]; omega
theorem sum_mul {α : Type} (c : Int) (f : α → Int) : ∀ l : List α, (l.map fun j => c * f j).sum = c * (l.map f).sum
  | [] => by simp
  | a :: l => by simp only [List.map_cons, List.sum_cons, sum_mul c f l, Int.mul_add]
theorem M_congr (g : List Int) {h k : List Int} (e : ∀ i, cf h i = cf k i) (i : Nat) : M g h i = M g k i := by
  rw [M_sum, M_sum]
  simp only [e]
theorem M_add (g : List Int) {h k r : List Int} (e : ∀ i, cf r i = cf h i + cf k i) (i : Nat) : M g r i = M g h i + M g k i := by
  rw [M_sum, M_sum, M_sum, ← sum_add]
  simp only [e, Int.add_mul]
theorem M_smul (g : List Int) {h r : List Int} (c : Int) (e : ∀ i, cf r i = c * cf h i) (i : Nat) : M g r i = c * M g h i := by
  rw [M_sum, M_sum, ← sum_mul]
  simp only [e, Int.mul_assoc]
/-! ### shifts -/
def sh (s : Nat) (p : List Int) : List Int := List.replicate s 0 ++ p
theorem cf_sh (s : Nat) (p : List Int) (i : Nat) : cf (sh s p) i = if i < s then 0 else cf p (i - s) := by
  unfold sh
  rw [cf_append, List.length_replicate]
  by_cases h : i < s
  · rw [if_pos h, if_pos h, cf_get (by simpa using h)]; simp
  · rw [if_neg h, if_neg h]
theorem sh_succ (s : Nat) (p : List Int) : sh (s + 1) p = 0 :: sh s p := by simp [sh, List.replicate_succ]
theorem M_sh (g : List Int) : ∀ (s : Nat) (h : List Int) (i : Nat), M g (sh s h) i = if i < s then 0 else M g h (i - s)
  | 0, h, i => by simp [sh]
  | s + 1, h, 0 => by rw [sh_succ]; simp [M]
  | s + 1, h, i + 1 => by
    rw [sh_succ]
    simp only [M, M_sh g s h i, Int.zero_mul, Int.zero_add, Nat.succ_lt_succ_iff, Nat.add_lt_add_iff_right, Nat.add_sub_add_right]
/-! ### divisors -/
def Dv (g p : List Int) : Prop := ∃ h, ∀ i, cf p i = M g h i
theorem Dv.congr {g p q : List Int} (h : Dv g p) (e : ∀ i, cf q i = cf p i) : Dv g q := let ⟨k, hk⟩ := h; ⟨k, fun i => by rw [e, hk]⟩
theorem Dv.nil {g p : List Int} (e : ∀ i, cf p i = 0) : Dv g p := ⟨[], fun i => e i⟩
theorem M_one (g : List Int) : ∀ i, M g [1] i = cf g i
  | 0 => by simp [M]
  | i + 1 => by simp [M]
theorem Dv.self (g : List Int) : Dv g g := ⟨[1], fun i => (M_one g i).symm⟩
theorem Dv.smul {g p q : List Int} (c : Int) (h : Dv g p) (e : ∀ i, cf q i = c * cf p i) : Dv g q := by
  obtain ⟨k, hk⟩ := h
  exact ⟨k.map fun a => c * a, fun i => by rw [e, hk, M_smul g c (cf_map0 (fun a => c * a) (by simp) k)]⟩
theorem Dv.add {g p q r : List Int} (h : Dv g p) (h' : Dv g q) (e : ∀ i, cf r i = cf p i + cf q i) : Dv g r := by
  obtain ⟨k, hk⟩ := h
  obtain ⟨k', hk'⟩ := h'
  exact ⟨addP k k', fun i => by rw [e, hk, hk', M_add g (cf_addP k k')]⟩
theorem Dv.sh {g p : List Int} (s : Nat) (h : Dv g p) : Dv g (sh s p) := by
  obtain ⟨k, hk⟩ := h
  exact ⟨PQ.sh s k, fun i => by
    rw [cf_sh, M_sh]
    split
    · rfl
    · exact hk _⟩
/-! ### Gauss -/
theorem natCast_dvd {n : Nat} {a : Int} (h : n ∣ a.natAbs) : (n : Int) ∣ a := Int.dvd_natAbs.mp (Int.natCast_dvd_natCast.mpr h)
def Pr (p : Int) : Prop := 1 < p.natAbs ∧ ∀ a b : Int, p ∣ a * b → p ∣ a ∨ p ∣ b
/-- only units divide all coefficients -/
def Prim (g : List Int) : Prop := ∀ d : Int, (∀ i, d ∣ cf g i) → d.natAbs = 1
theorem M_dvd {p : Int} {g : List Int} {m : Nat} (hg : ∀ j, j ≤ m → p ∣ cf g j) : ∀ (h : List Int) (i : Nat), i ≤ m → p ∣ M g h i
  | [], i, _ => Int.dvd_zero p
  | c :: h, 0, _ => Int.dvd_trans (hg 0 (Nat.zero_le _)) (Int.dvd_mul_left _ _)
  | c :: h, i + 1, hi => Int.dvd_add (Int.dvd_trans (hg (i + 1) hi) (Int.dvd_mul_left _ _)) (M_dvd hg h i (by omega))
theorem first_not {P : Nat → Prop} : ∀ (n : Nat), ¬ P n → ∃ m, ¬ P m ∧ ∀ j, j < m → P j := fun n => by
  induction n using Nat.strongRecOn with
  | _ n ih =>
    intro h
    by_cases z : ∃ j, j < n ∧ ¬ P j
    · obtain ⟨j, hj, hp⟩ := z
      exact ih j hj hp
    · exact ⟨n, h, fun j hj => Classical.byContradiction fun hp => z ⟨j, hj, hp⟩⟩
theorem gauss_prime {p : Int} (hp : Pr p) {g : List Int} {n : Nat} (hn : ¬ p ∣ cf g n) : ∀ (h : List Int), (∀ i, p ∣ M g h i) → ∀ i, p ∣ cf h i
  | [], _, i => by simp
  | c :: h, hd, i => by
    obtain ⟨m, hm, hj⟩ := first_not (P := fun j => p ∣ cf g j) n hn
    have hc : p ∣ c := by
      have h1 := hd m
      cases m with
      | zero =>
        exact (hp.2 c (cf g 0) h1).resolve_right hm
      | succ m =>
        have h2 : p ∣ M g h m := M_dvd (fun j hj' => hj j (by omega)) h m (Nat.le_refl _)
        have h3 : p ∣ c * cf g (m + 1) := by
          have e : c * cf g (m + 1) = M g (c :: h) (m + 1) - M g h m := by simp only [M]; omega
          rw [e]
          exact Int.dvd_sub h1 h2
        exact (hp.2 c _ h3).resolve_right hm
    cases i with
    | zero => simpa using hc
    | succ i =>
      rw [cf_succ]
      refine gauss_prime hp hn h (fun j => ?_) i
      have h1 := hd (j + 1)
      have e : M g h j = M g (c :: h) (j + 1) - c * cf g (j + 1) := by simp only [M]; omega
      rw [e]
      exact Int.dvd_sub h1 (Int.dvd_trans hc (Int.dvd_mul_right _ _))
theorem prime_of {n : Nat} (hn : 1 < n) : ∃ p : Nat, p ∣ n ∧ Pr (p : Int) := by
  obtain ⟨p, hp, hm⟩ := first_not (P := fun d => ¬ (1 < d ∧ d ∣ n)) n (fun z => z ⟨hn, Nat.dvd_refl n⟩)
  have hp' : 1 < p ∧ p ∣ n := Classical.byContradiction hp
  refine ⟨p, hp'.2, by simpa using hp'.1, fun a b hab => ?_⟩
  have hab' : p ∣ a.natAbs * b.natAbs := by
    have := Int.natAbs_dvd_natAbs.mpr hab
    rwa [Int.natAbs_mul, Int.natAbs_natCast] at this
  have hg : Nat.gcd p a.natAbs ∣ p := Nat.gcd_dvd_left _ _
  by_cases h1 : Nat.gcd p a.natAbs = 1
  · right
    exact natCast_dvd (Nat.Coprime.dvd_of_dvd_mul_left h1 hab')
  · left
    have hpos : 0 < Nat.gcd p a.natAbs := Nat.gcd_pos_of_pos_left _ (by omega)
    have hle : Nat.gcd p a.natAbs ≤ p := Nat.le_of_dvd (by omega) hg
    have heq : Nat.gcd p a.natAbs = p := by
      apply Decidable.byContradiction
      intro hne
      exact hm _ (by omega) ⟨by omega, Nat.dvd_trans hg hp'.2⟩
    have : p ∣ a.natAbs := by
      have := Nat.gcd_dvd_right p a.natAbs
      rwa [heq] at this
    exact natCast_dvd this
theorem gauss {g : List Int} (hg : Prim g) : ∀ (n : Nat) (a : Int), a.natAbs = n → a ≠ 0 → ∀ (h : List Int), (∀ i, a ∣ M g h i) → ∀ i, a ∣ cf h i := by
  intro n
  induction n using Nat.strongRecOn with
  | _ n ih =>
    intro a ha h0 h hd i
    by_cases h1 : n = 1
    · exact Int.dvd_trans (Int.natAbs_dvd.mp (by rw [ha, h1]; exact ⟨1, rfl⟩ : (a.natAbs : Int) ∣ 1)) ⟨cf h i, by simp⟩
    · have hn : 1 < n := by omega
      obtain ⟨p, hpn, hp⟩ := prime_of hn
      have hp1 : 1 < p := by have := hp.1; simpa using this
      obtain ⟨m, hm⟩ : ∃ m, ¬ (p : Int) ∣ cf g m := Classical.byContradiction fun z => by
        have := hg p fun i => Classical.byContradiction fun y => z ⟨i, y⟩
        simp only [Int.natAbs_natCast] at this
        omega
      have hpa : (p : Int) ∣ a := natCast_dvd (by rw [ha]; exact hpn)
      obtain ⟨b, hb⟩ := hpa
      have hph := gauss_prime hp hm h fun i => Int.dvd_trans ⟨b, hb⟩ (hd i)
      have hb0 : b ≠ 0 := fun z => h0 (by rw [hb, z]; simp)
      have hbn : b.natAbs < n := by
        have : n = p * b.natAbs := by rw [← ha, hb, Int.natAbs_mul, Int.natAbs_natCast]
        have hbp : 0 < b.natAbs := Int.natAbs_pos.mpr hb0
        rw [this]
        have : 2 * b.natAbs ≤ p * b.natAbs := Nat.mul_le_mul_right _ (by omega)
        omega
      have e : ∀ i, cf h i = p * cf (h.map fun c => c / p) i := fun i => by
        rw [cf_map0 (fun c => c / (p : Int)) (by simp)]
        exact (Int.mul_ediv_cancel' (hph i)).symm
      have hM : ∀ i, M g h i = p * M g (h.map fun c => c / p) i := fun i => M_smul g p e i
      have := ih b.natAbs hbn b rfl hb0 (h.map fun c => c / p) (fun j => by
        have h2 := hd j
        rw [hM, hb] at h2
        exact Int.dvd_of_mul_dvd_mul_left (by omega) h2) i
      rw [e, hb]
      exact Int.mul_dvd_mul_left _ this
theorem Dv.cancel {g p q : List Int} (hg : Prim g) {a : Int} (ha : a ≠ 0) (h : Dv g q) (e : ∀ i, cf q i = a * cf p i) : Dv g p := by
  obtain ⟨k, hk⟩ := h
  have hd := gauss hg _ a rfl ha k fun i => by rw [← hk, e]; exact Int.dvd_mul_right _ _
  refine ⟨k.map fun c => c / a, fun i => ?_⟩
  have e2 : ∀ i, cf k i = a * cf (k.map fun c => c / a) i := fun i => by
    rw [cf_map0 (fun c => c / a) (by simp)]
    exact (Int.mul_ediv_cancel' (hd i)).symm
  have h1 := hk i
  rw [M_smul g a e2, e] at h1
  exact Int.eq_of_mul_eq_mul_left ha h1
end PQ
set_option linter.all false
namespace PQ
/-! ### values -/
theorem ev_sum (n : Int) : ∀ (p : List Int) (N : Nat), p.length ≤ N → evP n p = ((List.range N).map fun i => cf p i * n ^ i).sum
  | [], N, _ => by
    have : ∀ l : List Nat, (l.map fun i => cf [] i * n ^ i).sum = 0 := fun l => by
      induction l with
      | nil => rfl
      | cons a l ih => rw [List.map_cons, List.sum_cons, ih]; simp
    rw [this]; rfl
  | a :: p, 0, h => by simp at h
  | a :: p, N + 1, h => by
    rw [List.range_succ_eq_map, List.map_cons, List.sum_cons, List.map_map]
    have e : ((fun i => cf (a :: p) i * n ^ i) ∘ Nat.succ) = fun i => n * (cf p i * n ^ i) := by
      funext i
      simp only [Function.comp_apply, Nat.succ_eq_add_one, cf_succ, Int.pow_succ]
      rw [Int.mul_comm (n ^ i) n, Int.mul_left_comm]
    rw [e, sum_mul, ← ev_sum n p N (by simpa using h)]
    simp [evP]
theorem ev_add {n : Int} {p q r : List Int} (e : ∀ i, cf r i = cf p i + cf q i) : evP n r = evP n p + evP n q := by
  have h1 := ev_sum n p (p.length + q.length + r.length) (by omega)
  have h2 := ev_sum n q (p.length + q.length + r.length) (by omega)
  have h3 := ev_sum n r (p.length + q.length + r.length) (by omega)
  rw [h1, h2, h3, ← sum_add]
  simp only [e, Int.add_mul]
theorem ev_smul {n : Int} {p r : List Int} (c : Int) (e : ∀ i, cf r i = c * cf p i) : evP n r = c * evP n p := by
  have h1 := ev_sum n p (p.length + r.length) (by omega)
  have h3 := ev_sum n r (p.length + r.length) (by omega)
  rw [h1, h3, ← sum_mul]
  simp only [e, Int.mul_assoc]
theorem ev_M {n : Int} {g : List Int} : ∀ {h r : List Int}, (∀ i, cf r i = M g h i) → evP n r = evP n g * evP n h
  | [], r, e => by rw [ev_zero (p := r) e]; simp [evP]
  | c :: h, r, e => by
    have hr : ∀ i, cf ((List.range (g.length + h.length)).map fun i => M g h i) i = M g h i := fun i => by
      rw [cf_range]
      split
      · rfl
      · exact (M_out g h i (by omega)).symm
    have ih := ev_M (n := n) hr
    have e1 : ∀ i, cf r i = cf (g.map fun a => c * a) i + cf (0 :: (List.range (g.length + h.length)).map fun i => M g h i) i := fun i => by
      rw [cf_map0 (fun a => c * a) (by simp), e i]
      cases i with
      | zero => simp [M]
      | succ i => rw [cf_succ, hr]; rfl
    rw [ev_add e1, ev_smul (p := g) c (cf_map0 (fun a => c * a) (by simp) g)]
    simp only [evP, ih]
    simp only [Int.mul_add, Int.zero_add, Int.mul_comm, Int.mul_left_comm]
/-! ### contents -/
def contF (f : Int) (p : List Int) : Int := p.foldl (fun f c => (Int.gcd f c : Int)) f
def cont (p : List Int) : Int := contF 0 p
theorem contF_dvd : ∀ (p : List Int) (f : Int), contF f p ∣ f ∧ ∀ c ∈ p, contF f p ∣ c
  | [], f => ⟨Int.dvd_refl f, fun c hc => by cases hc⟩
  | a :: p, f => by
    obtain ⟨h1, h2⟩ := contF_dvd p (Int.gcd f a : Int)
    have e : contF f (a :: p) = contF (Int.gcd f a : Int) p := rfl
    rw [e]
    refine ⟨Int.dvd_trans h1 (Int.gcd_dvd_left ..), fun c hc => ?_⟩
    cases hc with
    | head => exact Int.dvd_trans h1 (Int.gcd_dvd_right ..)
    | tail _ h => exact h2 c h
theorem contF_great {d : Int} : ∀ (p : List Int) (f : Int), d ∣ f → (∀ c ∈ p, d ∣ c) → d ∣ contF f p
  | [], f, h, _ => h
  | a :: p, f, h, hp => contF_great p (Int.gcd f a : Int) (Int.dvd_coe_gcd h (hp a (.head _))) fun c hc => hp c (.tail _ hc)
theorem contF_nonneg : ∀ (p : List Int) (f : Int), 0 ≤ f → 0 ≤ contF f p
  | [], f, h => h
  | a :: p, f, _ => contF_nonneg p _ (Int.natCast_nonneg _)
theorem cont_cf (p : List Int) (i : Nat) : cont p ∣ cf p i := by
  by_cases h : cf p i = 0
  · rw [h]; exact Int.dvd_zero _
  · exact (contF_dvd p 0).2 _ (cf_mem h)
theorem cont_great {p : List Int} {d : Int} (h : ∀ i, d ∣ cf p i) : d ∣ cont p := contF_great p 0 (Int.dvd_zero _) fun c hc => by
  obtain ⟨i, hi, rfl⟩ := List.getElem_of_mem hc
  rw [← cf_get hi]
  exact h i
theorem cont_nonneg (p : List Int) : 0 ≤ cont p := contF_nonneg p 0 (Int.le_refl _)
theorem cont_pos {p : List Int} {i : Nat} (h : cf p i ≠ 0) : 0 < cont p := by
  have h1 := cont_nonneg p
  have h2 := cont_cf p i
  have h3 : cont p ≠ 0 := fun z => h (by rw [z] at h2; exact Int.zero_dvd.mp h2)
  omega
/-! ### division of all coefficients -/
def divC (d : Int) (p : List Int) : List Int := p.map fun c => c.fdiv d
theorem divC_cf {d : Int} {p : List Int} (hd : d ≠ 0) (h : ∀ i, d ∣ cf p i) (i : Nat) : cf p i = d * cf (divC d p) i := by
  unfold divC
  rw [cf_map0 (fun c => c.fdiv d) (by simp)]
  obtain ⟨k, hk⟩ := h i
  rw [hk, Int.mul_fdiv_cancel_left _ hd]
theorem divC_Tr {d : Int} {p : List Int} (hd : d ≠ 0) (h : ∀ i, d ∣ cf p i) (ht : Tr p) : Tr (divC d p) := fun hp => by
  have hp' : p ≠ [] := fun z => hp (by rw [z]; rfl)
  have h1 := ht.last_cf hp'
  have hl : (divC d p).length = p.length := by unfold divC; simp
  have hpos : 0 < p.length := List.length_pos_iff.mpr hp'
  rw [List.getLast_eq_getElem, ← cf_get (by omega), hl]
  intro z
  exact h1 (by rw [divC_cf hd h, z]; simp)
theorem divC_le {d : Int} {p : List Int} (hd : d ≠ 0) (h : ∀ i, d ∣ cf p i) (i : Nat) : (cf (divC d p) i).natAbs ≤ (cf p i).natAbs := by
  rw [divC_cf hd h i, Int.natAbs_mul]
  have : 1 ≤ d.natAbs := Int.natAbs_pos.mpr hd
  exact Nat.le_mul_of_pos_left _ this
def lastP (p : List Int) : Int := cf p (p.length - 1)
def sgC (p : List Int) : Int := if lastP p < 0 then - cont p else cont p
def primP (p : List Int) : List Int := if p = [] then [] else divC (sgC p) p
structure Good (p : List Int) : Prop where
  tr : Tr p
  ok : p ≠ [] → Prim p ∧ 0 < lastP p
theorem Good.nil : Good [] := ⟨fun h => absurd rfl h, fun h => absurd rfl h⟩
theorem sgC_dvd (p : List Int) (i : Nat) : sgC p ∣ cf p i := by
  unfold sgC
  split
  · exact Int.neg_dvd.mpr (cont_cf p i)
  · exact cont_cf p i
theorem sgC_ne {p : List Int} (ht : Tr p) (hp : p ≠ []) : sgC p ≠ 0 := by
  have := cont_pos (ht.last_cf hp)
  unfold sgC
  split <;> omega
theorem primP_cf {p : List Int} (ht : Tr p) (hp : p ≠ []) (i : Nat) : cf p i = sgC p * cf (primP p) i := by
  unfold primP
  rw [if_neg hp]
  exact divC_cf (sgC_ne ht hp) (sgC_dvd p) i
theorem primP_len (p : List Int) : (primP p).length = p.length := by
  unfold primP divC
  split
  · rename_i h; rw [h]
  · simp
theorem primP_good {p : List Int} (ht : Tr p) : Good (primP p) := by
  by_cases hp : p = []
  · rw [hp]; exact Good.nil
  · have e := primP_cf ht hp
    have hs := sgC_ne ht hp
    refine ⟨by unfold primP; rw [if_neg hp]; exact divC_Tr hs (sgC_dvd p) ht, fun _ => ⟨fun d hd => ?_, ?_⟩⟩
    · have h1 : d * cont p ∣ cont p := by
        refine cont_great fun i => ?_
        rw [e i]
        have : cont p ∣ sgC p := by
          unfold sgC
          split
          · exact Int.dvd_neg.mpr (Int.dvd_refl _)
          · exact Int.dvd_refl _
        rw [Int.mul_comm]
        exact Int.mul_dvd_mul this (hd i)
      have hc := cont_pos (ht.last_cf hp)
      obtain ⟨k, hk⟩ := h1
      have h2 : cont p * (d * k) = cont p * 1 := by
        rw [Int.mul_one]
        calc cont p * (d * k) = d * cont p * k := by rw [← Int.mul_assoc, Int.mul_comm (cont p) d]
          _ = cont p := hk.symm
      have h3 := Int.eq_of_mul_eq_mul_left (by omega) h2
      have : d ∣ 1 := ⟨k, h3.symm⟩
      have h4 := Int.natAbs_dvd_natAbs.mpr this
      exact Nat.dvd_one.mp h4
    · have h1 := ht.last_cf hp
      have h2 := e (p.length - 1)
      have hc := cont_pos (ht.last_cf hp)
      unfold lastP
      rw [primP_len]
      unfold sgC lastP at h2
      split at h2
      · rename_i hneg
        apply Decidable.byContradiction
        intro hle
        have : 0 ≤ - cont p * cf (primP p) (p.length - 1) := by
          have := Int.mul_nonneg_of_nonpos_of_nonpos (a := - cont p) (b := cf (primP p) (p.length - 1)) (by omega) (by omega)
          exact this
        omega
      · rename_i hneg
        apply Decidable.byContradiction
        intro hle
        have : 0 ≤ cont p * (- cf (primP p) (p.length - 1)) := Int.mul_nonneg (by omega) (by omega)
        rw [Int.mul_neg] at this
        omega
/-! ### bounds -/
def Bd (k : Nat) (p : List Int) : Prop := ∀ i, (cf p i).natAbs < 2 ^ k
theorem Bd.mono {k m : Nat} {p : List Int} (h : Bd k p) (hk : k ≤ m) : Bd m p := fun i => Nat.lt_of_lt_of_le (h i) (Nat.pow_le_pow_right (by decide) hk)
theorem Bd.mem {k : Nat} {p : List Int} (h : Bd k p) {c : Int} (hc : c ∈ p) : c.natAbs < 2 ^ k := by
  obtain ⟨i, hi, rfl⟩ := List.getElem_of_mem hc
  rw [← cf_get hi]
  exact h i
theorem Bd.of {k : Nat} {p : List Int} (h : ∀ c ∈ p, c.natAbs < 2 ^ k) : Bd k p := fun i => by
  by_cases z : cf p i = 0
  · rw [z]; exact Nat.pow_pos (by decide)
  · exact h _ (cf_mem z)
theorem Bd.prim {k : Nat} {p : List Int} (ht : Tr p) (h : Bd k p) : Bd k (primP p) := by
  unfold primP
  by_cases hp : p = []
  · rw [if_pos hp]; intro i; simp; exact Nat.pow_pos (by decide)
  · rw [if_neg hp]
    exact fun i => Nat.lt_of_le_of_lt (divC_le (sgC_ne ht hp) (sgC_dvd p) i) (h i)
/-! ### one step of the rest -/
def stepP (p q : List Int) : List Int := addP (mulP p [lastP q]) (negP (mulP (sh (p.length - q.length) q) [lastP p]))
theorem cf_stepP (p q : List Int) (i : Nat) : cf (stepP p q) i = lastP q * cf p i - lastP p * cf (sh (p.length - q.length) q) i := by
  unfold stepP
  rw [cf_addP, cf_negP, cf_mulP, cf_mulP, M_single, M_single, Int.mul_comm, Int.mul_comm (cf (sh _ q) i)]
  omega
theorem stepP_len {p q : List Int} (hq : q ≠ []) (h : q.length ≤ p.length) : (stepP p q).length < p.length := by
  have hl : 0 < q.length := List.length_pos_iff.mpr hq
  have : (stepP p q).length ≤ p.length - 1 := by
    have e : tr (stepP p q) = stepP p q := tr_id (tr_Tr _)
    rw [← e]
    refine cf_ge_of fun i hi => ?_
    rw [cf_stepP, cf_sh, if_neg (by omega)]
    by_cases hi' : i = p.length - 1
    · subst hi'
      have : p.length - 1 - (p.length - q.length) = q.length - 1 := by omega
      rw [this]
      unfold lastP
      rw [Int.mul_comm, Int.sub_self]
    · rw [cf_out (p := p) (by omega), cf_out (p := q) (by omega)]
      simp
  omega
theorem stepP_Tr (p q : List Int) : Tr (stepP p q) := tr_Tr _
theorem mul_lt {a b : Int} {k m : Nat} (ha : a.natAbs < 2 ^ k) (hb : b.natAbs < 2 ^ m) : (a * b).natAbs < 2 ^ (k + m) := by
  rw [Int.natAbs_mul, Nat.pow_add]
  exact Nat.mul_lt_mul'' ha hb
theorem stepP_Bd {p q : List Int} {k m : Nat} (hp : Bd k p) (hq : Bd m q) : Bd (k + m + 1) (stepP p q) := fun i => by
  rw [cf_stepP]
  have h1 : (lastP q * cf p i).natAbs < 2 ^ (k + m) := by rw [Int.mul_comm]; exact mul_lt (hp i) (hq _)
  have h2 : (lastP p * cf (sh (p.length - q.length) q) i).natAbs < 2 ^ (k + m) := by
    refine mul_lt (hp _) ?_
    rw [cf_sh]
    split
    · exact Nat.pow_pos (by decide)
    · exact hq _
  have : (lastP q * cf p i - lastP p * cf (sh (p.length - q.length) q) i).natAbs ≤ (lastP q * cf p i).natAbs + (lastP p * cf (sh (p.length - q.length) q) i).natAbs := by omega
  have e : (2 : Nat) ^ (k + m + 1) = 2 ^ (k + m) + 2 ^ (k + m) := by rw [Nat.pow_succ]; omega
  omega
theorem stepP_Dv {g p q : List Int} (hg : Prim g) (hq : q ≠ []) (tq : Tr q) (h1 : Dv g q) (h2 : Dv g (primP (stepP p q))) : Dv g p := by
  have hl : lastP q ≠ 0 := tq.last_cf hq
  have h3 : Dv g (stepP p q) := by
    by_cases hs : stepP p q = []
    · rw [hs]; exact Dv.nil fun i => by simp
    · exact h2.smul _ (primP_cf (stepP_Tr p q) hs)
  have h4 : Dv g (mulP p [lastP q]) := by
    refine h3.add ((h1.sh (p.length - q.length)).smul (lastP p) (q := mulP (sh (p.length - q.length) q) [lastP p]) fun i => ?_) fun i => ?_
    · rw [cf_mulP, M_single, Int.mul_comm]
    · rw [cf_stepP, cf_mulP, cf_mulP, M_single, M_single, Int.mul_comm, Int.mul_comm (cf (sh _ q) i)]
      omega
  exact h4.cancel hg hl fun i => by rw [cf_mulP, M_single, Int.mul_comm]
end PQ
set_option linter.all false
namespace PQ
/-! ### exact division -/
theorem cf_take (h : List Int) (t i : Nat) : cf (h.take t) i = if i < t then cf h i else 0 := by
  unfold cf
  simp only [List.getD_eq_getElem?_getD, List.getElem?_take]
  split <;> rfl
theorem M_c (g : List Int) (c : Int) : ∀ k, M g [c] k = cf g k * c
  | 0 => by simp [M, Int.mul_comm]
  | k + 1 => by simp [M, Int.mul_comm]
theorem M_take {g h : List Int} {t : Nat} (hl : h.length ≤ t + 1) (i : Nat) : M g h i = M g (h.take t) i + cf (sh t g) i * cf h t := by
  rw [M_add g (h := h.take t) (k := sh t [cf h t]) (r := h) (fun j => ?_) i, M_sh, cf_sh]
  · split
    · simp
    · rw [M_c]
  · rw [cf_take, cf_sh]
    by_cases h1 : j < t
    · rw [if_pos h1, if_pos h1, Int.add_zero]
    · rw [if_neg h1, if_neg h1, Int.zero_add]
      by_cases h2 : j = t
      · subst h2; simp
      · rw [cf_out (p := h) (by omega), cf_out (p := [cf h t]) (by simp; omega)]
theorem div_top {g h : List Int} {t : Nat} (hg : g ≠ []) (hl : h.length ≤ t + 1) : M g h (t + g.length - 1) = lastP g * cf h t := by
  have hpos : 0 < g.length := List.length_pos_iff.mpr hg
  rw [M_take hl, M_out g _ _ (by rw [List.length_take]; omega), cf_sh, if_neg (by omega)]
  have : t + g.length - 1 - t = g.length - 1 := by omega
  rw [this, Int.zero_add]
  rfl
theorem div_num {one g h : List Int} {t : Nat} (hg : g ≠ []) (tg : Tr g) (e : ∀ i, cf one i = M g h i) (hl : h.length ≤ t + 1) : (cf one (t + g.length - 1)).fdiv (lastP g) = cf h t := by
  rw [e, div_top hg hl]
  exact Int.mul_fdiv_cancel_left _ (tg.last_cf hg)
theorem div_new {one g h : List Int} {t : Nat} (e : ∀ i, cf one i = M g h i) (hl : h.length ≤ t + 1) (i : Nat) : cf (addP one (negP (mulP (sh t g) [cf h t]))) i = M g (h.take t) i := by
  rw [cf_addP, cf_negP, cf_mulP, M_single, e, M_take hl]
  omega
theorem div_le {one g h : List Int} {t k : Nat} (hg : g ≠ []) (tg : Tr g) (e : ∀ i, cf one i = M g h i) (hl : h.length ≤ t + 1) (hb : Bd k one) : (cf h t).natAbs < 2 ^ k := by
  have h1 := hb (t + g.length - 1)
  rw [e, div_top hg hl, Int.natAbs_mul] at h1
  have : 1 ≤ (lastP g).natAbs := Int.natAbs_pos.mpr (tg.last_cf hg)
  exact Nat.lt_of_le_of_lt (Nat.le_mul_of_pos_left _ this) h1
theorem div_Bd {one g : List Int} {t k m : Nat} {c : Int} (hb : Bd k one) (hm : Bd m g) (hc : c.natAbs < 2 ^ k) : Bd (k + m + 1) (addP one (negP (mulP (sh t g) [c]))) := fun i => by
  rw [cf_addP, cf_negP, cf_mulP, M_single]
  have h1 := hb i
  have h2 : (cf (sh t g) i * c).natAbs < 2 ^ (m + k) := by
    refine mul_lt ?_ hc
    rw [cf_sh]
    split
    · exact Nat.pow_pos (by decide)
    · exact hm _
  have h3 : (2 : Nat) ^ k ≤ 2 ^ (m + k) := Nat.pow_le_pow_right (by decide) (by omega)
  have e : (2 : Nat) ^ (k + m + 1) = 2 ^ (m + k) + 2 ^ (m + k) := by rw [Nat.pow_succ, Nat.add_comm k m]; omega
  omega
theorem quot_of {g one : List Int} (hd : Dv g one) (tg : Tr g) (hg : g ≠ []) (t1 : Tr one) : ∃ h, Tr h ∧ (∀ i, cf one i = M g h i) ∧ (one ≠ [] → h ≠ [] ∧ one.length + 1 = g.length + h.length) ∧ (one = [] → h = []) := by
  obtain ⟨h0, e0⟩ := hd
  have e : ∀ i, cf one i = M g (tr h0) i := fun i => by rw [e0, M_congr g (cf_tr h0)]
  have hpos : 0 < g.length := List.length_pos_iff.mpr hg
  have top : tr h0 ≠ [] → cf one (g.length + (tr h0).length - 2) ≠ 0 := fun hh => by
    have hp : 0 < (tr h0).length := List.length_pos_iff.mpr hh
    have := div_top (g := g) (h := tr h0) (t := (tr h0).length - 1) hg (by omega)
    rw [e, show g.length + (tr h0).length - 2 = (tr h0).length - 1 + g.length - 1 by omega, this]
    intro z
    rcases Int.mul_eq_zero.mp z with z | z
    · exact tg.last_cf hg z
    · exact (tr_Tr h0).last_cf hh z
  refine ⟨tr h0, tr_Tr h0, e, fun h1 => ?_, fun h1 => ?_⟩
  · have hne : tr h0 ≠ [] := fun z => by
      have := t1.last_cf h1
      rw [e, z] at this
      exact this rfl
    refine ⟨hne, ?_⟩
    have hp : 0 < (tr h0).length := List.length_pos_iff.mpr hne
    have a1 := top hne
    have a2 : g.length + (tr h0).length - 2 < one.length := Decidable.byContradiction fun z => a1 (cf_out (by omega))
    have a3 : (tr one).length ≤ g.length + (tr h0).length - 1 := cf_ge_of fun i hi => by rw [e, M_out g _ _ (by omega)]
    rw [tr_id t1] at a3
    omega
  · apply Classical.byContradiction
    intro hne
    exact top hne (by rw [h1]; simp)
/-! ### fractions in lowest terms -/
def lowd (a b : Int) : Int := if b < 0 then - (Int.gcd a b : Int) else (Int.gcd a b : Int)
theorem lowd_dvd (a b : Int) : lowd a b ∣ a ∧ lowd a b ∣ b := by
  unfold lowd
  split
  · exact ⟨Int.neg_dvd.mpr (Int.gcd_dvd_left ..), Int.neg_dvd.mpr (Int.gcd_dvd_right ..)⟩
  · exact ⟨Int.gcd_dvd_left .., Int.gcd_dvd_right ..⟩
theorem lowd_ne {a b : Int} (hb : b ≠ 0) : lowd a b ≠ 0 := by
  have : 0 < Int.gcd a b := Nat.gcd_pos_of_pos_right _ (Int.natAbs_pos.mpr hb)
  unfold lowd
  split <;> omega
theorem lowd_mul {a b e : Int} (hb : b ≠ 0) (he : e ≠ 0) : lowd (e * a) (e * b) = e * lowd a b := by
  have h1 : (Int.gcd (e * a) (e * b) : Int) = (e.natAbs : Int) * (Int.gcd a b : Int) := by rw [Int.gcd_mul_left]; simp
  unfold lowd
  rw [h1]
  rcases Int.lt_or_gt_of_ne he with h | h
  · have e1 : (e.natAbs : Int) = -e := by omega
    rw [e1]
    rcases Int.lt_or_gt_of_ne hb with hb' | hb'
    · have : ¬ e * b < 0 := by have := Int.mul_pos_of_neg_of_neg h hb'; omega
      rw [if_neg this, if_pos hb', Int.neg_mul, Int.mul_neg]
    · have : e * b < 0 := Int.mul_neg_of_neg_of_pos h hb'
      have h3 : ¬ b < 0 := by omega
      rw [if_pos this, if_neg h3, Int.neg_mul, Int.neg_neg]
  · have e1 : (e.natAbs : Int) = e := by omega
    rw [e1]
    rcases Int.lt_or_gt_of_ne hb with hb' | hb'
    · have : e * b < 0 := Int.mul_neg_of_pos_of_neg h hb'
      rw [if_pos this, if_pos hb', Int.mul_neg]
    · have : ¬ e * b < 0 := by have := Int.mul_pos h hb'; omega
      have h3 : ¬ b < 0 := by omega
      rw [if_neg this, if_neg h3]
theorem fdiv_mul {a x e : Int} (he : e ≠ 0) (hx : x ≠ 0) (h : x ∣ a) : (e * a).fdiv (e * x) = a.fdiv x := by
  obtain ⟨k, rfl⟩ := h
  rw [← Int.mul_assoc, Int.mul_fdiv_cancel_left _ (fun z => (Int.mul_eq_zero.mp z).elim he hx), Int.mul_fdiv_cancel_left _ hx]
theorem low_mul {a b e : Int} (hb : b ≠ 0) (he : e ≠ 0) : (e * a).fdiv (lowd (e * a) (e * b)) = a.fdiv (lowd a b) ∧ (e * b).fdiv (lowd (e * a) (e * b)) = b.fdiv (lowd a b) := by
  rw [lowd_mul hb he]
  exact ⟨fdiv_mul he (lowd_ne hb) (lowd_dvd a b).1, fdiv_mul he (lowd_ne hb) (lowd_dvd a b).2⟩
/-! ### values, bounded -/
theorem ev_Bd {n : Int} {m : Nat} (hn : n.natAbs < 2 ^ m) : ∀ (p : List Int) (k : Nat), Bd k p → (evP n p).natAbs < 2 ^ (k + (m + 1) * p.length + 1)
  | [], k, _ => by simp only [evP, Int.natAbs_zero]; exact Nat.pow_pos (by decide)
  | a :: p, k, h => by
    have h0 : a.natAbs < 2 ^ k := by simpa using h 0
    have ih := ev_Bd hn p k fun i => by simpa using h (i + 1)
    have h2 := mul_lt hn ih
    have h3 : (2 : Nat) ^ k ≤ 2 ^ (m + (k + (m + 1) * p.length + 1)) := Nat.pow_le_pow_right (by decide) (by omega)
    have e : k + (m + 1) * (a :: p).length + 1 = (m + (k + (m + 1) * p.length + 1)) + 1 := by
      rw [List.length_cons, Nat.mul_add, Nat.mul_one]; omega
    rw [e, Nat.pow_succ]
    show (a + n * evP n p).natAbs < _
    omega
/-! ### polynomials as functions -/
def IsP (f : Int → Int) : Prop := ∃ u, ∀ n, evP n u = f n
theorem IsP.ev (p : List Int) : IsP fun n => evP n p := ⟨p, fun _ => rfl⟩
theorem IsP.const (c : Int) : IsP fun _ => c := ⟨[c], fun n => by simp [evP]⟩
theorem IsP.add {f g : Int → Int} (h : IsP f) (k : IsP g) : IsP fun n => f n + g n := by
  obtain ⟨u, hu⟩ := h
  obtain ⟨v, hv⟩ := k
  exact ⟨addP u v, fun n => by rw [ev_add (cf_addP u v), hu, hv]⟩
theorem IsP.mul {f g : Int → Int} (h : IsP f) (k : IsP g) : IsP fun n => f n * g n := by
  obtain ⟨u, hu⟩ := h
  obtain ⟨v, hv⟩ := k
  exact ⟨mulP v u, fun n => by rw [ev_M (g := u) (h := v) (cf_mulP v u), hu, hv]⟩
theorem ev_sh {n : Int} : ∀ (s : Nat) (p : List Int), evP n (sh s p) = n ^ s * evP n p
  | 0, p => by simp [sh]
  | s + 1, p => by
    rw [sh_succ]
    show 0 + n * evP n (sh s p) = _
    rw [ev_sh s p, Int.pow_succ, Int.zero_add, ← Int.mul_assoc, Int.mul_comm n (n ^ s)]
theorem IsP.pow (s : Nat) : IsP fun n => n ^ s := ⟨sh s [1], fun n => by rw [ev_sh]; simp [evP]⟩
/-- c * a is a sum of multiples of p and q -/
def Cmb (p q a : List Int) : Prop := ∃ (U V : Int → Int) (c : Int), IsP U ∧ IsP V ∧ c ≠ 0 ∧ ∀ n, c * evP n a = U n * evP n p + V n * evP n q
theorem Cmb.nil {p q a : List Int} (h : ∀ i, cf a i = 0) : Cmb p q a := ⟨fun _ => 0, fun _ => 0, 1, .const 0, .const 0, by decide, fun n => by rw [ev_zero h]; simp⟩
theorem Cmb.left {p q a : List Int} {s : Int} (hs : s ≠ 0) (h : ∀ i, cf p i = s * cf a i) : Cmb p q a := ⟨fun _ => 1, fun _ => 0, s, .const 1, .const 0, hs, fun n => by rw [ev_smul s h]; simp⟩
theorem Cmb.right {p q a : List Int} {s : Int} (hs : s ≠ 0) (h : ∀ i, cf q i = s * cf a i) : Cmb p q a := ⟨fun _ => 0, fun _ => 1, s, .const 0, .const 1, hs, fun n => by rw [ev_smul s h]; simp⟩
theorem Cmb.step {p q a b : List Int} (ha : Cmb p q a) (hb : Cmb p q b) : Cmb p q (primP (stepP a b)) := by
  by_cases hs : stepP a b = []
  · rw [hs]; exact Cmb.nil fun i => by simp [primP]
  obtain ⟨U, V, c, hU, hV, hc, e⟩ := ha
  obtain ⟨U2, V2, c2, hU2, hV2, hc2, e2⟩ := hb
  have hsg := sgC_ne (stepP_Tr a b) hs
  have es : ∀ n, sgC (stepP a b) * evP n (primP (stepP a b)) = lastP b * evP n a - lastP a * (n ^ (a.length - b.length) * evP n b) := fun n => by
    rw [← ev_smul (r := stepP a b) (sgC (stepP a b)) (primP_cf (stepP_Tr a b) hs)]
    have h1 : evP n (stepP a b) + evP n ((sh (a.length - b.length) b).map fun z => lastP a * z) = evP n (a.map fun z => lastP b * z) := by
      rw [← ev_add (r := a.map fun z => lastP b * z) (p := stepP a b) fun i => ?_]
      rw [cf_map0 (fun z => lastP b * z) (by simp), cf_map0 (fun z => lastP a * z) (by simp), cf_stepP]
      omega
    rw [ev_smul (lastP a) (cf_map0 (fun z => lastP a * z) (by simp) (sh (a.length - b.length) b)), ev_smul (lastP b) (cf_map0 (fun z => lastP b * z) (by simp) a), ev_sh] at h1
    omega
  refine ⟨fun n => (c2 * lastP b) * U n + ((-(c * lastP a)) * n ^ (a.length - b.length)) * U2 n, fun n => (c2 * lastP b) * V n + ((-(c * lastP a)) * n ^ (a.length - b.length)) * V2 n, c * c2 * sgC (stepP a b),
    ((IsP.const _).mul hU).add (((IsP.const _).mul (.pow _)).mul hU2), ((IsP.const _).mul hV).add (((IsP.const _).mul (.pow _)).mul hV2), fun z => ?_, fun n => ?_⟩
  · rcases Int.mul_eq_zero.mp z with z | z
    · exact (Int.mul_eq_zero.mp z).elim hc hc2
    · exact hsg z
  · have k1 := e n
    have k2 := e2 n
    rw [Int.mul_assoc, es n, Int.mul_sub]
    have m1 : c * c2 * (lastP b * evP n a) = (c2 * lastP b) * (U n * evP n p + V n * evP n q) := by
      rw [← k1]
      simp only [Int.mul_assoc, Int.mul_left_comm, Int.mul_comm]
    have m2 : c * c2 * (lastP a * (n ^ (a.length - b.length) * evP n b)) = (c * lastP a * n ^ (a.length - b.length)) * (U2 n * evP n p + V2 n * evP n q) := by
      rw [← k2]
      simp only [Int.mul_assoc, Int.mul_left_comm, Int.mul_comm]
    rw [m1, m2]
    simp only [Int.mul_add, Int.add_mul, Int.neg_mul, Int.mul_assoc]
    omega
/-! ### the greatest common divisor's walk -/
theorem pow3 : ∀ d : Nat, 1 ≤ d → d + 2 ≤ 3 ^ d
  | 0, h => by omega
  | 1, _ => by decide
  | d + 2, _ => by have := pow3 (d + 1) (by omega); rw [Nat.pow_succ]; omega
theorem pow3' (d : Nat) : d + 2 ≤ 2 * 3 ^ d := by
  cases d with
  | zero => decide
  | succ d => have := pow3 (d + 1) (by omega); omega
structure Sh (p0 q0 : List Int) (M0 L : Nat) (a b : List Int) : Prop where
  ga : Good a
  gb : Good b
  dv : ∀ g, Prim g → Dv g a → Dv g b → Dv g p0 ∧ Dv g q0
  bd : ∃ k, Bd k a ∧ Bd k b ∧ (k + 1 ≤ M0 ∨ (b.length < a.length ∧ k + 1 ≤ 2 * M0 * 3 ^ (L - a.length)))
  la : a.length ≤ L
  lb : b.length ≤ L
  ne : a ≠ [] ∨ b ≠ []
  ca : Cmb p0 q0 a
  cb : Cmb p0 q0 b
structure Re (a b : List Int) (k s : Nat) (one : List Int) : Prop where
  go : Good one
  dv : ∀ g, Prim g → Dv g b → Dv g one → Dv g a
  bd : Bd (k + s * (k + 1)) one
  ls : one.length + s ≤ a.length
  le : s = 0 ∨ b.length + s ≤ a.length + 1
  cm : ∀ p q, Cmb p q a → Cmb p q b → Cmb p q one
theorem Re.init {a b : List Int} {k : Nat} (ga : Good a) (h : Bd k a) : Re a b k 0 a := ⟨ga, fun _ _ _ h => h, by simpa using h, Nat.le_refl _, .inl rfl, fun _ _ h _ => h⟩
theorem Re.step {a b : List Int} {k s : Nat} {one : List Int} (r : Re a b k s one) (gb : Good b) (hb : b ≠ []) (bb : Bd k b) (hl : b.length ≤ one.length) : Re a b k (s + 1) (primP (stepP one b)) := by
  have h1 := stepP_len hb hl
  refine ⟨primP_good (stepP_Tr one b), fun g hg d1 d2 => r.dv g hg d1 (stepP_Dv hg hb gb.tr d1 d2), (Bd.prim (stepP_Tr one b) (stepP_Bd r.bd bb)).mono ?_, ?_, .inr ?_, fun p q ha hb => (r.cm p q ha hb).step hb⟩
  · rw [Nat.succ_mul]; omega
  · rw [primP_len]; have := r.ls; omega
  · have := r.ls; omega
theorem room {a b : List Int} {k M0 L : Nat} (hb : b ≠ []) (la : a.length ≤ L) (h : k + 1 ≤ M0 ∨ (b.length < a.length ∧ k + 1 ≤ 2 * M0 * 3 ^ (L - a.length))) : (a.length - b.length + 2) * (k + 1) ≤ 2 * M0 * 3 ^ (L - b.length) := by
  have hpos : 0 < b.length := List.length_pos_iff.mpr hb
  rcases h with h | ⟨h2, h⟩
  · have h3 := pow3' (a.length - b.length)
    have h4 : (3 : Nat) ^ (a.length - b.length) ≤ 3 ^ (L - b.length) := Nat.pow_le_pow_right (by decide) (by omega)
    calc (a.length - b.length + 2) * (k + 1) ≤ (2 * 3 ^ (L - b.length)) * M0 := Nat.mul_le_mul (by omega) h
      _ = 2 * M0 * 3 ^ (L - b.length) := by rw [Nat.mul_comm, ← Nat.mul_assoc, Nat.mul_comm M0 2]
  · have h3 := pow3 (a.length - b.length) (by omega)
    calc (a.length - b.length + 2) * (k + 1) ≤ 3 ^ (a.length - b.length) * (2 * M0 * 3 ^ (L - a.length)) := Nat.mul_le_mul h3 h
      _ = 2 * M0 * (3 ^ (L - a.length) * 3 ^ (a.length - b.length)) := by rw [Nat.mul_comm, Nat.mul_assoc]
      _ = 2 * M0 * 3 ^ (L - b.length) := by rw [← Nat.pow_add]; congr 2; omega
theorem Re.bits {a b : List Int} {k s M0 L : Nat} {one : List Int} (r : Re a b k s one) (hb : b ≠ []) (la : a.length ≤ L) (h : k + 1 ≤ M0 ∨ (b.length < a.length ∧ k + 1 ≤ 2 * M0 * 3 ^ (L - a.length))) : k + s * (k + 1) + 1 ≤ 2 * M0 * 3 ^ (L - b.length) := by
  have hs : s ≤ a.length - b.length + 1 := by rcases r.le with h | h <;> omega
  have e : k + s * (k + 1) + 1 = (s + 1) * (k + 1) := by rw [Nat.succ_mul]; omega
  rw [e]
  exact Nat.le_trans (Nat.mul_le_mul_right _ (by omega)) (room hb la h)
theorem Re.done {p0 q0 a b : List Int} {k s M0 L : Nat} {one : List Int} (S : Sh p0 q0 M0 L a b) (hb : b ≠ []) (h : k + 1 ≤ M0 ∨ (b.length < a.length ∧ k + 1 ≤ 2 * M0 * 3 ^ (L - a.length))) (bb : Bd k b) (r : Re a b k s one) (hl : one.length < b.length) : Sh p0 q0 M0 L b one := by
  have h1 := r.bits hb S.la h
  refine ⟨S.gb, r.go, fun g hg d1 d2 => S.dv g hg (r.dv g hg d1 d2) d1, ⟨_, bb.mono (Nat.le_add_right _ _), r.bd, .inr ⟨hl, h1⟩⟩, S.lb, by have := S.lb; omega, .inl hb, S.cb, r.cm _ _ S.ca S.cb⟩
theorem Sh.init {p q : List Int} {M0 L k : Nat} (tp : Tr p) (tq : Tr q) (hq : q ≠ []) (bp : Bd k p) (bq : Bd k q) (hk : k + 1 ≤ M0) (lp : p.length ≤ L) (lq : q.length ≤ L) : Sh p q M0 L (primP p) (primP q) := by
  refine ⟨primP_good tp, primP_good tq, fun g hg d1 d2 => ⟨?_, ?_⟩, ⟨k, bp.prim tp, bq.prim tq, .inl hk⟩, by rw [primP_len]; exact lp, by rw [primP_len]; exact lq, .inr fun z => hq ?_, ?_, ?_⟩
  · by_cases hp : p = []
    · rw [hp]; exact Dv.nil fun i => by simp
    · exact d1.smul _ (primP_cf tp hp)
  · exact d2.smul _ (primP_cf tq hq)
  · have := primP_len q
    rw [z] at this
    exact List.eq_nil_of_length_eq_zero this.symm
  · by_cases hp : p = []
    · rw [hp]; exact Cmb.nil fun i => by simp [primP]
    · exact Cmb.left (sgC_ne tp hp) (primP_cf tp hp)
  · exact Cmb.right (sgC_ne tq hq) (primP_cf tq hq)
/-! ### the bound of a quotient -/
theorem quot_Bd {g : List Int} {m : Nat} (hg : g ≠ []) (tg : Tr g) (bg : Bd m g) : ∀ (n : Nat) (h p : List Int) (k : Nat), h.length ≤ n → (∀ i, cf p i = M g h i) → Bd k p → Bd (k + n * (m + 1)) h
  | 0, h, p, k, hl, e, bp => fun i => by rw [cf_out (by omega)]; exact Nat.pow_pos (by decide)
  | n + 1, h, p, k, hl, e, bp => by
    have hc := div_le hg tg e hl bp
    have ih := quot_Bd hg tg bg n (h.take n) _ (k + m + 1) (by rw [List.length_take]; omega) (div_new e hl) (div_Bd bp bg hc)
    intro i
    by_cases h1 : i < n
    · have := ih i
      rw [cf_take, if_pos h1] at this
      have e2 : k + m + 1 + n * (m + 1) = k + (n + 1) * (m + 1) := by rw [Nat.succ_mul]; omega
      rwa [e2] at this
    · by_cases h2 : i = n
      · subst h2
        exact Nat.lt_of_lt_of_le hc (Nat.pow_le_pow_right (by decide) (Nat.le_add_right _ _))
      · rw [cf_out (by omega)]; exact Nat.pow_pos (by decide)
structure Quo (p q t b : List Int) (N : Nat) : Prop where
  tt : Tr t
  tb : Tr b
  nb : b ≠ []
  lb : 0 < lastP b
  ex : ∃ (g : List Int) (d : Int), d ≠ 0 ∧ Prim g ∧ g ≠ [] ∧ Tr g ∧ (∀ i, cf p i = d * M g t i) ∧ ∀ i, cf q i = d * M g b i
  co : ∀ e : Int, (∀ i, e ∣ cf t i) → (∀ i, e ∣ cf b i) → e.natAbs = 1
  bt : Bd N t
  bb : Bd N b
  lt : t.length ≤ p.length
  ll : b.length ≤ q.length
  cm : ∃ (g : List Int) (d : Int), d ≠ 0 ∧ g ≠ [] ∧ Tr g ∧ (∀ i, cf p i = d * M g t i) ∧ (∀ i, cf q i = d * M g b i) ∧ Cmb p q g
def sgD (s t : List Int) : Int := if lastP t < 0 then - (Int.gcd (cont s) (cont t) : Int) else (Int.gcd (cont s) (cont t) : Int)
theorem sgD_dvd (s t : List Int) (i : Nat) : sgD s t ∣ cf s i ∧ sgD s t ∣ cf t i := by
  have h1 : (Int.gcd (cont s) (cont t) : Int) ∣ cf s i := Int.dvd_trans (Int.gcd_dvd_left ..) (cont_cf s i)
  have h2 : (Int.gcd (cont s) (cont t) : Int) ∣ cf t i := Int.dvd_trans (Int.gcd_dvd_right ..) (cont_cf t i)
  unfold sgD
  split
  · exact ⟨Int.neg_dvd.mpr h1, Int.neg_dvd.mpr h2⟩
  · exact ⟨h1, h2⟩
theorem sgD_pos {s t : List Int} (tt : Tr t) (ht : t ≠ []) : 0 < Int.gcd (cont s) (cont t) := by
  have := cont_pos (tt.last_cf ht)
  exact Nat.gcd_pos_of_pos_right _ (Int.natAbs_pos.mpr (by omega))
theorem sgD_ne {s t : List Int} (tt : Tr t) (ht : t ≠ []) : sgD s t ≠ 0 := by
  have := sgD_pos (s := s) tt ht
  unfold sgD
  split <;> omega
theorem quo_of {p q g h1 h2 : List Int} {N : Nat} (hP : Prim g) (hg : g ≠ []) (tg : Tr g) (t1 : Tr h1) (t2 : Tr h2) (n2 : h2 ≠ []) (e1 : ∀ i, cf p i = M g h1 i) (e2 : ∀ i, cf q i = M g h2 i) (b1 : Bd N h1) (b2 : Bd N h2) (l1 : h1.length ≤ p.length) (l2 : h2.length ≤ q.length) (hcm : Cmb p q g) :
    Quo p q (divC (sgD h1 h2) h1) (divC (sgD h1 h2) h2) N := by
  have hs := sgD_ne (s := h1) t2 n2
  have hd1 := fun i => (sgD_dvd h1 h2 i).1
  have hd2 := fun i => (sgD_dvd h1 h2 i).2
  have c1 := divC_cf hs hd1
  have c2 := divC_cf hs hd2
  have hlen : (divC (sgD h1 h2) h2).length = h2.length := by unfold divC; simp
  refine ⟨divC_Tr hs hd1 t1, divC_Tr hs hd2 t2, fun z => n2 (List.eq_nil_of_length_eq_zero (by rw [← hlen, z]; rfl)), ?_, ⟨g, sgD h1 h2, hs, hP, hg, tg, fun i => by rw [e1, M_smul g _ c1], fun i => by rw [e2, M_smul g _ c2]⟩, fun e he1 he2 => ?_,
    fun i => Nat.lt_of_le_of_lt (divC_le hs hd1 i) (b1 i), fun i => Nat.lt_of_le_of_lt (divC_le hs hd2 i) (b2 i), by unfold divC; simpa using l1, by rw [hlen]; exact l2, ⟨g, sgD h1 h2, hs, hg, tg, fun i => by rw [e1, M_smul g _ c1], fun i => by rw [e2, M_smul g _ c2], hcm⟩⟩
  · have h := c2 (h2.length - 1)
    have hne := t2.last_cf n2
    unfold lastP
    rw [hlen]
    have hp := sgD_pos (s := h1) t2 n2
    unfold sgD at h ⊢
    unfold lastP at h ⊢
    split at h
    · rename_i hneg
      rw [if_pos hneg]
      apply Decidable.byContradiction
      intro hle
      have := Int.mul_nonneg_of_nonpos_of_nonpos (a := - (Int.gcd (cont h1) (cont h2) : Int)) (b := cf (divC (-(Int.gcd (cont h1) (cont h2) : Int)) h2) (h2.length - 1)) (by omega) (by omega)
      omega
    · rename_i hneg
      rw [if_neg hneg]
      apply Decidable.byContradiction
      intro hle
      have := Int.mul_nonneg (a := (Int.gcd (cont h1) (cont h2) : Int)) (b := - cf (divC (Int.gcd (cont h1) (cont h2) : Int) h2) (h2.length - 1)) (by omega) (by omega)
      rw [Int.mul_neg] at this
      omega
  · have k1 : sgD h1 h2 * e ∣ cont h1 := cont_great fun i => by rw [c1 i]; exact Int.mul_dvd_mul_left _ (he1 i)
    have k2 : sgD h1 h2 * e ∣ cont h2 := cont_great fun i => by rw [c2 i]; exact Int.mul_dvd_mul_left _ (he2 i)
    have k3 : sgD h1 h2 * e ∣ (Int.gcd (cont h1) (cont h2) : Int) := Int.dvd_coe_gcd k1 k2
    have k4 := Int.natAbs_dvd_natAbs.mpr k3
    rw [Int.natAbs_mul, Int.natAbs_natCast] at k4
    have hn : (sgD h1 h2).natAbs = Int.gcd (cont h1) (cont h2) := by unfold sgD; split <;> omega
    rw [hn] at k4
    have hp := sgD_pos (s := h1) t2 n2
    obtain ⟨c, hc⟩ := k4
    have k5 : Int.gcd (cont h1) (cont h2) * (e.natAbs * c) = Int.gcd (cont h1) (cont h2) * 1 := by rw [← Nat.mul_assoc, ← hc, Nat.mul_one]
    exact Nat.eq_one_of_mul_eq_one_right (Nat.eq_of_mul_eq_mul_left hp k5)
theorem Quo.vals {p q t b : List Int} {N : Nat} (h : Quo p q t b N) (n : Int) : ∃ e : Int, evP n p = e * evP n t ∧ evP n q = e * evP n b := by
  obtain ⟨g, d, _, _, _, _, e1, e2⟩ := h.ex
  have key : ∀ {r u : List Int}, (∀ i, cf r i = d * M g u i) → evP n r = (d * evP n g) * evP n u := fun {r u} e => by
    have := ev_M (n := n) (g := g.map fun a => d * a) (h := u) (r := r) fun i => by
      rw [e, M_sum, M_sum, ← sum_mul]
      congr 1
      refine List.map_congr_left fun j _ => ?_
      rw [cf_map0 (fun a => d * a) (by simp), Int.mul_left_comm]
    rw [this, ev_smul d (cf_map0 (fun a => d * a) (by simp) g)]
  exact ⟨_, key e1, key e2⟩
end PQ
set_option linter.all false
namespace PQ
/-! ### a polynomial by its values -/
theorem zero_of_ev : ∀ (p : List Int) (N : Nat), (∀ n : Int, (N : Int) < n → evP n p = 0) → ∀ i, cf p i = 0
  | [], _, _, i => by simp
  | a :: p, N, h, i => by
    have ha : a = 0 := by
      have h1 := h ((N : Int) + a.natAbs + 1) (by omega)
      have h2 : a + ((N : Int) + a.natAbs + 1) * evP ((N : Int) + a.natAbs + 1) p = 0 := h1
      have h3 : ((N : Int) + a.natAbs + 1) ∣ a := ⟨- evP ((N : Int) + a.natAbs + 1) p, by rw [Int.mul_neg]; omega⟩
      apply Classical.byContradiction
      intro hz
      have h4 := Int.natAbs_dvd_natAbs.mpr h3
      have h5 := Nat.le_of_dvd (Int.natAbs_pos.mpr hz) h4
      omega
    have hp : ∀ i, cf p i = 0 := zero_of_ev p N fun n hn => by
      have h1 : a + n * evP n p = 0 := h n hn
      rw [ha, Int.zero_add] at h1
      rcases Int.mul_eq_zero.mp h1 with z | z
      · omega
      · exact z
    cases i with
    | zero => simpa using ha
    | succ i => simpa using hp i
theorem ev_neg {n : Int} (p : List Int) : evP n (negP p) = - evP n p := by
  have := ev_smul (n := n) (p := p) (r := negP p) (-1) fun i => by rw [cf_negP]; omega
  rw [this]; omega
theorem ev_ext {p q : List Int} (h : ∀ n, evP n p = evP n q) (i : Nat) : cf p i = cf q i := by
  have h1 := zero_of_ev (addP p (negP q)) 0 (fun n _ => by rw [ev_add (cf_addP p (negP q)), ev_neg, h n]; omega) i
  rw [cf_addP, cf_negP] at h1
  omega
theorem ev_tr {n : Int} (p : List Int) : evP n (tr p) = evP n p := ev_congr (cf_tr p)
theorem cancel {g f : List Int} {j : Nat} (hg : cf g j ≠ 0) (h : ∀ n, evP n g * evP n f = 0) (i : Nat) : cf f i = 0 := by
  apply Classical.byContradiction
  intro hf
  have g0 : tr g ≠ [] := fun z => hg (by rw [← cf_tr, z]; simp)
  have f0 : tr f ≠ [] := fun z => hf (by rw [← cf_tr, z]; simp)
  have hz := zero_of_ev (mulP (tr f) (tr g)) 0 (fun n _ => by rw [ev_M (g := tr g) (h := tr f) (cf_mulP (tr f) (tr g)), ev_tr, ev_tr, h n]) ((tr f).length - 1 + (tr g).length - 1)
  have hl : 0 < (tr f).length := List.length_pos_iff.mpr f0
  rw [cf_mulP, div_top g0 (by omega)] at hz
  rcases Int.mul_eq_zero.mp hz with z | z
  · exact (tr_Tr g).last_cf g0 z
  · exact (tr_Tr f).last_cf f0 z
/-- a constant out of t and b -/
def Bez (t b : List Int) : Prop := ∃ (U V : Int → Int) (c : Int), IsP U ∧ IsP V ∧ c ≠ 0 ∧ ∀ n, c = U n * evP n t + V n * evP n b
theorem dvd_cop {a b x : Int} (h : a ∣ b * x) (hg : Int.gcd a b = 1) : a ∣ x := by
  have h1 := Int.natAbs_dvd_natAbs.mpr h
  rw [Int.natAbs_mul] at h1
  exact Int.natAbs_dvd_natAbs.mp (Nat.Coprime.dvd_of_dvd_mul_left (show Nat.Coprime a.natAbs b.natAbs from hg) h1)
theorem unit_of {c w : Int} (hc : c ≠ 0) (hw : w ≠ 0) {t1 b1 t2 b2 : List Int} (eb : ∀ i, c * cf b2 i = w * cf b1 i) (et : ∀ i, c * cf t2 i = w * cf t1 i)
    (co1 : ∀ e : Int, (∀ i, e ∣ cf t1 i) → (∀ i, e ∣ cf b1 i) → e.natAbs = 1) (co2 : ∀ e : Int, (∀ i, e ∣ cf t2 i) → (∀ i, e ∣ cf b2 i) → e.natAbs = 1) : c.natAbs = w.natAbs := by
  have hg : 0 < Int.gcd c w := Nat.gcd_pos_of_pos_left _ (Int.natAbs_pos.mpr hc)
  obtain ⟨c', hc'⟩ := Int.gcd_dvd_left c w
  obtain ⟨w', hw'⟩ := Int.gcd_dvd_right c w
  have hg0 : (Int.gcd c w : Int) ≠ 0 := by omega
  have hcop : Int.gcd c' w' = 1 := by
    have h1 : Int.gcd ((Int.gcd c w : Int) * c') ((Int.gcd c w : Int) * w') = Int.gcd c w * Int.gcd c' w' := by rw [Int.gcd_mul_left]; simp
    rw [← hc', ← hw'] at h1
    have h2 : Int.gcd c w * 1 = Int.gcd c w * Int.gcd c' w' := by rw [Nat.mul_one]; exact h1
    exact (Nat.eq_of_mul_eq_mul_left hg h2).symm
  have key : ∀ x y : Int, c * x = w * y → c' * x = w' * y := fun x y e => by
    have : (Int.gcd c w : Int) * (c' * x) = (Int.gcd c w : Int) * (w' * y) := by
      rw [← Int.mul_assoc, ← Int.mul_assoc, ← hc', ← hw', e]
    exact Int.eq_of_mul_eq_mul_left hg0 this
  have d1 : ∀ x y : Int, c' * x = w' * y → c' ∣ y := fun x y e => dvd_cop (⟨x, e.symm⟩ : c' ∣ w' * y) hcop
  have d2 : ∀ x y : Int, c' * x = w' * y → w' ∣ x := fun x y e => dvd_cop (⟨y, e⟩ : w' ∣ c' * x) (by rw [Int.gcd_comm]; exact hcop)
  have u1 : c'.natAbs = 1 := co1 c' (fun i => d1 _ _ (key _ _ (et i))) fun i => d1 _ _ (key _ _ (eb i))
  have u2 : w'.natAbs = 1 := co2 w' (fun i => d2 _ _ (key _ _ (et i))) fun i => d2 _ _ (key _ _ (eb i))
  have v1 : c.natAbs = (Int.gcd c w : Int).natAbs * c'.natAbs := by rw [← Int.natAbs_mul, ← hc']
  have v2 : w.natAbs = (Int.gcd c w : Int).natAbs * w'.natAbs := by rw [← Int.natAbs_mul, ← hw']
  rw [v1, v2, u1, u2]
theorem below {t1 b1 t2 b2 : List Int} (tb1 : Tr b1) (nb1 : b1 ≠ []) (tb2 : Tr b2) (nb2 : b2 ≠ []) (z1 : Bez t1 b1) (h : ∀ n, evP n t1 * evP n b2 = evP n t2 * evP n b1) :
    ∃ (c : Int) (w : List Int), c ≠ 0 ∧ Tr w ∧ w ≠ [] ∧ (∀ i, c * cf b2 i = M b1 w i) ∧ b2.length + 1 = b1.length + w.length := by
  obtain ⟨U, V, c, hU, hV, hc, e⟩ := z1
  obtain ⟨w0, hw0⟩ := (hU.mul (IsP.ev t2)).add (hV.mul (IsP.ev b2))
  have e1 : ∀ i, cf (b2.map fun a => c * a) i = M b1 w0 i := fun i => by
    rw [← cf_mulP]
    refine ev_ext (fun n => ?_) i
    rw [ev_smul c (cf_map0 (fun a => c * a) (by simp) b2), ev_M (g := b1) (h := w0) (cf_mulP w0 b1), hw0 n]
    have h1 := h n
    calc c * evP n b2 = (U n * evP n t1 + V n * evP n b1) * evP n b2 := by rw [← e n]
      _ = U n * (evP n t1 * evP n b2) + V n * (evP n b1 * evP n b2) := by rw [Int.add_mul, Int.mul_assoc, Int.mul_assoc]
      _ = U n * (evP n t2 * evP n b1) + V n * (evP n b1 * evP n b2) := by rw [h1]
      _ = evP n b1 * (U n * evP n t2 + V n * evP n b2) := by
        rw [Int.mul_add]
        simp only [Int.mul_assoc, Int.mul_comm, Int.mul_left_comm]
  have tcb : Tr (b2.map fun a => c * a) := fun hne => by
    rw [List.getLast_map]
    exact fun z => (Int.mul_eq_zero.mp z).elim hc (tb2 nb2)
  obtain ⟨w, tw, ew, hl, _⟩ := quot_of (one := b2.map fun a => c * a) (g := b1) ⟨w0, e1⟩ tb1 nb1 tcb
  obtain ⟨hw, hlen⟩ := hl (by simpa using nb2)
  rw [List.length_map] at hlen
  exact ⟨c, w, hc, tw, hw, fun i => by rw [← ew, cf_map0 (fun a => c * a) (by simp)], hlen⟩
theorem quo_unique {t1 b1 t2 b2 : List Int} (tt1 : Tr t1) (tt2 : Tr t2) (tb1 : Tr b1) (nb1 : b1 ≠ []) (tb2 : Tr b2) (nb2 : b2 ≠ []) (l1 : 0 < lastP b1) (l2 : 0 < lastP b2)
    (co1 : ∀ e : Int, (∀ i, e ∣ cf t1 i) → (∀ i, e ∣ cf b1 i) → e.natAbs = 1) (co2 : ∀ e : Int, (∀ i, e ∣ cf t2 i) → (∀ i, e ∣ cf b2 i) → e.natAbs = 1) (z1 : Bez t1 b1) (z2 : Bez t2 b2)
    (h : ∀ n, evP n t1 * evP n b2 = evP n t2 * evP n b1) : t1 = t2 ∧ b1 = b2 := by
  obtain ⟨c, w, hc, tw, hw, ew, hl1⟩ := below tb1 nb1 tb2 nb2 z1 h
  obtain ⟨c2, w2, hc2, tw2, hw2, ew2, hl2⟩ := below tb2 nb2 tb1 nb1 z2 fun n => (h n).symm
  have p1 : 0 < w.length := List.length_pos_iff.mpr hw
  have p2 : 0 < w2.length := List.length_pos_iff.mpr hw2
  have hlen : b1.length = b2.length := by omega
  obtain ⟨o, rfl⟩ : ∃ o, w = [o] := by
    match w, (by omega : w.length = 1) with
    | [o], _ => exact ⟨o, rfl⟩
  have ho : o ≠ 0 := by have := tw (by simp); simpa using this
  have eb : ∀ i, c * cf b2 i = o * cf b1 i := fun i => by rw [ew, M_c, Int.mul_comm]
  have et : ∀ i, c * cf t2 i = o * cf t1 i := fun i => by
    have := cancel (g := b1) (f := addP (t2.map fun a => c * a) (negP (t1.map fun a => o * a))) (tb1.last_cf nb1) (fun n => ?_) i
    · rw [cf_addP, cf_negP, cf_map0 (fun a => c * a) (by simp), cf_map0 (fun a => o * a) (by simp)] at this
      omega
    · rw [ev_add (cf_addP _ _), ev_neg, ev_smul c (cf_map0 (fun a => c * a) (by simp) t2), ev_smul o (cf_map0 (fun a => o * a) (by simp) t1)]
      have h1 := h n
      have h2 : c * evP n b2 = o * evP n b1 := by
        rw [← ev_smul c (cf_map0 (fun a => c * a) (by simp) b2), ← ev_smul o (cf_map0 (fun a => o * a) (by simp) b1)]
        exact ev_congr fun i => by rw [cf_map0 (fun a => c * a) (by simp), cf_map0 (fun a => o * a) (by simp), eb]
      have h3 : evP n b1 * (c * evP n t2) = evP n t1 * (c * evP n b2) := by
        calc evP n b1 * (c * evP n t2) = c * (evP n t2 * evP n b1) := by simp only [Int.mul_assoc, Int.mul_comm, Int.mul_left_comm]
          _ = c * (evP n t1 * evP n b2) := by rw [h1]
          _ = evP n t1 * (c * evP n b2) := Int.mul_left_comm _ _ _
      rw [Int.mul_add, Int.mul_neg, h3, h2, Int.mul_left_comm (evP n t1) o, Int.mul_left_comm (evP n b1) o, Int.mul_comm (evP n b1) (evP n t1)]
      omega
  have hu := unit_of hc ho eb et co1 co2
  have hs : c = o := by
    have h1 := eb (b2.length - 1)
    unfold lastP at l1 l2
    rw [hlen] at l1
    rcases Int.natAbs_eq_natAbs_iff.mp hu with e | e
    · exact e
    · rw [e, Int.neg_mul, ← Int.mul_neg] at h1
      have := Int.eq_of_mul_eq_mul_left ho h1
      omega
  subst hs
  exact ⟨Tr_ext tt1 tt2 fun i => (Int.eq_of_mul_eq_mul_left hc (et i)).symm, Tr_ext tb1 tb2 fun i => (Int.eq_of_mul_eq_mul_left hc (eb i)).symm⟩
theorem ev_dM {p g t : List Int} {d : Int} (e : ∀ i, cf p i = d * M g t i) (n : Int) : evP n p = d * (evP n g * evP n t) := by
  rw [← ev_M (g := g) (h := t) (cf_mulP t g)]
  exact ev_smul d fun i => by rw [e, cf_mulP]
theorem Quo.bez {p q t b : List Int} {N : Nat} (h : Quo p q t b N) : Bez t b := by
  obtain ⟨g, d, hd, hg, tg, e1, e2, U, V, c, hU, hV, hc, e⟩ := h.cm
  obtain ⟨f, hf'⟩ := ((hU.mul (IsP.ev t)).add (hV.mul (IsP.ev b)))
  have hf : ∀ n, evP n f = U n * evP n t + V n * evP n b := hf'
  have hz := cancel (g := g) (f := addP [c] (negP (f.map fun a => d * a))) (tg.last_cf hg) fun n => by
    rw [ev_add (cf_addP _ _), ev_neg, ev_smul d (cf_map0 (fun a => d * a) (by simp) f), hf n]
    have h1 := e n
    rw [ev_dM e1, ev_dM e2] at h1
    have h2 : evP n [c] = c := by simp [evP]
    rw [h2]
    have h3 : evP n g * c = evP n g * (d * (U n * evP n t + V n * evP n b)) := by
      rw [Int.mul_comm, h1, Int.mul_add, Int.mul_add]
      simp only [Int.mul_assoc, Int.mul_comm, Int.mul_left_comm]
    rw [Int.mul_add, Int.mul_neg, h3]
    omega
  have key : ∀ n, c = d * (U n * evP n t + V n * evP n b) := fun n => by
    have h1 := ev_zero (n := n) hz
    rw [ev_add (cf_addP _ _), ev_neg, ev_smul d (cf_map0 (fun a => d * a) (by simp) f), hf n] at h1
    have h2 : evP n [c] = c := by simp [evP]
    omega
  refine ⟨U, V, U 0 * evP 0 t + V 0 * evP 0 b, hU, hV, fun z => hc ?_, fun n => ?_⟩
  · have := key 0
    rw [z] at this
    simpa using this
  · exact Int.eq_of_mul_eq_mul_left hd ((key 0).symm.trans (key n))
/-- two quotients of one value are one -/
theorem Quo.unique {p1 q1 t1 b1 p2 q2 t2 b2 : List Int} {N1 N2 : Nat} (h1 : Quo p1 q1 t1 b1 N1) (h2 : Quo p2 q2 t2 b2 N2) (h : ∀ n, evP n t1 * evP n b2 = evP n t2 * evP n b1) : t1 = t2 ∧ b1 = b2 :=
  quo_unique h1.tt h2.tt h1.tb h1.nb h2.tb h2.nb h1.lb h2.lb h1.co h2.co h1.bez h2.bez h
/-- top * lower = bottom * upper -/
theorem Quo.cross {p q t b : List Int} {N : Nat} (h : Quo p q t b N) (n : Int) : evP n p * evP n b = evP n t * evP n q := by
  obtain ⟨e, e1, e2⟩ := h.vals n
  rw [e1, e2, Int.mul_assoc, Int.mul_left_comm]
end PQ
set_option linter.all false
namespace PQ
/-! ### a small nonzero answer of fewer equations than unknowns (drawers) -/
theorem pigeon : ∀ (m n : Nat) (f : Nat → Nat), (∀ i, i < n → f i < m) → m < n → ∃ i j, i < j ∧ j < n ∧ f i = f j
  | 0, n, f, h, hn => absurd (h 0 hn) (Nat.not_lt_zero _)
  | m + 1, n, f, h, hn => by
    by_cases hk : ∃ k, k < n ∧ f k = m
    · obtain ⟨k, hk, ek⟩ := hk
      by_cases h2 : ∃ j, j < n ∧ j ≠ k ∧ f j = m
      · obtain ⟨j, hj, hne, ej⟩ := h2
        rcases Nat.lt_or_gt_of_ne hne with z | z
        · exact ⟨j, k, z, hk, by rw [ej, ek]⟩
        · exact ⟨k, j, z, hj, by rw [ej, ek]⟩
      · obtain ⟨i, j, h3, h4, h5⟩ := pigeon m (n - 1) (fun i => f (if i < k then i else i + 1)) (fun i hi => by
          have a1 : (if i < k then i else i + 1) < n := by split <;> omega
          have a2 := h _ a1
          have a3 : f (if i < k then i else i + 1) ≠ m := fun z => h2 ⟨_, a1, by split <;> omega, z⟩
          show f (if i < k then i else i + 1) < m
          omega) (by omega)
        have : (if i < k then i else i + 1) < (if j < k then j else j + 1) := by
          split <;> split <;> omega
        exact ⟨_, _, this, by split <;> omega, h5⟩
    · obtain ⟨i, j, h3, h4, h5⟩ := pigeon m n f (fun i hi => by
        have a2 := h _ hi
        have a3 : f i ≠ m := fun z => hk ⟨_, hi, z⟩
        omega) (by omega)
      exact ⟨i, j, h3, h4, h5⟩
def enc (W : Nat) (y : Nat → Nat) : Nat → Nat
  | 0 => 0
  | n + 1 => enc W y n + y n * W ^ n
theorem enc_lt {W : Nat} {y : Nat → Nat} : ∀ (n : Nat), (∀ i, i < n → y i < W) → enc W y n < W ^ n
  | 0, _ => by simp [enc]
  | n + 1, h => by
    have h1 := enc_lt n fun i hi => h i (by omega)
    have h2 := h n (by omega)
    have h3 : (y n + 1) * W ^ n ≤ W * W ^ n := Nat.mul_le_mul_right _ h2
    rw [Nat.add_mul, Nat.one_mul] at h3
    rw [Nat.pow_succ, Nat.mul_comm]
    show enc W y n + y n * W ^ n < W * W ^ n
    omega
theorem enc_inj {W : Nat} {y z : Nat → Nat} : ∀ (n : Nat), (∀ i, i < n → y i < W) → (∀ i, i < n → z i < W) → enc W y n = enc W z n → ∀ i, i < n → y i = z i
  | 0, _, _, _, i, hi => absurd hi (Nat.not_lt_zero _)
  | n + 1, hy, hz, e, i, hi => by
    have h1 := enc_lt n fun i hi => hy i (by omega)
    have h2 := enc_lt n fun i hi => hz i (by omega)
    have e1 : enc W y n + y n * W ^ n = enc W z n + z n * W ^ n := e
    have hW : 0 < W ^ n := by omega
    have k1 : (enc W y n + y n * W ^ n) / W ^ n = y n := by rw [Nat.add_mul_div_right _ _ hW, Nat.div_eq_of_lt h1, Nat.zero_add]
    have k2 : (enc W z n + z n * W ^ n) / W ^ n = z n := by rw [Nat.add_mul_div_right _ _ hW, Nat.div_eq_of_lt h2, Nat.zero_add]
    have k3 : y n = z n := by rw [← k1, e1, k2]
    rw [k3] at e1
    by_cases hin : i = n
    · rw [hin]; exact k3
    · exact enc_inj n (fun i hi => hy i (by omega)) (fun i hi => hz i (by omega)) (by omega) i (by omega)
def dig (b z j : Nat) : Nat := z / b ^ j % b
theorem enc_dig {b : Nat} (hb : 0 < b) : ∀ (n z : Nat), enc b (dig b z) n = z % b ^ n
  | 0, z => by simp [enc, Nat.mod_one]
  | n + 1, z => by
    show enc b (dig b z) n + dig b z n * b ^ n = _
    rw [enc_dig hb n z, Nat.pow_succ, Nat.mod_mul]
    unfold dig
    rw [Nat.mul_comm (b ^ n)]
def lin (A : Nat → Int) (x : Nat → Int) (N : Nat) : Int := ((List.range N).map fun j => A j * x j).sum
theorem lin_succ (A x : Nat → Int) (N : Nat) : lin A x (N + 1) = lin A x N + A N * x N := by
  unfold lin
  rw [List.range_succ, List.map_append, List.sum_append]
  simp
theorem lin_sub (A x y : Nat → Int) : ∀ N, lin A (fun j => x j - y j) N = lin A x N - lin A y N
  | 0 => by simp [lin]
  | N + 1 => by rw [lin_succ, lin_succ, lin_succ, lin_sub A x y N, Int.mul_sub]; omega
theorem lin_bd {A x : Nat → Int} {k e : Nat} (hA : ∀ j, (A j).natAbs < 2 ^ k) (hx : ∀ j, (x j).natAbs < 2 ^ e) : ∀ N, (lin A x (N + 1)).natAbs < (N + 1) * 2 ^ (k + e)
  | 0 => by
    rw [lin_succ]
    have h2 := mul_lt (hA 0) (hx 0)
    simpa [lin] using h2
  | N + 1 => by
    rw [lin_succ]
    have h1 := lin_bd hA hx N
    have h2 := mul_lt (hA (N + 1)) (hx (N + 1))
    rw [Nat.add_mul (N + 1) 1, Nat.one_mul]
    omega
theorem siegel (A : Nat → Nat → Int) (Mm k l : Nat) (hA : ∀ i j, (A i j).natAbs < 2 ^ k) (hl : Mm + 1 ≤ 2 ^ l) :
    ∃ x : Nat → Int, (∃ j, j < Mm + 1 ∧ x j ≠ 0) ∧ (∀ j, (x j).natAbs < 2 ^ ((k + l + 1) * Mm + 1)) ∧ ∀ i, i < Mm → lin (A i) x (Mm + 1) = 0 := by
  by_cases hM : Mm = 0
  · subst hM
    exact ⟨fun _ => 1, ⟨0, by omega, by decide⟩, fun j => by simp, fun i hi => absurd hi (Nat.not_lt_zero _)⟩
  obtain ⟨e, he⟩ : ∃ e, e = (k + l + 1) * Mm := ⟨_, rfl⟩
  obtain ⟨P, hP⟩ : ∃ P : Nat, P = 2 ^ (k + l + e) := ⟨_, rfl⟩
  obtain ⟨B, hBd⟩ : ∃ B : Nat, B = 2 ^ e := ⟨_, rfl⟩
  have hB : 0 < B := by rw [hBd]; exact Nat.pow_pos (by decide)
  have hx : ∀ z j, ((dig B z j : Nat) : Int).natAbs < 2 ^ e := fun z j => by
    rw [Int.natAbs_natCast, ← hBd]
    exact Nat.mod_lt _ hB
  have hlin : ∀ i z, (lin (A i) (fun j => ((dig B z j : Nat) : Int)) (Mm + 1)).natAbs < P := fun i z => by
    have h1 := lin_bd (hA i) (hx z) Mm
    have h2 : (Mm + 1) * 2 ^ (k + e) ≤ 2 ^ l * 2 ^ (k + e) := Nat.mul_le_mul_right _ hl
    rw [← Nat.pow_add, show l + (k + e) = k + l + e by omega, ← hP] at h2
    omega
  obtain ⟨i, j, hij, hj, heq⟩ := pigeon ((P + P - 1) ^ Mm) (B ^ (Mm + 1)) (fun z => enc (P + P - 1) (fun i => (lin (A i) (fun j => ((dig B z j : Nat) : Int)) (Mm + 1) + P - 1).toNat) Mm)
    (fun z _ => enc_lt Mm fun i _ => by have := hlin i z; omega) (by
      have h1 : B ^ (Mm + 1) = (P + P) ^ Mm := by
        have : P + P = 2 ^ (k + l + 1 + e) := by rw [hP, show k + l + 1 + e = (k + l + e) + 1 by omega, Nat.pow_succ]; omega
        rw [this, hBd, ← Nat.pow_mul, ← Nat.pow_mul]
        congr 1
        rw [Nat.add_mul (k + l + 1), ← he, Nat.mul_succ]
        omega
      rw [h1]
      have hPp : 0 < P := by rw [hP]; exact Nat.pow_pos (by decide)
      exact Nat.pow_lt_pow_left (by omega) hM)
  have hy := enc_inj Mm (fun i' _ => by have := hlin i' i; omega) (fun i' _ => by have := hlin i' j; omega) heq
  refine ⟨fun t => ((dig B j t : Nat) : Int) - ((dig B i t : Nat) : Int), ?_, fun t => ?_, fun t ht => ?_⟩
  · apply Classical.byContradiction
    intro hno
    have hall : ∀ t, t < Mm + 1 → dig B j t = dig B i t := fun t ht => by
      apply Classical.byContradiction
      intro hne
      exact hno ⟨t, ht, by show ((dig B j t : Nat) : Int) - ((dig B i t : Nat) : Int) ≠ 0; omega⟩
    have e1 := enc_dig hB (Mm + 1) i
    have e2 := enc_dig hB (Mm + 1) j
    rw [Nat.mod_eq_of_lt (by omega)] at e1
    rw [Nat.mod_eq_of_lt hj] at e2
    have e3 : ∀ n, n ≤ Mm + 1 → enc B (dig B i) n = enc B (dig B j) n := fun n => by
      induction n with
      | zero => intro _; rfl
      | succ n ih => intro hn; show enc B (dig B i) n + _ = enc B (dig B j) n + _; rw [ih (by omega), hall n (by omega)]
    have := e3 (Mm + 1) (Nat.le_refl _)
    omega
  · have h1 := hx i t
    have h2 := hx j t
    rw [← he, Nat.pow_succ]
    show (((dig B j t : Nat) : Int) - ((dig B i t : Nat) : Int)).natAbs < _
    omega
  · rw [lin_sub]
    have := hy t ht
    have h1 := hlin t i
    have h2 := hlin t j
    omega
end PQ
set_option linter.all false
namespace PQ
theorem lin_congr {A A' x x' : Nat → Int} : ∀ N, (∀ j, j < N → A j = A' j ∧ x j = x' j) → lin A x N = lin A' x' N
  | 0, _ => by simp [lin]
  | N + 1, h => by rw [lin_succ, lin_succ, lin_congr N fun j hj => h j (by omega), (h N (by omega)).1, (h N (by omega)).2]
theorem lin_split (A x : Nat → Int) (n : Nat) : ∀ m, lin A x (n + m) = lin A x n + lin (fun j => A (n + j)) (fun j => x (n + j)) m
  | 0 => by simp [lin]
  | m + 1 => by rw [← Nat.add_assoc, lin_succ, lin_split A x n m, lin_succ]; omega
theorem lin_head (A x : Nat → Int) (n : Nat) : lin A x (n + 1) = A 0 * x 0 + lin (fun j => A (j + 1)) (fun j => x (j + 1)) n := by
  rw [Nat.add_comm, lin_split]
  have e : lin A x 1 = A 0 * x 0 := by rw [lin_succ]; simp [lin]
  rw [e]
  congr 1
  exact lin_congr n fun j _ => ⟨by rw [Nat.add_comm], by rw [Nat.add_comm]⟩
theorem M_lin (g : List Int) : ∀ (h : List Int) (n i : Nat), h.length ≤ n → M g h i = lin (fun j => if j ≤ i then cf g (i - j) else 0) (cf h) n
  | [], n, i, _ => by
    have : ∀ n, lin (fun j => if j ≤ i then cf g (i - j) else 0) (cf []) n = 0 := fun n => by
      induction n with
      | zero => simp [lin]
      | succ n ih => rw [lin_succ, ih]; simp
    rw [this]; rfl
  | c :: h, 0, i, hn => by simp at hn
  | c :: h, n + 1, 0, hn => by
    rw [lin_head]
    have : lin (fun j => if j + 1 ≤ 0 then cf g (0 - (j + 1)) else 0) (fun j => cf (c :: h) (j + 1)) n = 0 := by
      clear hn
      induction n with
      | zero => simp [lin]
      | succ n ih => rw [lin_succ, ih]; simp
    rw [this]
    simp [M, Int.mul_comm]
  | c :: h, n + 1, i + 1, hn => by
    rw [lin_head]
    have := M_lin g h n i (by simpa using hn)
    simp only [M]
    rw [this]
    simp only [cf_zero, cf_succ, Nat.zero_le, if_true, Nat.sub_zero, Nat.add_le_add_iff_right, Nat.add_sub_add_right]
    rw [Int.mul_comm]
def sA (p q : List Int) (nu i j : Nat) : Int := if j < nu then (if j ≤ i then cf p (i - j) else 0) else (if j - nu ≤ i then cf q (i - (j - nu)) else 0)
theorem sA_l {p q : List Int} {nu i j : Nat} (h : j < nu) : sA p q nu i j = if j ≤ i then cf p (i - j) else 0 := if_pos h
theorem sA_r {p q : List Int} {nu i j : Nat} : sA p q nu i (nu + j) = if j ≤ i then cf q (i - j) else 0 := by
  unfold sA
  rw [if_neg (show ¬ nu + j < nu by omega), Nat.add_sub_cancel_left]
theorem sA_bd {p q : List Int} {k : Nat} (bp : Bd k p) (bq : Bd k q) (nu i j : Nat) : (sA p q nu i j).natAbs < 2 ^ k := by
  have h0 : (0 : Int).natAbs < 2 ^ k := Nat.pow_pos (by decide)
  unfold sA
  split
  · split
    · exact bp _
    · exact h0
  · split
    · exact bq _
    · exact h0
theorem siegel_poly {p q : List Int} {k l nu nv d : Nat} (bp : Bd k p) (bq : Bd k q) (hl : nu + nv ≤ 2 ^ l) (hn : 1 ≤ nu + nv) :
    ∃ U V : List Int, U.length ≤ nu ∧ V.length ≤ nv ∧ (∃ i, cf U i ≠ 0 ∨ cf V i ≠ 0) ∧ Bd ((k + l + 1) * (nu + nv - 1) + 1) U ∧ Bd ((k + l + 1) * (nu + nv - 1) + 1) V ∧
      (∀ i, d ≤ i → i < d + (nu + nv - 1) → M p U i + M q V i = 0) ∧ ∀ i, (M p U i + M q V i).natAbs < 2 ^ (l + k + ((k + l + 1) * (nu + nv - 1) + 1)) := by
  obtain ⟨m, hm⟩ : ∃ m, nu + nv = m + 1 := ⟨nu + nv - 1, by omega⟩
  have hm' : nu + nv - 1 = m := by omega
  rw [hm']
  obtain ⟨x, ⟨j0, hj0, hx0⟩, hxb, hx⟩ := siegel (fun i => sA p q nu (d + i)) m k l (fun i j => sA_bd bp bq nu (d + i) j) (by omega)
  have hU : ∀ i, cf ((List.range nu).map x) i = if i < nu then x i else 0 := fun i => cf_range x nu i
  have hV : ∀ i, cf ((List.range nv).map fun j => x (nu + j)) i = if i < nv then x (nu + i) else 0 := fun i => cf_range _ nv i
  have hb0 : (0 : Int).natAbs < 2 ^ ((k + l + 1) * m + 1) := Nat.pow_pos (by decide)
  have hR : ∀ i, M p ((List.range nu).map x) i + M q ((List.range nv).map fun j => x (nu + j)) i = lin (sA p q nu i) x (m + 1) := fun i => by
    rw [M_lin p _ nu i (Nat.le_of_eq (by rw [List.length_map, List.length_range])), M_lin q _ nv i (Nat.le_of_eq (by rw [List.length_map, List.length_range])), ← hm, lin_split (sA p q nu i) x nu nv]
    congr 1
    · exact lin_congr nu fun j hj => ⟨(sA_l hj).symm, by rw [hU, if_pos hj]⟩
    · exact lin_congr nv fun j hj => ⟨sA_r.symm, by rw [hV, if_pos hj]⟩
  refine ⟨(List.range nu).map x, (List.range nv).map fun j => x (nu + j), by simp, by simp, ?_, fun i => ?_, fun i => ?_, fun i h1 h2 => ?_, fun i => ?_⟩
  · by_cases h : j0 < nu
    · exact ⟨j0, .inl (by rw [hU, if_pos h]; exact hx0)⟩
    · exact ⟨j0 - nu, .inr (by rw [hV, if_pos (by omega), show nu + (j0 - nu) = j0 by omega]; exact hx0)⟩
  · rw [hU]
    split
    · exact hxb _
    · exact hb0
  · rw [hV]
    split
    · exact hxb _
    · exact hb0
  · rw [hR]
    have := hx (i - d) (by omega)
    rwa [show d + (i - d) = i by omega] at this
  · rw [hR]
    have h1 := lin_bd (sA_bd bp bq nu i) hxb m
    refine Nat.lt_of_lt_of_le h1 ?_
    rw [Nat.add_assoc l k, Nat.pow_add 2 l]
    exact Nat.mul_le_mul_right _ (by omega)
end PQ
set_option linter.all false
namespace PQ
/-! ### the walk's cofactors -/
inductive Steps (b : List Int) : Nat → List Int → List Int → Prop
  | nil (a : List Int) : Steps b 0 a a
  | snoc {s : Nat} {a one : List Int} : Steps b s a one → b.length ≤ one.length → one ≠ [] → Good one → Steps b (s + 1) a (primP (stepP one b))
theorem ev_addneg (n : Int) (p q : List Int) : evP n (addP p (negP q)) = evP n p - evP n q := by
  rw [ev_add (cf_addP p (negP q)), ev_neg]; omega
theorem ev_sc (n c : Int) (p : List Int) : evP n (p.map fun a => c * a) = c * evP n p := ev_smul c (cf_map0 (fun a => c * a) (by simp) p)
theorem cf_sc (c : Int) (p : List Int) (i : Nat) : cf (p.map fun a => c * a) i = c * cf p i := cf_map0 (fun a => c * a) (by simp) p i
theorem ev_stepP (n : Int) (a b : List Int) : evP n (stepP a b) = lastP b * evP n a - lastP a * (n ^ (a.length - b.length) * evP n b) := by
  have h1 : evP n (stepP a b) = evP n (addP (a.map fun z => lastP b * z) (negP ((sh (a.length - b.length) b).map fun z => lastP a * z))) := ev_congr fun i => by
    rw [cf_stepP, cf_addP, cf_negP, cf_sc, cf_sc]; omega
  rw [h1, ev_addneg, ev_sc, ev_sc, ev_sh]
theorem ev_step (a b : List Int) : ∃ σ : Int, σ ≠ 0 ∧ ∀ n, σ * evP n (primP (stepP a b)) = lastP b * evP n a - lastP a * (n ^ (a.length - b.length) * evP n b) := by
  by_cases hs : stepP a b = []
  · refine ⟨1, by decide, fun n => ?_⟩
    rw [← ev_stepP, hs]
    simp [primP]
  · exact ⟨sgC (stepP a b), sgC_ne (stepP_Tr a b) hs, fun n => by rw [← ev_smul (r := stepP a b) (sgC (stepP a b)) (primP_cf (stepP_Tr a b) hs), ev_stepP]⟩
theorem len_of {v : List Int} {m : Nat} (tv : Tr v) (h1 : cf v (m - 1) ≠ 0) (hm : 0 < m) (h2 : ∀ i, m ≤ i → cf v i = 0) : v.length = m := by
  have a1 := cf_ge_of h2
  rw [tr_id tv] at a1
  have a2 : ¬ v.length ≤ m - 1 := fun z => h1 (cf_out z)
  omega
structure CofR (P Q : List Int) (w u v : List Int) (c : Int) : Prop where
  c0 : c ≠ 0
  ev : ∀ n, c * evP n w = evP n u * evP n P + evP n v * evP n Q
  tv : Tr v
theorem CofR.step {P Q one b u1 v1 ub vb : List Int} {c1 cb δ : Int} (h1 : CofR P Q one u1 v1 c1) (hb : CofR P Q b ub vb cb) (hd : ∀ n, evP n u1 * evP n vb - evP n v1 * evP n ub = δ) (hδ : δ ≠ 0) (lb : lastP b ≠ 0) (lo : lastP one ≠ 0) :
    ∃ u2 v2 c2 δ2 K1 K2, CofR P Q (primP (stepP one b)) u2 v2 c2 ∧ (∀ n, evP n u2 * evP n vb - evP n v2 * evP n ub = δ2) ∧ δ2 ≠ 0 ∧ K1 ≠ 0 ∧ K2 ≠ 0 ∧ ∀ i, cf v2 i = K1 * cf v1 i - K2 * cf (sh (one.length - b.length) vb) i := by
  obtain ⟨σ, hσ, es⟩ := ev_step one b
  let K1 := lastP b * cb
  let K2 := lastP one * c1
  let lc : List Int → List Int → List Int := fun x y => addP (x.map fun z => K1 * z) (negP ((sh (one.length - b.length) y).map fun z => K2 * z))
  have el : ∀ n x y, evP n (lc x y) = K1 * evP n x - K2 * (n ^ (one.length - b.length) * evP n y) := fun n x y => by
    show evP n (addP _ (negP _)) = _
    rw [ev_addneg, ev_sc, ev_sc, ev_sh]
  have n1 : K1 ≠ 0 := fun z => (Int.mul_eq_zero.mp z).elim lb hb.c0
  have n2 : K2 ≠ 0 := fun z => (Int.mul_eq_zero.mp z).elim lo h1.c0
  refine ⟨lc u1 ub, lc v1 vb, σ * c1 * cb, K1 * δ, K1, K2, ⟨fun z => ?_, fun n => ?_, tr_Tr _⟩, fun n => ?_, fun z => (Int.mul_eq_zero.mp z).elim n1 hδ, n1, n2, fun i => ?_⟩
  · rcases Int.mul_eq_zero.mp z with z | z
    · exact (Int.mul_eq_zero.mp z).elim hσ h1.c0
    · exact hb.c0 z
  · rw [el, el]
    have k1 := es n
    have k2 := h1.ev n
    have k3 := hb.ev n
    show σ * c1 * cb * _ = (lastP b * cb * _ - lastP one * c1 * _) * _ + (lastP b * cb * _ - lastP one * c1 * _) * _
    generalize evP n (primP (stepP one b)) = x at *
    generalize evP n one = x1 at *
    generalize evP n b = x2 at *
    generalize evP n u1 = x3 at *
    generalize evP n v1 = x4 at *
    generalize evP n ub = x5 at *
    generalize evP n vb = x6 at *
    generalize evP n P = x7 at *
    generalize evP n Q = x8 at *
    generalize n ^ (one.length - b.length) = x9 at *
    grind
  · rw [el, el]
    have k1 := hd n
    generalize evP n u1 = x3 at *
    generalize evP n v1 = x4 at *
    generalize evP n ub = x5 at *
    generalize evP n vb = x6 at *
    generalize n ^ (one.length - b.length) = x9 at *
    grind
  · show cf (addP _ (negP _)) i = _
    rw [cf_addP, cf_negP, cf_sc, cf_sc]; omega
structure Cof (P Q a b : List Int) : Prop where
  ex : ∃ (ua va ub vb : List Int) (ca cb δ : Int), CofR P Q a ua va ca ∧ CofR P Q b ub vb cb ∧ δ ≠ 0 ∧ (∀ n, evP n ua * evP n vb - evP n va * evP n ub = δ) ∧ vb.length + a.length = P.length + 1 ∧ va.length + b.length < vb.length + a.length
  le : b.length ≤ a.length
  lp : a.length ≤ P.length
theorem Cof.steps {P Q a b : List Int} (C : Cof P Q a b) (gb : Good b) (hb : b ≠ []) {s : Nat} {one : List Int} (S : Steps b s a one) :
    ∃ (u1 v1 ub vb : List Int) (c1 cb δ : Int), CofR P Q one u1 v1 c1 ∧ CofR P Q b ub vb cb ∧ δ ≠ 0 ∧ (∀ n, evP n u1 * evP n vb - evP n v1 * evP n ub = δ) ∧ vb.length + a.length = P.length + 1 ∧
      ((one = a ∧ v1.length + b.length < vb.length + a.length) ∨ (one.length < a.length ∧ v1.length + b.length = vb.length + a.length)) := by
  induction S with
  | nil a =>
    obtain ⟨ua, va, ub, vb, ca, cb, δ, h1, h2, h3, h4, h5, h6⟩ := C.ex
    exact ⟨ua, va, ub, vb, ca, cb, δ, h1, h2, h3, h4, h5, .inl ⟨rfl, h6⟩⟩
  | @snoc s a one S hl hne go ih =>
    obtain ⟨u1, v1, ub, vb, c1, cb, δ, h1, h2, h3, h4, h5, h6⟩ := ih C
    have lb := gb.tr.last_cf hb
    have lo := go.tr.last_cf hne
    obtain ⟨u2, v2, c2, δ2, K1, K2, k1, k2, k3, k4, k5, k6⟩ := h1.step h2 h4 h3 lb lo
    refine ⟨u2, v2, ub, vb, c2, cb, δ2, k1, h2, k3, k2, h5, .inr ?_⟩
    have hlen := stepP_len hb hl
    have hvb : vb ≠ [] := fun z => by
      have := C.lp
      rw [z, List.length_nil] at h5
      omega
    have hvp : 0 < vb.length := List.length_pos_iff.mpr hvb
    have hvl := h2.tv.last_cf hvb
    have le1 : one.length ≤ a.length := by
      rcases h6 with ⟨h, _⟩ | ⟨h, _⟩
      · rw [h]; exact Nat.le_refl _
      · exact Nat.le_of_lt h
    refine ⟨by rw [primP_len]; omega, ?_⟩
    have hbl := C.le
    have : v2.length = vb.length + (a.length - b.length) := by
      rcases h6 with ⟨h, h6⟩ | ⟨h, h6⟩
      · subst h
        refine len_of k1.tv ?_ (by omega) fun i hi => ?_
        · rw [k6, cf_out (p := v1) (by omega), cf_sh, if_neg (by omega), show vb.length + (one.length - b.length) - 1 - (one.length - b.length) = vb.length - 1 by omega]
          intro z
          have : K2 * cf vb (vb.length - 1) = 0 := by omega
          exact (Int.mul_eq_zero.mp this).elim k5 hvl
        · rw [k6, cf_out (p := v1) (by omega), cf_sh, if_neg (by omega), cf_out (p := vb) (by omega)]; simp
      · have hv1 : v1 ≠ [] := fun z => by rw [z, List.length_nil] at h6; omega
        have hv1l := h1.tv.last_cf hv1
        refine len_of k1.tv ?_ (by omega) fun i hi => ?_
        · rw [k6, cf_sh, if_neg (by omega), cf_out (p := vb) (by omega), show vb.length + (a.length - b.length) - 1 = v1.length - 1 by omega]
          intro z
          have : K1 * cf v1 (v1.length - 1) = 0 := by omega
          exact (Int.mul_eq_zero.mp this).elim k4 hv1l
        · rw [k6, cf_out (p := v1) (by omega), cf_sh, if_neg (by omega), cf_out (p := vb) (by omega)]; simp
    omega
theorem Cof.next {P Q a b : List Int} (C : Cof P Q a b) (gb : Good b) (hb : b ≠ []) {s : Nat} {one : List Int} (S : Steps b s a one) (hl : one.length < b.length) : Cof P Q b one := by
  obtain ⟨u1, v1, ub, vb, c1, cb, δ, h1, h2, h3, h4, h5, h6⟩ := C.steps gb hb S
  have hbl := C.le
  have hlp := C.lp
  have h6' : v1.length + b.length = vb.length + a.length := by
    rcases h6 with ⟨h, _⟩ | ⟨_, h⟩
    · rw [h] at hl; omega
    · exact h
  refine ⟨⟨ub, vb, u1, v1, cb, c1, -δ, h2, h1, by omega, fun n => ?_, by omega, by omega⟩, by omega, by omega⟩
  have := h4 n
  generalize evP n u1 = x3 at *
  generalize evP n v1 = x4 at *
  generalize evP n ub = x5 at *
  generalize evP n vb = x6 at *
  grind
theorem Cof.init {P Q : List Int} (tp : Tr P) (hP : P ≠ []) (tq : Tr Q) (hl : Q.length ≤ P.length) : Cof P Q (primP P) (primP Q) := by
  refine ⟨⟨[1], [], [], [1], sgC P, if Q = [] then 1 else sgC Q, 1, ⟨sgC_ne tp hP, fun n => ?_, fun h => absurd rfl h⟩, ⟨?_, fun n => ?_, fun _ => by simp⟩, by decide, fun n => by simp [evP], by rw [primP_len]; simp; omega, ?_⟩, by rw [primP_len, primP_len]; exact hl, by rw [primP_len]; exact Nat.le_refl _⟩
  · rw [← ev_smul (r := P) (sgC P) (primP_cf tp hP)]; simp [evP]
  · split
    · decide
    · rename_i h; exact sgC_ne tq h
  · split
    · rename_i h; rw [h]; simp [evP, primP]
    · rename_i h; rw [← ev_smul (r := Q) (sgC Q) (primP_cf tq h)]; simp [evP]
  · rw [primP_len, primP_len]; simp; omega
end PQ
set_option linter.all false
namespace PQ
/-! ### bits of the walk -/
theorem short_zero {P X f : List Int} (tP : Tr P) (hP : P ≠ []) (e : ∀ n, evP n X = evP n P * evP n f) (hs : ∀ i, P.length - 1 ≤ i → cf X i = 0) : ∀ i, cf f i = 0 := fun i => by
  apply Classical.byContradiction
  intro hf
  have f0 : tr f ≠ [] := fun z => hf (by rw [← cf_tr, z]; simp)
  have hl : 0 < (tr f).length := List.length_pos_iff.mpr f0
  have hp : 0 < P.length := List.length_pos_iff.mpr hP
  have e2 : ∀ i, cf X i = M P (tr f) i := fun i => by
    rw [← cf_mulP]
    refine ev_ext (fun n => ?_) i
    rw [ev_M (g := P) (h := tr f) (cf_mulP (tr f) P), e, ev_tr]
  have h1 := hs ((tr f).length - 1 + P.length - 1) (by omega)
  rw [e2, div_top hP (by omega)] at h1
  rcases Int.mul_eq_zero.mp h1 with z | z
  · exact tP.last_cf hP z
  · exact (tr_Tr f).last_cf f0 z
theorem prim_div {b : List Int} (hb : Prim b) {δ c : Int} (hδ : δ ≠ 0) (hc : c ≠ 0) {R : List Int} (e : ∀ i, δ * cf R i = c * cf b i) : ∃ m : Int, m ≠ 0 ∧ ∀ i, cf R i = m * cf b i := by
  have hg : 0 < Int.gcd δ c := Nat.gcd_pos_of_pos_left _ (Int.natAbs_pos.mpr hδ)
  obtain ⟨d', hd'⟩ := Int.gcd_dvd_left δ c
  obtain ⟨c', hc'⟩ := Int.gcd_dvd_right δ c
  have hg0 : (Int.gcd δ c : Int) ≠ 0 := by omega
  have hcop : Int.gcd d' c' = 1 := by
    have h1 : Int.gcd ((Int.gcd δ c : Int) * d') ((Int.gcd δ c : Int) * c') = Int.gcd δ c * Int.gcd d' c' := by rw [Int.gcd_mul_left]; simp
    rw [← hd', ← hc'] at h1
    have h2 : Int.gcd δ c * 1 = Int.gcd δ c * Int.gcd d' c' := by rw [Nat.mul_one]; exact h1
    exact (Nat.eq_of_mul_eq_mul_left hg h2).symm
  have key : ∀ i, d' * cf R i = c' * cf b i := fun i => by
    have : (Int.gcd δ c : Int) * (d' * cf R i) = (Int.gcd δ c : Int) * (c' * cf b i) := by
      rw [← Int.mul_assoc, ← Int.mul_assoc, ← hd', ← hc', e]
    exact Int.eq_of_mul_eq_mul_left hg0 this
  have hu := hb d' fun i => dvd_cop (⟨cf R i, (key i).symm⟩ : d' ∣ c' * cf b i) hcop
  have c0 : c' ≠ 0 := fun z => hc (by rw [hc', z]; simp)
  rcases Int.natAbs_eq_natAbs_iff.mp (show d'.natAbs = (1 : Int).natAbs from hu) with z | z
  · exact ⟨c', c0, fun i => by rw [← key, z, Int.one_mul]⟩
  · exact ⟨-c', by omega, fun i => by
      have := key i
      rw [z] at this
      rw [Int.neg_mul, ← this]
      omega⟩
theorem Bd.of_mul {k : Nat} {m : Int} {R b : List Int} (hm : m ≠ 0) (e : ∀ i, cf R i = m * cf b i) (h : Bd k R) : Bd k b := fun i => by
  have h1 := h i
  rw [e, Int.natAbs_mul] at h1
  have : 1 ≤ m.natAbs := Int.natAbs_pos.mpr hm
  exact Nat.lt_of_le_of_lt (Nat.le_mul_of_pos_left _ this) h1
def mkM (g h : List Int) : List Int := mulP h g
theorem ev_mkM (n : Int) (g h : List Int) : evP n (mkM g h) = evP n g * evP n h := ev_M (g := g) (h := h) (cf_mulP h g)
/-- two polynomials with cofactors: what is short and made of P and Q is a multiple of b -/
theorem cof_unique {P Q a b : List Int} (C : Cof P Q a b) (tP : Tr P) (hlt : b.length < a.length) (hb : b ≠ []) (pb : Prim b) (tb : Tr b) {U V : List Int} (hU : ∃ i, cf U i ≠ 0 ∨ cf V i ≠ 0) (hV : V.length ≤ P.length - a.length + 1)
    (hR : ∀ i, a.length - 1 ≤ i → M P U i + M Q V i = 0) : ∃ m : Int, m ≠ 0 ∧ ∀ i, M P U i + M Q V i = m * cf b i := by
  obtain ⟨ua, va, ub, vb, ca, cb, δ, h1, h2, h3, h4, h5, h6⟩ := C.ex
  have hlp := C.lp
  have hP : P ≠ [] := fun z => by rw [z, List.length_nil] at hlp; omega
  obtain ⟨R, hRd⟩ : ∃ R, R = addP (mkM P U) (mkM Q V) := ⟨_, rfl⟩
  have cR : ∀ i, cf R i = M P U i + M Q V i := fun i => by rw [hRd, cf_addP]; unfold mkM; rw [cf_mulP, cf_mulP]
  have eR : ∀ n, evP n R = evP n U * evP n P + evP n V * evP n Q := fun n => by rw [hRd, ev_add (cf_addP _ _), ev_mkM, ev_mkM, Int.mul_comm, Int.mul_comm (evP n Q)]
  have zR : ∀ i, a.length - 1 ≤ i → cf R i = 0 := fun i hi => by rw [cR]; exact hR i hi
  -- V ub = vb U
  have hz := short_zero (P := P) (X := addP (mkM V (b.map fun z => cb * z)) (negP (mkM vb R))) (f := addP (mkM V ub) (negP (mkM vb U))) tP hP (fun n => by
    rw [ev_addneg, ev_addneg, ev_mkM, ev_mkM, ev_mkM, ev_mkM, ev_sc, eR]
    have := h2.ev n
    generalize evP n b = x at *
    generalize evP n U = x1 at *
    generalize evP n V = x2 at *
    generalize evP n ub = x3 at *
    generalize evP n vb = x4 at *
    generalize evP n P = x5 at *
    generalize evP n Q = x6 at *
    grind) (fun i hi => by
    rw [cf_addP, cf_negP]
    have t1 : cf (mkM V (b.map fun z => cb * z)) i = 0 := by
      unfold mkM
      rw [cf_mulP]
      exact M_out _ _ _ (by rw [List.length_map]; omega)
    have t2 : cf (mkM vb R) i = 0 := by
      have : ∀ i, cf (mkM vb R) i = cf (mkM vb (tr R)) i := fun i => by unfold mkM; rw [cf_mulP, cf_mulP]; exact (M_congr vb (cf_tr R) i).symm
      rw [this]
      unfold mkM
      rw [cf_mulP]
      have := cf_ge_of zR
      exact M_out _ _ _ (by omega)
    rw [t1, t2]; rfl)
  have hvu : ∀ n, evP n V * evP n ub = evP n vb * evP n U := fun n => by
    have := ev_zero (n := n) hz
    rw [ev_addneg, ev_mkM, ev_mkM] at this
    omega
  obtain ⟨γ, hγ⟩ : ∃ γ, γ = addP (mkM ua V) (negP (mkM va U)) := ⟨_, rfl⟩
  have eγ : ∀ n, evP n γ = evP n ua * evP n V - evP n va * evP n U := fun n => by rw [hγ, ev_addneg, ev_mkM, ev_mkM]
  have kV : ∀ n, δ * evP n V = evP n vb * evP n γ := fun n => by
    rw [eγ, ← h4 n]
    have := hvu n
    generalize evP n U = x1 at *
    generalize evP n V = x2 at *
    generalize evP n ub = x3 at *
    generalize evP n vb = x4 at *
    grind
  have kU : ∀ n, δ * evP n U = evP n ub * evP n γ := fun n => by
    rw [eγ, ← h4 n]
    have := hvu n
    generalize evP n U = x1 at *
    generalize evP n V = x2 at *
    generalize evP n ub = x3 at *
    generalize evP n vb = x4 at *
    grind
  have hvb : vb ≠ [] := fun z => by rw [z, List.length_nil] at h5; omega
  -- γ is a constant
  have kc : ∀ i, cf (V.map fun z => δ * z) i = M vb (tr γ) i := fun i => by
    rw [← cf_mulP]
    refine ev_ext (fun n => ?_) i
    rw [ev_sc, ev_M (g := vb) (h := tr γ) (cf_mulP (tr γ) vb), ev_tr, kV]
  have hg0 : tr γ ≠ [] := fun z => by
    have z2 : ∀ n, evP n γ = 0 := fun n => by rw [← ev_tr, z]; rfl
    obtain ⟨i, hi⟩ := hU
    rcases hi with hi | hi
    · refine hi (ev_ext (q := []) (fun n => ?_) i)
      have := kU n
      rw [z2, Int.mul_zero] at this
      exact (Int.mul_eq_zero.mp this).resolve_left h3
    · refine hi (ev_ext (q := []) (fun n => ?_) i)
      have := kV n
      rw [z2, Int.mul_zero] at this
      exact (Int.mul_eq_zero.mp this).resolve_left h3
  have hgl : (tr γ).length = 1 := by
    have hp : 0 < (tr γ).length := List.length_pos_iff.mpr hg0
    apply Classical.byContradiction
    intro hne
    have h7 := kc ((tr γ).length - 1 + vb.length - 1)
    rw [div_top hvb (by omega), cf_out (by rw [List.length_map]; omega)] at h7
    rcases Int.mul_eq_zero.mp h7.symm with z | z
    · exact h2.tv.last_cf hvb z
    · exact (tr_Tr γ).last_cf hg0 z
  obtain ⟨o, ho⟩ : ∃ o, tr γ = [o] := by
    match h : tr γ, hgl with
    | [o], _ => exact ⟨o, rfl⟩
  have o0 : o ≠ 0 := by have := tr_Tr γ hg0; simpa [ho] using this
  have eo : ∀ n, evP n γ = o := fun n => by rw [← ev_tr, ho]; simp [evP]
  obtain ⟨m, hm, em⟩ := prim_div pb (δ := δ) (c := o * cb) (R := R) h3 (fun z => (Int.mul_eq_zero.mp z).elim o0 h2.c0) fun i => by
    rw [← cf_sc δ R, ← cf_sc (o * cb) b]
    refine ev_ext (fun n => ?_) i
    rw [ev_sc, ev_sc, eR]
    have k1 := kU n
    have k2 := kV n
    have k3 := h2.ev n
    rw [eo] at k1 k2
    generalize evP n b = x at *
    generalize evP n U = x1 at *
    generalize evP n V = x2 at *
    generalize evP n ub = x3 at *
    generalize evP n vb = x4 at *
    generalize evP n P = x5 at *
    generalize evP n Q = x6 at *
    grind
  exact ⟨m, hm, fun i => by rw [← cR, em]⟩
theorem cof_bits {P Q a b : List Int} {k l : Nat} (C : Cof P Q a b) (tP : Tr P) (hlt : b.length < a.length) (gb : Good b) (bP : Bd k P) (bQ : Bd k Q) (hq : a.length ≤ Q.length) (hl : P.length + Q.length ≤ 2 ^ l) (ha : 1 ≤ a.length) :
    Bd ((k + l + 1) * (P.length + Q.length + 2 - 2 * a.length)) b := by
  by_cases hb : b = []
  · rw [hb]; intro i; rw [cf_nil]; exact Nat.pow_pos (by decide)
  have hlp := C.lp
  obtain ⟨U, V, lU, lV, hne, bU, bV, hz, hbd⟩ := siegel_poly (p := P) (q := Q) (k := k) (l := l) (nu := Q.length - a.length + 1) (nv := P.length - a.length + 1) (d := a.length - 1) bP bQ (by omega) (by omega)
  obtain ⟨m, hm, em⟩ := cof_unique C tP hlt hb (gb.ok hb).1 gb.tr hne lV fun i hi => by
    by_cases h : i < a.length - 1 + (Q.length - a.length + 1 + (P.length - a.length + 1) - 1)
    · exact hz i hi h
    · rw [M_out P U i (by omega), M_out Q V i (by omega)]; rfl
  have key : Bd (l + k + ((k + l + 1) * (Q.length - a.length + 1 + (P.length - a.length + 1) - 1) + 1)) b := fun i => by
    have h1 := hbd i
    rw [em, Int.natAbs_mul] at h1
    have : 1 ≤ m.natAbs := Int.natAbs_pos.mpr hm
    exact Nat.lt_of_le_of_lt (Nat.le_mul_of_pos_left _ this) h1
  refine key.mono ?_
  rw [show P.length + Q.length + 2 - 2 * a.length = (Q.length - a.length + 1 + (P.length - a.length + 1) - 1) + 1 by omega, Nat.mul_succ]
  omega
end PQ
set_option linter.all false
namespace PQ
/-! ### bits of the quotient, of the walk -/
theorem prim_divF {ι : Type} {f r : ι → Int} (hf : ∀ e : Int, (∀ i, e ∣ f i) → e.natAbs = 1) {δ c : Int} (hδ : δ ≠ 0) (hc : c ≠ 0) (e : ∀ i, δ * r i = c * f i) : ∃ m : Int, m ≠ 0 ∧ ∀ i, r i = m * f i := by
  have hg : 0 < Int.gcd δ c := Nat.gcd_pos_of_pos_left _ (Int.natAbs_pos.mpr hδ)
  obtain ⟨d', hd'⟩ := Int.gcd_dvd_left δ c
  obtain ⟨c', hc'⟩ := Int.gcd_dvd_right δ c
  have hg0 : (Int.gcd δ c : Int) ≠ 0 := by omega
  have hcop : Int.gcd d' c' = 1 := by
    have h1 : Int.gcd ((Int.gcd δ c : Int) * d') ((Int.gcd δ c : Int) * c') = Int.gcd δ c * Int.gcd d' c' := by rw [Int.gcd_mul_left]; simp
    rw [← hd', ← hc'] at h1
    have h2 : Int.gcd δ c * 1 = Int.gcd δ c * Int.gcd d' c' := by rw [Nat.mul_one]; exact h1
    exact (Nat.eq_of_mul_eq_mul_left hg h2).symm
  have key : ∀ i, d' * r i = c' * f i := fun i => by
    have : (Int.gcd δ c : Int) * (d' * r i) = (Int.gcd δ c : Int) * (c' * f i) := by
      rw [← Int.mul_assoc, ← Int.mul_assoc, ← hd', ← hc', e]
    exact Int.eq_of_mul_eq_mul_left hg0 this
  have hu := hf d' fun i => dvd_cop (⟨r i, (key i).symm⟩ : d' ∣ c' * f i) hcop
  have c0 : c' ≠ 0 := fun z => hc (by rw [hc', z]; simp)
  rcases Int.natAbs_eq_natAbs_iff.mp (show d'.natAbs = (1 : Int).natAbs from hu) with z | z
  · exact ⟨c', c0, fun i => by rw [← key, z, Int.one_mul]⟩
  · exact ⟨-c', by omega, fun i => by
      have := key i
      rw [z] at this
      rw [Int.neg_mul, ← this]
      omega⟩
theorem Quo.bits {p q t b : List Int} {N k l : Nat} (h : Quo p q t b N) (bp : Bd k p) (bq : Bd k q) (hl : t.length + b.length ≤ 2 ^ l) : Bd ((k + l + 1) * (t.length + b.length)) t ∧ Bd ((k + l + 1) * (t.length + b.length)) b := by
  obtain ⟨g, d, hd, hP, hg, tg, ep, eq⟩ := h.ex
  have hbp : 0 < b.length := List.length_pos_iff.mpr h.nb
  have hgp : 0 < g.length := List.length_pos_iff.mpr hg
  obtain ⟨U, V, lU, lV, hne, bU, bV, hz, _⟩ := siegel_poly (p := p) (q := q) (k := k) (l := l) (nu := b.length) (nv := t.length) (d := g.length - 1) bp bq (by omega) (by omega)
  -- p, q as products
  have ep' : ∀ n, evP n p = d * (evP n g * evP n t) := ev_dM ep
  have eq' : ∀ n, evP n q = d * (evP n g * evP n b) := ev_dM eq
  have pl : ∀ i, g.length + t.length ≤ i + 1 → cf p i = 0 := fun i hi => by rw [ep, M_out g t i hi, Int.mul_zero]
  have ql : ∀ i, g.length + b.length ≤ i + 1 → cf q i = 0 := fun i hi => by rw [eq, M_out g b i hi, Int.mul_zero]
  have pl' : (tr p).length ≤ g.length + t.length - 1 := cf_ge_of fun i hi => pl i (by omega)
  have ql' : (tr q).length ≤ g.length + b.length - 1 := cf_ge_of fun i hi => ql i (by omega)
  have hMp : ∀ U i, M p U i = M (tr p) U i := fun U i => by
    rw [M_sum, M_sum]
    congr 1
    exact List.map_congr_left fun j _ => by rw [cf_tr]
  have hMq : ∀ U i, M q U i = M (tr q) U i := fun U i => by
    rw [M_sum, M_sum]
    congr 1
    exact List.map_congr_left fun j _ => by rw [cf_tr]
  have hz' : ∀ i, g.length - 1 ≤ i → M p U i + M q V i = 0 := fun i hi => by
    by_cases hi2 : i < g.length - 1 + (b.length + t.length - 1)
    · exact hz i hi hi2
    · have ht : t.length = 0 → tr p = [] := fun z => by
        have : t = [] := List.eq_nil_of_length_eq_zero z
        refine (tr_Tr p).nil_of fun i => ?_
        rw [cf_tr, ep, this]
        simp [M]
      have a1 : M p U i = 0 := by
        rw [hMp]
        by_cases z : t.length = 0
        · rw [ht z, M_sum]
          have : ∀ l : List Nat, (l.map fun j => cf U j * cf [] (i - j)).sum = 0 := fun l => by
            induction l with
            | nil => rfl
            | cons a l ih => rw [List.map_cons, List.sum_cons, ih]; simp
          exact this _
        · exact M_out _ _ _ (by omega)
      have a2 : M q V i = 0 := by
        rw [hMq]
        by_cases z : t.length = 0
        · have : V = [] := List.eq_nil_of_length_eq_zero (by omega)
          rw [this]; rfl
        · exact M_out _ _ _ (by omega)
      rw [a1, a2]; rfl
  have hgd : Tr (g.map fun z => d * z) := fun hn => by
    rw [List.getLast_map]
    exact fun z => (Int.mul_eq_zero.mp z).elim hd (tg hg)
  have hsz := short_zero (P := g.map fun z => d * z) (X := addP (mkM p U) (mkM q V)) (f := addP (mkM t U) (mkM b V)) hgd (by simpa using hg) (fun n => by
    rw [ev_add (cf_addP _ _), ev_add (cf_addP _ _), ev_mkM, ev_mkM, ev_mkM, ev_mkM, ep', eq', ev_sc]
    grind) (fun i hi => by
    rw [List.length_map] at hi
    rw [cf_addP]
    unfold mkM
    rw [cf_mulP, cf_mulP]
    exact hz' i hi)
  have hUV : ∀ n, evP n t * evP n U + evP n b * evP n V = 0 := fun n => by
    have := ev_zero (n := n) hsz
    rwa [ev_add (cf_addP _ _), ev_mkM, ev_mkM] at this
  obtain ⟨X, Y, c, hX, hY, hc, hbz⟩ := h.bez
  obtain ⟨x, hx⟩ := hX
  obtain ⟨y, hy⟩ := hY
  obtain ⟨γ, hγ⟩ : ∃ γ, γ = addP (mkM x V) (negP (mkM y U)) := ⟨_, rfl⟩
  have eγ : ∀ n, evP n γ = evP n x * evP n V - evP n y * evP n U := fun n => by rw [hγ, ev_addneg, ev_mkM, ev_mkM]
  have kV : ∀ n, c * evP n V = evP n t * evP n γ := fun n => by
    rw [eγ, hbz n, ← hx n, ← hy n]
    have := hUV n
    grind
  have kU : ∀ n, c * evP n U = - (evP n b * evP n γ) := fun n => by
    rw [eγ, hbz n, ← hx n, ← hy n]
    have := hUV n
    grind
  have kc : ∀ i, cf (U.map fun z => (-c) * z) i = M b (tr γ) i := fun i => by
    rw [← cf_mulP]
    refine ev_ext (fun n => ?_) i
    rw [ev_sc, ev_M (g := b) (h := tr γ) (cf_mulP (tr γ) b), ev_tr]
    have := kU n
    rw [Int.neg_mul, this, Int.neg_neg]
  have hg0 : tr γ ≠ [] := fun z => by
    have z2 : ∀ n, evP n γ = 0 := fun n => by rw [← ev_tr, z]; rfl
    obtain ⟨i, hi⟩ := hne
    rcases hi with hi | hi
    · refine hi (ev_ext (q := []) (fun n => ?_) i)
      have := kU n
      rw [z2, Int.mul_zero] at this
      exact (Int.mul_eq_zero.mp (this.trans (by decide : -(0 : Int) = 0))).resolve_left hc
    · refine hi (ev_ext (q := []) (fun n => ?_) i)
      have := kV n
      rw [z2, Int.mul_zero] at this
      exact (Int.mul_eq_zero.mp this).resolve_left hc
  have hgl : (tr γ).length = 1 := by
    have hp : 0 < (tr γ).length := List.length_pos_iff.mpr hg0
    apply Classical.byContradiction
    intro hne
    have h7 := kc ((tr γ).length - 1 + b.length - 1)
    rw [div_top h.nb (by omega), cf_out (by rw [List.length_map]; omega)] at h7
    rcases Int.mul_eq_zero.mp h7.symm with z | z
    · exact h.tb.last_cf h.nb z
    · exact (tr_Tr γ).last_cf hg0 z
  obtain ⟨o, ho⟩ : ∃ o, tr γ = [o] := by
    match h : tr γ, hgl with
    | [o], _ => exact ⟨o, rfl⟩
  have o0 : o ≠ 0 := by have := tr_Tr γ hg0; simpa [ho] using this
  have eo : ∀ n, evP n γ = o := fun n => by rw [← ev_tr, ho]; simp [evP]
  have cV : ∀ i, c * cf V i = o * cf t i := fun i => by
    rw [← cf_sc c V, ← cf_sc o t]
    exact ev_ext (fun n => by rw [ev_sc, ev_sc, kV, eo, Int.mul_comm]) i
  have cU : ∀ i, c * -(cf U i) = o * cf b i := fun i => by
    have e1 : cf (U.map fun z => (-c) * z) i = cf (b.map fun z => o * z) i := ev_ext (fun n => by
      have := kU n
      rw [ev_sc, ev_sc, Int.neg_mul, this, eo, Int.neg_neg, Int.mul_comm]) i
    rw [cf_sc, cf_sc] at e1
    rw [← e1, Int.mul_neg, Int.neg_mul]
  obtain ⟨m, hm, em⟩ := prim_divF (ι := Nat ⊕ Nat) (f := fun i => match i with | .inl i => cf t i | .inr i => cf b i) (r := fun i => match i with | .inl i => cf V i | .inr i => -(cf U i))
    (fun e he => h.co e (fun i => he (.inl i)) fun i => he (.inr i)) hc o0 (fun i => by
      cases i with
      | inl i => exact cV i
      | inr i => exact cU i)
  have hle : (k + l + 1) * (b.length + t.length - 1) + 1 ≤ (k + l + 1) * (t.length + b.length) := by
    rw [show t.length + b.length = (b.length + t.length - 1) + 1 by omega, Nat.mul_succ]
    omega
  exact ⟨(Bd.of_mul hm (fun i => em (.inl i)) bV).mono hle, (Bd.of_mul (R := negP U) hm (fun i => by rw [cf_negP]; exact em (.inr i)) fun i => by rw [cf_negP, Int.natAbs_neg]; exact bU i).mono hle⟩
/-! ### the walk -/
structure Sh2 (p0 q0 : List Int) (k kk L : Nat) (a b : List Int) : Prop where
  ga : Good a
  gb : Good b
  dv : ∀ g, Prim g → Dv g a → Dv g b → Dv g p0 ∧ Dv g q0
  ne : a ≠ [] ∨ b ≠ []
  ca : Cmb p0 q0 a
  cb : Cmb p0 q0 b
  st : (a.length < b.length ∧ a = primP p0 ∧ b = primP q0) ∨ ∃ P Q, Tr P ∧ Tr Q ∧ Bd k P ∧ Bd k Q ∧ P.length ≤ L ∧ Q.length ≤ L ∧ Cof P Q a b ∧ ((a = primP P ∧ b = primP Q) ∨ (b.length < a.length ∧ a.length ≤ Q.length))
  bd : ∃ m, Bd m a ∧ Bd m b ∧ (m ≤ k ∨ (b.length < a.length ∧ m ≤ kk * (2 * L + 2 - 2 * a.length)))
  la : a.length ≤ L
  lb : b.length ≤ L
theorem Sh2.init {p q : List Int} {k kk L : Nat} (tp : Tr p) (tq : Tr q) (hq : q ≠ []) (bp : Bd k p) (bq : Bd k q) (lp : p.length ≤ L) (lq : q.length ≤ L) : Sh2 p q k kk L (primP p) (primP q) := by
  have S := Sh.init (M0 := k + 1) (L := L) tp tq hq bp bq (Nat.le_refl _) lp lq
  refine ⟨S.ga, S.gb, S.dv, S.ne, S.ca, S.cb, ?_, ⟨k, bp.prim tp, bq.prim tq, .inl (Nat.le_refl _)⟩, S.la, S.lb⟩
  by_cases h : p.length < q.length
  · left
    rw [primP_len, primP_len]
    exact ⟨h, rfl, rfl⟩
  · right
    have hp : p ≠ [] := fun z => by
      rw [z] at h
      have : 0 < q.length := List.length_pos_iff.mpr hq
      simp at h
      exact hq h
    exact ⟨p, q, tp, tq, bp, bq, lp, lq, Cof.init tp hp tq (by omega), .inl ⟨rfl, rfl⟩⟩
theorem Sh2.done {p0 q0 a b : List Int} {k l L s m : Nat} {one : List Int} (tp : Tr p0) (tq : Tr q0) (bp : Bd k p0) (bq : Bd k q0) (lp : p0.length ≤ L) (lq : q0.length ≤ L) (hL : 2 * L ≤ 2 ^ l) (S : Sh2 p0 q0 k (k + l + 1) L a b) (hb : b ≠ []) (r : Re a b m s one) (T : Steps b s a one) (hl : one.length < b.length) :
    Sh2 p0 q0 k (k + l + 1) L b one := by
  have hbp : 0 < b.length := List.length_pos_iff.mpr hb
  refine ⟨S.gb, r.go, fun g hg d1 d2 => S.dv g hg (r.dv g hg d1 d2) d1, .inl hb, S.cb, r.cm _ _ S.ca S.cb, ?_, ?_, S.lb, by have := S.lb; omega⟩
  · rcases S.st with ⟨h1, h2, h3⟩ | ⟨P, Q, tP, tQ, bP, bQ, lP, lQ, C, h1⟩
    · cases T with
      | nil =>
        right
        refine ⟨q0, p0, tq, tp, bq, bp, lq, lp, ?_, .inl ⟨h3, h2⟩⟩
        rw [h2, h3]
        refine Cof.init tq (fun z => hb (by rw [h3, z]; rfl)) tp ?_
        rw [h2, h3, primP_len, primP_len] at h1
        omega
      | snoc T hle hne go =>
        exfalso
        have : ∀ {s a o}, Steps b s a o → o.length ≤ a.length := fun T => by
          induction T with
          | nil => exact Nat.le_refl _
          | snoc T hle hne go ih => have := stepP_len hb hle; rw [primP_len]; omega
        have := this T
        omega
    · right
      refine ⟨P, Q, tP, tQ, bP, bQ, lP, lQ, C.next S.gb hb T hl, .inr ⟨hl, ?_⟩⟩
      rcases h1 with ⟨_, h⟩ | ⟨h, h'⟩
      · rw [h, primP_len]; exact Nat.le_refl _
      · omega
  · rcases S.st with ⟨h1, h2, h3⟩ | ⟨P, Q, tP, tQ, bP, bQ, lP, lQ, C, h1⟩
    · cases T with
      | nil => exact ⟨k, by rw [h3]; exact bq.prim tq, by rw [h2]; exact bp.prim tp, .inl (Nat.le_refl _)⟩
      | snoc T hle hne go =>
        exfalso
        have : ∀ {s a o}, Steps b s a o → o.length ≤ a.length := fun T => by
          induction T with
          | nil => exact Nat.le_refl _
          | snoc T hle hne go ih => have := stepP_len hb hle; rw [primP_len]; omega
        have := this T
        omega
    · have hq : b.length ≤ Q.length := by
        rcases h1 with ⟨_, h⟩ | ⟨h, h'⟩
        · rw [h, primP_len]; exact Nat.le_refl _
        · omega
      have h2 := cof_bits (C.next S.gb hb T hl) tP hl r.go bP bQ hq (Nat.le_trans (by omega) hL) (by omega)
      have hlb := S.lb
      refine ⟨(k + l + 1) * (2 * L + 2 - 2 * b.length), ?_, h2.mono (Nat.mul_le_mul_left _ (by omega)), .inr ⟨hl, Nat.le_refl _⟩⟩
      obtain ⟨m, _, bb, hm⟩ := S.bd
      refine bb.mono ?_
      rcases hm with hm | ⟨h3, hm⟩
      · refine Nat.le_trans hm (Nat.le_trans (by omega : k ≤ (k + l + 1) * 1) (Nat.mul_le_mul_left _ (by omega)))
      · exact Nat.le_trans hm (Nat.mul_le_mul_left _ (by omega))
theorem amgm (x y : Nat) : 4 * (x * y) ≤ (x + y) * (x + y) := by
  rcases Nat.le_total x y with h | h
  · obtain ⟨d, rfl⟩ := Nat.exists_eq_add_of_le h
    grind
  · obtain ⟨d, rfl⟩ := Nat.exists_eq_add_of_le h
    grind
theorem Sh2.room {p0 q0 a b : List Int} {k kk L m : Nat} (hL : a.length ≤ L) (hk : k < kk) (hB : kk * ((L + 2) * (L + 2)) + 2 * (L + 2) ≤ 17980) (hb : b ≠ []) (hm : m ≤ k ∨ (b.length < a.length ∧ m ≤ kk * (2 * L + 2 - 2 * a.length))) : (a.length - b.length + 2) * (m + 1) ≤ 8990 := by
  have hbp : 0 < b.length := List.length_pos_iff.mpr hb
  rcases hm with hm | ⟨h1, hm⟩
  · have h2 : (a.length - b.length + 2) * (m + 1) ≤ (L + 2) * kk := Nat.mul_le_mul (by omega) (by omega)
    have h3 : 2 * ((L + 2) * kk) ≤ kk * ((L + 2) * (L + 2)) := by
      have : (L + 2) * kk * 2 ≤ (L + 2) * kk * (L + 2) := Nat.mul_le_mul_left _ (by omega)
      grind
    omega
  · have h2 : (a.length - b.length + 2) * (m + 1) ≤ (a.length + 1) * (kk * (2 * L + 2 - 2 * a.length) + 1) := Nat.mul_le_mul (by omega) (by omega)
    have h3 := amgm (a.length + 1) (L + 1 - a.length)
    rw [show a.length + 1 + (L + 1 - a.length) = L + 2 by omega] at h3
    have h4 : 4 * (kk * ((a.length + 1) * (L + 1 - a.length))) ≤ kk * ((L + 2) * (L + 2)) := by
      have := Nat.mul_le_mul_left kk h3
      rw [Nat.mul_left_comm] at this
      exact this
    have h5 : (a.length + 1) * (kk * (2 * L + 2 - 2 * a.length) + 1) = 2 * (kk * ((a.length + 1) * (L + 1 - a.length))) + (a.length + 1) := by
      rw [show 2 * L + 2 - 2 * a.length = 2 * (L + 1 - a.length) by omega]
      generalize L + 1 - a.length = y
      grind
    omega
end PQ
set_option Elab.async false
set_option linter.all false
set_option maxRecDepth 100000
set_option maxHeartbeats 0
namespace KK
open PySem PySem.Spec PyProof.Rows L2 DS
abbrev R0 : PySem.W.OpenRow := PySem.W.OpenLaw.row PySem.Challenge.rw_turnwires_k40_one_form_of_quotients
def top (i : Nat) : Stmt := PySem.Challenge.pw_turnwires_k40_one_form_of_quotients.main.body.getD i (.Pass ⟨0, 0, 0, 0⟩)
abbrev dd_Quot_eq : He.DefD := ⟨("Quot", some "__eq__"), "__eq__", "Quot.__eq__", defArgs (inClass (top 22) 9), defBody (inClass (top 22) 9), defScope (inClass (top 22) 9), [], []⟩
abbrev dd_common : He.DefD := ⟨("common", none), "common", "common", defArgs (top 7), defBody (top 7), defScope (top 7), [], []⟩
abbrev dd_content : He.DefD := ⟨("content", none), "content", "content", defArgs (top 13), defBody (top 13), defScope (top 13), [], []⟩
abbrev dd_coefficient : He.DefD := ⟨("coefficient", none), "coefficient", "coefficient", defArgs (top 12), defBody (top 12), defScope (top 12), [], []⟩
abbrev dd_trimmed : He.DefD := ⟨("trimmed", none), "trimmed", "trimmed", defArgs (top 11), defBody (top 11), defScope (top 11), [], []⟩
abbrev dd_added : He.DefD := ⟨("added", none), "added", "added", defArgs (top 15), defBody (top 15), defScope (top 15), [], []⟩
abbrev dd_negated : He.DefD := ⟨("negated", none), "negated", "negated", defArgs (top 17), defBody (top 17), defScope (top 17), [], []⟩
abbrev dd_product : He.DefD := ⟨("product", none), "product", "product", defArgs (top 16), defBody (top 16), defScope (top 16), [], []⟩
abbrev dd_divided : He.DefD := ⟨("divided", none), "divided", "divided", defArgs (top 20), defBody (top 20), defScope (top 20), [], []⟩
abbrev dd_primitive : He.DefD := ⟨("primitive", none), "primitive", "primitive", defArgs (top 14), defBody (top 14), defScope (top 14), [], []⟩
abbrev dd_rest_of : He.DefD := ⟨("rest_of", none), "rest_of", "rest_of", defArgs (top 18), defBody (top 18), defScope (top 18), [], []⟩
abbrev dd_shared : He.DefD := ⟨("shared", none), "shared", "shared", defArgs (top 19), defBody (top 19), defScope (top 19), [], []⟩
abbrev dd_Quot_init : He.DefD := ⟨("Quot", some "__init__"), "__init__", "Quot.__init__", defArgs (inClass (top 22) 0), defBody (inClass (top 22) 0), defScope (inClass (top 22) 0), [.adr (He.dflAt ("Quot", some "__init__") 0)], []⟩
abbrev dd__law_cell : He.DefD := ⟨("_law_cell", none), "_law_cell", "_law_cell", defArgs (top 31), defBody (top 31), defScope (top 31), [], []⟩
abbrev dd__law_drawn_poly : He.DefD := ⟨("_law_drawn_poly", none), "_law_drawn_poly", "_law_drawn_poly", defArgs (top 37), defBody (top 37), defScope (top 37), [], []⟩
abbrev dd__law_gcd : He.DefD := ⟨("_law_gcd", none), "_law_gcd", "_law_gcd", defArgs (top 40), defBody (top 40), defScope (top 40), [], []⟩
abbrev dd__law_gcd_of : He.DefD := ⟨("_law_gcd_of", none), "_law_gcd_of", "_law_gcd_of", defArgs (top 41), defBody (top 41), defScope (top 41), [], []⟩
abbrev dd__law_thinned : He.DefD := ⟨("_law_thinned", none), "_law_thinned", "_law_thinned", defArgs (top 42), defBody (top 42), defScope (top 42), [], []⟩
abbrev dd__law_trim : He.DefD := ⟨("_law_trim", none), "_law_trim", "_law_trim", defArgs (top 33), defBody (top 33), defScope (top 33), [], []⟩
abbrev dd__law_rest : He.DefD := ⟨("_law_rest", none), "_law_rest", "_law_rest", defArgs (top 39), defBody (top 39), defScope (top 39), [], []⟩
abbrev dd__law_is_apart : He.DefD := ⟨("_law_is_apart", none), "_law_is_apart", "_law_is_apart", defArgs (top 43), defBody (top 43), defScope (top 43), [], []⟩
abbrev dd__law_is_int : He.DefD := ⟨("_law_is_int", none), "_law_is_int", "_law_is_int", defArgs (top 44), defBody (top 44), defScope (top 44), [], []⟩
abbrev dd__law_is_row : He.DefD := ⟨("_law_is_row", none), "_law_is_row", "_law_is_row", defArgs (top 45), defBody (top 45), defScope (top 45), [], []⟩
abbrev dd__law_at_power : He.DefD := ⟨("_law_at_power", none), "_law_at_power", "_law_at_power", defArgs (top 34), defBody (top 34), defScope (top 34), [], []⟩
abbrev dd__law_times : He.DefD := ⟨("_law_times", none), "_law_times", "_law_times", defArgs (top 36), defBody (top 36), defScope (top 36), [], []⟩
abbrev dd__law_is_quot : He.DefD := ⟨("_law_is_quot", none), "_law_is_quot", "_law_is_quot", defArgs (top 46), defBody (top 46), defScope (top 46), [], []⟩
abbrev dd__law_met : He.DefD := ⟨("_law_met", none), "_law_met", "_law_met", defArgs (top 47), defBody (top 47), defScope (top 47), [], []⟩
abbrev dd__law_plus : He.DefD := ⟨("_law_plus", none), "_law_plus", "_law_plus", defArgs (top 35), defBody (top 35), defScope (top 35), [], []⟩
abbrev dd__law_row : He.DefD := ⟨("_law_row", none), "_law_row", "_law_row", defArgs (top 32), defBody (top 32), defScope (top 32), [], []⟩
abbrev dd__law_some_poly : He.DefD := ⟨("_law_some_poly", none), "_law_some_poly", "_law_some_poly", defArgs (top 38), defBody (top 38), defScope (top 38), [], []⟩
abbrev dd_law : He.DefD := ⟨("law", none), "law", "law", defArgs (top 48), defBody (top 48), defScope (top 48), [], []⟩
def fn : List He.DefD := [dd_Quot_eq, dd_common, dd_content, dd_coefficient, dd_trimmed, dd_added, dd_negated, dd_product, dd_divided, dd_primitive, dd_rest_of, dd_shared, dd_Quot_init, dd__law_cell, dd__law_drawn_poly, dd__law_gcd, dd__law_gcd_of, dd__law_thinned, dd__law_trim, dd__law_rest, dd__law_is_apart, dd__law_is_int, dd__law_is_row, dd__law_at_power, dd__law_times, dd__law_is_quot, dd__law_met, dd__law_plus, dd__law_row, dd__law_some_poly, dd_law]
abbrev level : Nat := 9
def xfile : Str := R0.prog.main.file
abbrev xd_NoQuot : XD := ⟨"NoQuot", none, xfile, "__init__", "NoQuot.__init__", defArgs (inClass (top 4) 0), defBody (inClass (top 4) 0), defScope (inClass (top 4) 0)⟩
def xs : List XD := [xd_NoQuot]
def kt_Quot : List TagN := [.i "Quot"]
def tb_int : List (TagN × Bool) := [(.non, false), (.bl, true), (.int, true), (.str, false), (.lst, false), (.tup, false), (.dk, false), (.i "Quot", false)]
def tb_bool : List (TagN × Bool) := [(.non, false), (.bl, true), (.int, false), (.str, false), (.lst, false), (.tup, false), (.dk, false), (.i "Quot", false)]
def tb_Quot : List (TagN × Bool) := [(.non, false), (.bl, false), (.int, false), (.str, false), (.lst, false), (.tup, false), (.dk, false), (.i "Quot", true)]
def tb_tuple : List (TagN × Bool) := [(.non, false), (.bl, false), (.int, false), (.str, false), (.lst, false), (.tup, true), (.dk, false), (.i "Quot", false)]
def xtb : List (Str × Str) := [("NoQuot", "NoQuot")]
def ts_m_int : PySem.W.Frag → Bool := (He.Fa.free "int").ok
def ts_m_list : PySem.W.Frag → Bool := (He.Fa.free "list").ok
def ts_m_tuple : PySem.W.Frag → Bool := (He.Fa.free "tuple").ok
def ts_ktf_Quot_init : PySem.W.Frag → Bool := tKt (He.dflAt ("Quot", some "__init__") 0) [1]
def ts_c_Quot : PySem.W.Frag → Bool := (He.Fa.cls "Quot").ok
def ts_ty_Quot : PySem.W.Frag → Bool := tTyC "Quot"
def ts_knd_Quot : PySem.W.Frag → Bool := tKnd "Quot" kt_Quot
def ts_ne_Quot : PySem.W.Frag → Bool := tNe "Quot"
def ts_is_int : PySem.W.Frag → Bool := tIsi (.ty "int") tb_int
def ts_m_isinstance : PySem.W.Frag → Bool := (He.Fa.free "isinstance").ok
def ts_is_bool : PySem.W.Frag → Bool := tIsi (.ty "bool") tb_bool
def ts_m_bool : PySem.W.Frag → Bool := (He.Fa.free "bool").ok
def ts_na_Quot_bottom : PySem.W.Frag → Bool := (He.Fa.noat "Quot" "bottom").ok
def ts_na_Quot_top : PySem.W.Frag → Bool := (He.Fa.noat "Quot" "top").ok
def ts_is_Quot : PySem.W.Frag → Bool := tIsi (.own "Quot") tb_Quot
def ts_g_of_Quot : PySem.W.Frag → Bool := (He.Fa.glo "Quot").ok
def ts_m_abs : PySem.W.Frag → Bool := (He.Fa.free "abs").ok
def ts_m_len : PySem.W.Frag → Bool := (He.Fa.free "len").ok
def ts_m_range : PySem.W.Frag → Bool := (He.Fa.free "range").ok
def ts_m_max : PySem.W.Frag → Bool := (He.Fa.free "max").ok
def ts_m_sum : PySem.W.Frag → Bool := (He.Fa.free "sum").ok
def ts_m_zip : PySem.W.Frag → Bool := (He.Fa.free "zip").ok
def ts_is_tuple : PySem.W.Frag → Bool := tIsi (.ty "tuple") tb_tuple
def ts_g_of_NoQuot : PySem.W.Frag → Bool := (He.Fa.glo "NoQuot").ok
def ts_xtb_ok : PySem.W.Frag → Bool := (tExm xtb)
def ts_sp_Quot_eq : PySem.W.Frag → Bool := tSp "Quot" "__eq__"
def ts_g_of_common : PySem.W.Frag → Bool := (He.Fa.glo "common").ok
def ts_g_of_content : PySem.W.Frag → Bool := (He.Fa.glo "content").ok
def ts_g_of_coefficient : PySem.W.Frag → Bool := (He.Fa.glo "coefficient").ok
def ts_g_of_trimmed : PySem.W.Frag → Bool := (He.Fa.glo "trimmed").ok
def ts_g_of_added : PySem.W.Frag → Bool := (He.Fa.glo "added").ok
def ts_g_of_negated : PySem.W.Frag → Bool := (He.Fa.glo "negated").ok
def ts_g_of_product : PySem.W.Frag → Bool := (He.Fa.glo "product").ok
def ts_g_of_divided : PySem.W.Frag → Bool := (He.Fa.glo "divided").ok
def ts_g_of_primitive : PySem.W.Frag → Bool := (He.Fa.glo "primitive").ok
def ts_g_of_rest_of : PySem.W.Frag → Bool := (He.Fa.glo "rest_of").ok
def ts_g_of_shared : PySem.W.Frag → Bool := (He.Fa.glo "shared").ok
def ts_mk_Quot : PySem.W.Frag → Bool := (He.Fa.mkr "Quot").ok
def ts_g_of__law_cell : PySem.W.Frag → Bool := (He.Fa.glo "_law_cell").ok
def ts_g_of__law_drawn_poly : PySem.W.Frag → Bool := (He.Fa.glo "_law_drawn_poly").ok
def ts_g_of__law_gcd : PySem.W.Frag → Bool := (He.Fa.glo "_law_gcd").ok
def ts_g_of__law_gcd_of : PySem.W.Frag → Bool := (He.Fa.glo "_law_gcd_of").ok
def ts_g_of__law_thinned : PySem.W.Frag → Bool := (He.Fa.glo "_law_thinned").ok
def ts_g_of__law_trim : PySem.W.Frag → Bool := (He.Fa.glo "_law_trim").ok
def ts_g_of__law_rest : PySem.W.Frag → Bool := (He.Fa.glo "_law_rest").ok
def ts_g_of__law_is_apart : PySem.W.Frag → Bool := (He.Fa.glo "_law_is_apart").ok
def ts_g_of__law_is_int : PySem.W.Frag → Bool := (He.Fa.glo "_law_is_int").ok
def ts_g_of__law_is_row : PySem.W.Frag → Bool := (He.Fa.glo "_law_is_row").ok
def ts_g_of__law_at_power : PySem.W.Frag → Bool := (He.Fa.glo "_law_at_power").ok
def ts_g_of__law_times : PySem.W.Frag → Bool := (He.Fa.glo "_law_times").ok
def ts_g_of__law_is_quot : PySem.W.Frag → Bool := (He.Fa.glo "_law_is_quot").ok
def ts_g_of__law_met : PySem.W.Frag → Bool := (He.Fa.glo "_law_met").ok
def ts_g_of__law_plus : PySem.W.Frag → Bool := (He.Fa.glo "_law_plus").ok
def ts_g_of__law_row : PySem.W.Frag → Bool := (He.Fa.glo "_law_row").ok
def ts_g_of__law_some_poly : PySem.W.Frag → Bool := (He.Fa.glo "_law_some_poly").ok
def ts_no_list : PySem.W.Frag → Bool := tNoList
def ts_g_of_law : PySem.W.Frag → Bool := (He.Fa.glo "law").ok
def ts : Ts := [ts_m_int, ts_m_list, ts_m_tuple, ts_ktf_Quot_init, ts_c_Quot, ts_ty_Quot, ts_knd_Quot, ts_ne_Quot, ts_is_int, ts_m_isinstance, ts_is_bool, ts_m_bool, ts_na_Quot_bottom, ts_na_Quot_top, ts_is_Quot, ts_g_of_Quot, ts_m_abs, ts_m_len, ts_m_range, ts_m_max, ts_m_sum, ts_m_zip, ts_is_tuple, ts_g_of_NoQuot, ts_xtb_ok, ts_sp_Quot_eq, ts_g_of_common, ts_g_of_content, ts_g_of_coefficient, ts_g_of_trimmed, ts_g_of_added, ts_g_of_negated, ts_g_of_product, ts_g_of_divided, ts_g_of_primitive, ts_g_of_rest_of, ts_g_of_shared, ts_mk_Quot, ts_g_of__law_cell, ts_g_of__law_drawn_poly, ts_g_of__law_gcd, ts_g_of__law_gcd_of, ts_g_of__law_thinned, ts_g_of__law_trim, ts_g_of__law_rest, ts_g_of__law_is_apart, ts_g_of__law_is_int, ts_g_of__law_is_row, ts_g_of__law_at_power, ts_g_of__law_times, ts_g_of__law_is_quot, ts_g_of__law_met, ts_g_of__law_plus, ts_g_of__law_row, ts_g_of__law_some_poly, ts_no_list, ts_g_of_law]
def hk : PySem.W.Hook := hookX 5 ts fn xs
def ob (s : PySem.W.SharedT) := lookX 5 ts fn xs (HandSHeadRun.getT s)
theorem ob_eq (s : PySem.W.SharedT) : ob s = hk.obs s.abs := lookX_eq (HandSHeadRun.getT_eq s)
def names0 : List PySem.Str := ["_wall", "WireError", "NoText", "NoQuot", "NoValue", "common", "MOST_POWER_DIGITS", "MOST_DIGITS", "trimmed", "coefficient", "content", "primitive", "added", "product", "negated", "rest_of", "shared", "divided", "value", "Quot", "quot_of", "term_text", "poly_text", "is_number", "read_term", "read_poly", "read_quot", "_law_cell", "_law_row", "_law_trim"]
def names1 : List PySem.Str := ["_law_at_power", "_law_plus", "_law_times", "_law_drawn_poly", "_law_some_poly", "_law_rest", "_law_gcd", "_law_gcd_of", "_law_thinned", "_law_is_apart", "_law_is_int", "_law_is_row", "_law_is_quot", "_law_met"]
def names : List PySem.Str := names0 ++ names1
structure Cn (P : Program) (K : PySem.W.Frag) (mg : Str → Option Value) (base : Heap) : Prop where
  X : K.In base
  G : base.Ns mainGlobals mg
  c : tellX ts fn xs K = toldX fn xs
  file : (P.main.file == xfile) = true
  top : (P.main.scope.names.lookup ("super" : Str)).isSome = false
section
variable {P : Program} {K : PySem.W.Frag} {mg : Str → Option Value} {base : Heap} (n : Cn P K mg base)
include n
theorem m_int : mg "int" = none := He.free_ok n.X n.G (factX n.c 0 rfl)
theorem m_list : mg "list" = none := He.free_ok n.X n.G (factX n.c 1 rfl)
theorem m_tuple : mg "tuple" = none := He.free_ok n.X n.G (factX n.c 2 rfl)
theorem ktf_Quot_init : KtOk K ((He.dflAt ("Quot", some "__init__") 0) K) [1] := tKt_ok (factX n.c 3 rfl)
theorem c_Quot : Cls K (He.ga K "Quot") := He.cls_ok (factX n.c 4 rfl)
theorem ty_Quot : TyC K (He.ga K "Quot") := tTyC_ok (c_Quot n) (factX n.c 5 rfl)
theorem knd_Quot : ∀ t ∈ kTs K kt_Quot, KndOk K (He.ga K "Quot") t := tKnd_ok (factX n.c 6 rfl) ⟨ty_Quot n, trivial⟩
theorem ne_Quot : PySem.W.findIn K (.ref (He.ga K "Quot")) "__ne__" = some (some (.builtin "object.__ne__")) ∧ PySem.W.mroIn K (He.ga K "Quot") (.type "object") = some true := tNe_ok (factX n.c 7 rfl)
theorem is_int : ∀ q ∈ isiT K tb_int, TagOk K (ClN.u K (.ty "int")) q := tIsi_ok (factX n.c 8 rfl) ⟨ty_Quot n, trivial⟩
theorem m_isinstance : mg "isinstance" = none := He.free_ok n.X n.G (factX n.c 9 rfl)
theorem is_bool : ∀ q ∈ isiT K tb_bool, TagOk K (ClN.u K (.ty "bool")) q := tIsi_ok (factX n.c 10 rfl) ⟨ty_Quot n, trivial⟩
theorem m_bool : mg "bool" = none := He.free_ok n.X n.G (factX n.c 11 rfl)
theorem na_Quot_bottom : NoAttr K (He.ga K "Quot") "bottom" := He.noat_ok (factX n.c 12 rfl)
theorem na_Quot_top : NoAttr K (He.ga K "Quot") "top" := He.noat_ok (factX n.c 13 rfl)
theorem is_Quot : ∀ q ∈ isiT K tb_Quot, TagOk K (ClN.u K (.own "Quot")) q := tIsi_ok (factX n.c 14 rfl) ⟨ty_Quot n, trivial⟩
theorem g_of_Quot : mg "Quot" = some (.ref (He.ga K "Quot")) := He.glo_ok n.X n.G (factX n.c 15 rfl)
theorem m_abs : mg "abs" = none := He.free_ok n.X n.G (factX n.c 16 rfl)
theorem m_len : mg "len" = none := He.free_ok n.X n.G (factX n.c 17 rfl)
theorem m_range : mg "range" = none := He.free_ok n.X n.G (factX n.c 18 rfl)
theorem m_max : mg "max" = none := He.free_ok n.X n.G (factX n.c 19 rfl)
theorem m_sum : mg "sum" = none := He.free_ok n.X n.G (factX n.c 20 rfl)
theorem m_zip : mg "zip" = none := He.free_ok n.X n.G (factX n.c 21 rfl)
theorem is_tuple : ∀ q ∈ isiT K tb_tuple, TagOk K (ClN.u K (.ty "tuple")) q := tIsi_ok (factX n.c 22 rfl) ⟨ty_Quot n, trivial⟩
theorem g_of_NoQuot : mg "NoQuot" = some (.ref (He.ga K "NoQuot")) := He.glo_ok n.X n.G (factX n.c 23 rfl)
theorem xtb_ok : TbOk K mg xtb := tExm_ok n.X n.G (factX n.c 24 rfl)
theorem sp_Quot_eq : PySem.W.findIn K (.ref (He.ga K "Quot")) "__eq__" = some (some (.ref (He.ma K (He.ga K "Quot") "__eq__"))) ∧ PySem.W.isFn K (.ref (He.ma K (He.ga K "Quot") "__eq__")) = true ∧ PySem.W.fnIn K (He.ma K (He.ga K "Quot") "__eq__") = true := tSp_ok (factX n.c 25 rfl)
theorem g_of_common : mg "common" = some (.ref (He.ga K "common")) := He.glo_ok n.X n.G (factX n.c 26 rfl)
theorem g_of_content : mg "content" = some (.ref (He.ga K "content")) := He.glo_ok n.X n.G (factX n.c 27 rfl)
theorem g_of_coefficient : mg "coefficient" = some (.ref (He.ga K "coefficient")) := He.glo_ok n.X n.G (factX n.c 28 rfl)
theorem g_of_trimmed : mg "trimmed" = some (.ref (He.ga K "trimmed")) := He.glo_ok n.X n.G (factX n.c 29 rfl)
theorem g_of_added : mg "added" = some (.ref (He.ga K "added")) := He.glo_ok n.X n.G (factX n.c 30 rfl)
theorem g_of_negated : mg "negated" = some (.ref (He.ga K "negated")) := He.glo_ok n.X n.G (factX n.c 31 rfl)
theorem g_of_product : mg "product" = some (.ref (He.ga K "product")) := He.glo_ok n.X n.G (factX n.c 32 rfl)
theorem g_of_divided : mg "divided" = some (.ref (He.ga K "divided")) := He.glo_ok n.X n.G (factX n.c 33 rfl)
theorem g_of_primitive : mg "primitive" = some (.ref (He.ga K "primitive")) := He.glo_ok n.X n.G (factX n.c 34 rfl)
theorem g_of_rest_of : mg "rest_of" = some (.ref (He.ga K "rest_of")) := He.glo_ok n.X n.G (factX n.c 35 rfl)
theorem g_of_shared : mg "shared" = some (.ref (He.ga K "shared")) := He.glo_ok n.X n.G (factX n.c 36 rfl)
theorem mk_Quot : Mk K (He.ga K "Quot") (He.ma K (He.ga K "Quot") "__init__") := He.mkr_ok (factX n.c 37 rfl)
theorem g_of__law_cell : mg "_law_cell" = some (.ref (He.ga K "_law_cell")) := He.glo_ok n.X n.G (factX n.c 38 rfl)
theorem g_of__law_drawn_poly : mg "_law_drawn_poly" = some (.ref (He.ga K "_law_drawn_poly")) := He.glo_ok n.X n.G (factX n.c 39 rfl)
theorem g_of__law_gcd : mg "_law_gcd" = some (.ref (He.ga K "_law_gcd")) := He.glo_ok n.X n.G (factX n.c 40 rfl)
theorem g_of__law_gcd_of : mg "_law_gcd_of" = some (.ref (He.ga K "_law_gcd_of")) := He.glo_ok n.X n.G (factX n.c 41 rfl)
theorem g_of__law_thinned : mg "_law_thinned" = some (.ref (He.ga K "_law_thinned")) := He.glo_ok n.X n.G (factX n.c 42 rfl)
theorem g_of__law_trim : mg "_law_trim" = some (.ref (He.ga K "_law_trim")) := He.glo_ok n.X n.G (factX n.c 43 rfl)
theorem g_of__law_rest : mg "_law_rest" = some (.ref (He.ga K "_law_rest")) := He.glo_ok n.X n.G (factX n.c 44 rfl)
theorem g_of__law_is_apart : mg "_law_is_apart" = some (.ref (He.ga K "_law_is_apart")) := He.glo_ok n.X n.G (factX n.c 45 rfl)
theorem g_of__law_is_int : mg "_law_is_int" = some (.ref (He.ga K "_law_is_int")) := He.glo_ok n.X n.G (factX n.c 46 rfl)
theorem g_of__law_is_row : mg "_law_is_row" = some (.ref (He.ga K "_law_is_row")) := He.glo_ok n.X n.G (factX n.c 47 rfl)
theorem g_of__law_at_power : mg "_law_at_power" = some (.ref (He.ga K "_law_at_power")) := He.glo_ok n.X n.G (factX n.c 48 rfl)
theorem g_of__law_times : mg "_law_times" = some (.ref (He.ga K "_law_times")) := He.glo_ok n.X n.G (factX n.c 49 rfl)
theorem g_of__law_is_quot : mg "_law_is_quot" = some (.ref (He.ga K "_law_is_quot")) := He.glo_ok n.X n.G (factX n.c 50 rfl)
theorem g_of__law_met : mg "_law_met" = some (.ref (He.ga K "_law_met")) := He.glo_ok n.X n.G (factX n.c 51 rfl)
theorem g_of__law_plus : mg "_law_plus" = some (.ref (He.ga K "_law_plus")) := He.glo_ok n.X n.G (factX n.c 52 rfl)
theorem g_of__law_row : mg "_law_row" = some (.ref (He.ga K "_law_row")) := He.glo_ok n.X n.G (factX n.c 53 rfl)
theorem g_of__law_some_poly : mg "_law_some_poly" = some (.ref (He.ga K "_law_some_poly")) := He.glo_ok n.X n.G (factX n.c 54 rfl)
theorem no_list : tNoList K = true := factX n.c 55 rfl
theorem g_of_law : mg "law" = some (.ref (He.ga K "law")) := He.glo_ok n.X n.G (factX n.c 56 rfl)
end
theorem x_NoQuot {P : Program} {w : World} {K : PySem.W.Frag} {mg : Str → Option Value} {base : Heap} (n : Cn P K mg base) : GEx0 P w K mg base "NoQuot" (He.ga K "NoQuot") := by
  obtain ⟨fd, h⟩ := excX n.c 0 (d := xd_NoQuot) rfl n.X n.G n.file n.top
  exact gex0_of h rfl rfl rfl (by decide +kernel) (by decide +kernel) (by decide +kernel) rfl (by decide +kernel) rfl rfl (fun _ => by rfl) (fun _ _ _ _ _ _ _ us hl => match us, hl with | [_], _ => rfl)
theorem bb_int : (bootBuiltins "int") = some (.type "int") := by decide +kernel
theorem bb_tuple : (bootBuiltins "tuple") = some (.type "tuple") := by decide +kernel
theorem bb_bool : (bootBuiltins "bool") = some (.type "bool") := by decide +kernel
theorem bb_abs : (bootBuiltins "abs") = some (.builtin "abs") := by decide +kernel
theorem bb_len : (bootBuiltins "len") = some (.builtin "len") := by decide +kernel
theorem bb_max : (bootBuiltins "max") = some (.builtin "max") := by decide +kernel
theorem bb_sum : (bootBuiltins "sum") = some (.builtin "sum") := by decide +kernel
abbrev s_Quot_eq_ : Stmt := (inClass (top 22) 9)
abbrev N_Quot_eq : List Str := ["self", "other"]
theorem sc_Quot_eq : FnScope N_Quot_eq ["self", "other"] (defScope s_Quot_eq_) := ⟨rfl, rfl, rfl, by decide +kernel, rfl, by decide +kernel, by decide +kernel⟩
noncomputable def b_Quot_eq (K : PySem.W.Frag) : SF := (sSeq (sIf (tAndF (tTru (eUn (opIsi (isiT K tb_int)) (bVar 1))) (tNotF (tTru (eUn (opIsi (isiT K tb_bool)) (bVar 1))))) (sRet (eAnd (eBin opEq (eUn (opFld [He.ga K "Quot"] "bottom") (bVar 0)) (eAll opTup [(eC (.int 1))])) (eBin opEq (eUn (opFld [He.ga K "Quot"] "top") (bVar 0)) (eIf (tVal (eBin opEq (bVar 1) (eC (.int 0)))) (eAll opTup []) (eAll opTup [(eVar 1)]))))) .nx) (sRet (eAnd (eUn (opIsi (isiT K tb_Quot)) (bVar 1)) (eAnd (eBin opEq (eUn (opFld [He.ga K "Quot"] "top") (bVar 0)) (eUn (opFld [He.ga K "Quot"] "top") (bVar 1))) (eBin opEq (eUn (opFld [He.ga K "Quot"] "bottom") (bVar 0)) (eUn (opFld [He.ga K "Quot"] "bottom") (bVar 1)))))))
noncomputable def f_Quot_eq (K : PySem.W.Frag) : List D → R D := runD 0 (b_Quot_eq K)
theorem ok_Quot_eq {P : Program} {w : World} {K : PySem.W.Frag} {mg : Str → Option Value} {base : Heap} (n : Cn P K mg base) : ∃ fd, FnOk P w K mg base (L2.CX P w) 1 (He.fAd K dd_Quot_eq.at_) fd ["self", "other"] (spD mg 2 (f_Quot_eq K)) ∧ Binds K fd ["self", "other"] [] ∧ PySem.W.keepIn K (.ref (He.fAd K dd_Quot_eq.at_)) = true := by
  obtain ⟨fd, F⟩ := defX n.c 0 (d := dd_Quot_eq) rfl
  exact ⟨fd, fn_ok (body := b_Quot_eq K) (He5.fun_of F) sc_Quot_eq rfl rfl (fun F W cdv A outer s H E hr tk po => (ds_cons (ds_if (dt_w (dw_and (dt_truth (DE.b (de_isi (isiT K tb_int) (by rfl) (m_isinstance n) (db_var 1) (pe_bltn (v := .ty "int") (by rfl) (m_int n) bb_int rfl) (ClN.ok (.ty "int")) (is_int n)))) (dw_and1 (dt_not (dt_truth (DE.b (de_isi (isiT K tb_bool) (by rfl) (m_isinstance n) (db_var 1) (pe_bltn (v := .ty "bool") (by rfl) (m_bool n) bb_bool rfl) (ClN.ok (.ty "bool")) (is_bool n)))))))) (ds_one (ds_ret (de_and (de_cmp (op_eqD hr.units) ok_eq (DE.b (de_fld (Cs := [He.ga K "Quot"]) (one_mem ⟨(c_Quot n), (na_Quot_bottom n)⟩) (db_var 0))) (DE.b (de_tup (da_cons de_int da_nil))) rfl) (de_one (de_cmp (op_eqD hr.units) ok_eq (DE.b (de_fld (Cs := [He.ga K "Quot"]) (one_mem ⟨(c_Quot n), (na_Quot_top n)⟩) (db_var 0))) (DE.b (de_ifExp (bb := false) (dt_cmp (op_eqD hr.units) ok_eq (db_var 1) (DE.b de_int) rfl) (de_tup da_nil) (de_tup (da_cons (de_var 1) da_nil)))) rfl))))) ds_nil) (ds_one (ds_ret (de_and (de_isi (isiT K tb_Quot) (by rfl) (m_isinstance n) (db_var 1) (pe_glob (v := .ref (He.ga K "Quot")) (by rfl) (g_of_Quot n) rfl) (ClN.ok (.own "Quot")) (is_Quot n)) (de_and (de_cmp (op_eqD hr.units) ok_eq (DE.b (de_fld (Cs := [He.ga K "Quot"]) (one_mem ⟨(c_Quot n), (na_Quot_top n)⟩) (db_var 0))) (DE.b (de_fld (Cs := [He.ga K "Quot"]) (one_mem ⟨(c_Quot n), (na_Quot_top n)⟩) (db_var 1))) rfl) (de_one (de_cmp (op_eqD hr.units) ok_eq (DE.b (de_fld (Cs := [He.ga K "Quot"]) (one_mem ⟨(c_Quot n), (na_Quot_bottom n)⟩) (db_var 0))) (DE.b (de_fld (Cs := [He.ga K "Quot"]) (one_mem ⟨(c_Quot n), (na_Quot_bottom n)⟩) (db_var 1))) rfl)))))))), (FunD.bindsN F fun _ _ _ _ _ _ us hl => match us, hl with | [_, _], _ => rfl), F.kp⟩
theorem s_Quot_eq {P : Program} {w : World} {K : PySem.W.Frag} {mg : Str → Option Value} {base : Heap} (n : Cn P K mg base) : GSp P w K mg base 1 "__eq__" (He.ga K "Quot") 2 (f_Quot_eq K) :=
  (ok_Quot_eq n).elim fun fd h => ⟨_, fd, _, h.1, ((sp_Quot_eq n)).1, ((sp_Quot_eq n)).2.1, ((sp_Quot_eq n)).2.2, h.2.1⟩
abbrev s_common_ : Stmt := (top 7)
abbrev N_common : List Str := ["a", "b"]
theorem sc_common : FnScope N_common ["a", "b"] (defScope s_common_) := ⟨rfl, rfl, rfl, by decide +kernel, rfl, by decide +kernel, by decide +kernel⟩
noncomputable def b_common (K : PySem.W.Frag) : SF := (sSeq (sWhile (tVal (eBin opNe (bVar 1) (eC (.int 0)))) (sPar 0 1 (eVar 1) (eBin opSub (bVar 0) (eBin opMul (eBin opFdiv (bVar 0) (bVar 1)) (bVar 1))))) (sRet (eAll opAbs [(bVar 0)])))
noncomputable def f_common (K : PySem.W.Frag) : List D → R D := runD 0 (b_common K)
theorem ok_common {P : Program} {w : World} {K : PySem.W.Frag} {mg : Str → Option Value} {base : Heap} (n : Cn P K mg base) : ∃ fd, FnOk P w K mg base (L2.CX P w) 1 (He.fAd K dd_common.at_) fd ["a", "b"] (spD mg 2 (f_common K)) ∧ Binds K fd ["a", "b"] [] ∧ PySem.W.keepIn K (.ref (He.fAd K dd_common.at_)) = true := by
  obtain ⟨fd, F⟩ := defX n.c 1 (d := dd_common) rfl
  exact ⟨fd, fn_ok (body := b_common K) (He5.fun_of F) sc_common rfl rfl (fun F W cdv A outer s H E hr tk po => (ds_cons (ds_while po (dt_cmp (op_neD hr.units) ok_ne (db_var 1) (DE.b de_int) rfl) (ds_one (ds_par 0 1 rfl sc_common.nd rfl rfl (by decide) rfl rfl (da_cons (de_var 1) (da_cons (de_bin op_sub ok_sub (db_var 0) (DE.b (de_bin or_mul ok_mul (DE.b (de_bin op_fdivA ok_fdiv (db_var 0) (db_var 1))) (db_var 1)))) da_nil)) (by rfl)))) (ds_one (ds_ret (de_callB call_abs ok_abs (by rfl) (m_abs n) bb_abs (da_cons (db_var 0) da_nil)))))), (FunD.bindsN F fun _ _ _ _ _ _ us hl => match us, hl with | [_, _], _ => rfl), F.kp⟩
theorem d_common {P : Program} {w : World} {K : PySem.W.Frag} {mg : Str → Option Value} {base : Heap} (n : Cn P K mg base) : GFn P w K mg base 1 "common" 2 (f_common K) :=
  (ok_common n).elim fun fd h => ⟨_, fd, _, h.1, (g_of_common n), h.2.2, h.2.1⟩
abbrev s_content_ : Stmt := (top 13)
abbrev N_content : List Str := ["poly", "found", "one"]
theorem sc_content : FnScope N_content ["poly"] (defScope s_content_) := ⟨rfl, rfl, rfl, by decide +kernel, rfl, by decide +kernel, by decide +kernel⟩
noncomputable def b_content (K : PySem.W.Frag) : SF := (sSeq (sSet 1 (eC (.int 0))) (sSeq (sFor (iSeq (eVar 0)) (gN 2) (sSet 1 (eAll (f_common K) [(eVar 1), (eVar 2)]))) (sRet (eVar 1))))
noncomputable def f_content (K : PySem.W.Frag) : List D → R D := runD 2 (b_content K)
theorem ok_content {P : Program} {w : World} {K : PySem.W.Frag} {mg : Str → Option Value} {base : Heap} (n : Cn P K mg base) : ∃ fd, FnOk P w K mg base (L2.CX P w) 2 (He.fAd K dd_content.at_) fd ["poly"] (spD mg 1 (f_content K)) ∧ Binds K fd ["poly"] [] ∧ PySem.W.keepIn K (.ref (He.fAd K dd_content.at_)) = true := by
  obtain ⟨fd, F⟩ := defX n.c 2 (d := dd_content) rfl
  exact ⟨fd, fn_ok (body := b_content K) (He5.fun_of F) sc_content rfl rfl (fun F W cdv A outer s H E hr tk po => (ds_cons (ds_set 1 sc_content.nd rfl (by first | exact Or.inl rfl | exact Or.inr rfl) de_int) (ds_cons (ds_for po rfl (di_seq (de_var 0)) (dg_name 2 sc_content.nd rfl (by first | exact Or.inl rfl | exact Or.inr rfl)) (ds_one (ds_set 1 sc_content.nd rfl (by first | exact Or.inl rfl | exact Or.inr rfl) (de_call (d_common n) hr (by rfl) tk (da_cons (de_var 1) (da_cons (de_var 2) da_nil)))))) (ds_one (ds_ret (de_var 1)))))), (FunD.bindsN F fun _ _ _ _ _ _ us hl => match us, hl with | [_], _ => rfl), F.kp⟩
theorem d_content {P : Program} {w : World} {K : PySem.W.Frag} {mg : Str → Option Value} {base : Heap} (n : Cn P K mg base) : GFn P w K mg base 2 "content" 1 (f_content K) :=
  (ok_content n).elim fun fd h => ⟨_, fd, _, h.1, (g_of_content n), h.2.2, h.2.1⟩
abbrev s_coefficient_ : Stmt := (top 12)
abbrev N_coefficient : List Str := ["poly", "at"]
theorem sc_coefficient : FnScope N_coefficient ["poly", "at"] (defScope s_coefficient_) := ⟨rfl, rfl, rfl, by decide +kernel, rfl, by decide +kernel, by decide +kernel⟩
noncomputable def b_coefficient (K : PySem.W.Frag) : SF := (sRet (eIf (tVal (eBin opLt (bVar 1) (eAll opLen [(bVar 0)]))) (eBin opIx (bVar 0) (bVar 1)) (eC (.int 0))))
noncomputable def f_coefficient (K : PySem.W.Frag) : List D → R D := runD 0 (b_coefficient K)
theorem ok_coefficient {P : Program} {w : World} {K : PySem.W.Frag} {mg : Str → Option Value} {base : Heap} (n : Cn P K mg base) : ∃ fd, FnOk P w K mg base (L2.CX P w) 1 (He.fAd K dd_coefficient.at_) fd ["poly", "at"] (spD mg 2 (f_coefficient K)) ∧ Binds K fd ["poly", "at"] [] ∧ PySem.W.keepIn K (.ref (He.fAd K dd_coefficient.at_)) = true := by
  obtain ⟨fd, F⟩ := defX n.c 3 (d := dd_coefficient) rfl
  exact ⟨fd, fn_ok (body := b_coefficient K) (He5.fun_of F) sc_coefficient rfl rfl (fun F W cdv A outer s H E hr tk po => (ds_one (ds_ret (de_ifExp (bb := false) (dt_cmp op_lt ok_lt (db_var 1) (DE.b (de_callB or_len ok_len (by rfl) (m_len n) bb_len (da_cons (db_var 0) da_nil))) rfl) (de_sub hr.units (db_var 0) (db_var 1) (fun _ _ => rfl)) de_int)))), (FunD.bindsN F fun _ _ _ _ _ _ us hl => match us, hl with | [_, _], _ => rfl), F.kp⟩
theorem d_coefficient {P : Program} {w : World} {K : PySem.W.Frag} {mg : Str → Option Value} {base : Heap} (n : Cn P K mg base) : GFn P w K mg base 1 "coefficient" 2 (f_coefficient K) :=
  (ok_coefficient n).elim fun fd h => ⟨_, fd, _, h.1, (g_of_coefficient n), h.2.2, h.2.1⟩
abbrev s_trimmed_ : Stmt := (top 11)
abbrev N_trimmed : List Str := ["coefficients", "many", "spot"]
theorem sc_trimmed : FnScope N_trimmed ["coefficients"] (defScope s_trimmed_) := ⟨rfl, rfl, rfl, by decide +kernel, rfl, by decide +kernel, by decide +kernel⟩
noncomputable def b_trimmed (K : PySem.W.Frag) : SF := (sSeq (sSet 1 (eAll (opLenK ((He.dflAt ("Quot", some "__init__") 0) K) [1]) [(bVar 0)])) (sSeq (sWhile (tAndF (tVal (eBin opGt (bVar 1) (eC (.int 0)))) (tVal (eBin opEq (eBin (opIxK ((He.dflAt ("Quot", some "__init__") 0) K) [1]) (bVar 0) (eBin opSub (bVar 1) (eC (.int 1)))) (eC (.int 0))))) (sSet 1 (eBin opSub (bVar 1) (eC (.int 1))))) (sRet (eAll opTuple [(eN (nLc (iAll opRange1 [(bVar 1)]) (gN 2) tYesF (eBin (opIxK ((He.dflAt ("Quot", some "__init__") 0) K) [1]) (bVar 0) (bVar 2)) [2]))]))))
noncomputable def f_trimmed (K : PySem.W.Frag) : List D → R D := runB 2 (b_trimmed K)
theorem ok_trimmed {P : Program} {w : World} {K : PySem.W.Frag} {mg : Str → Option Value} {base : Heap} (n : Cn P K mg base) : ∃ fd, FnOk P w K mg base (L2.CX P w) 1 (He.fAd K dd_trimmed.at_) fd ["coefficients"] (spB mg 1 (f_trimmed K)) ∧ Binds K fd ["coefficients"] [] ∧ PySem.W.keepIn K (.ref (He.fAd K dd_trimmed.at_)) = true := by
  obtain ⟨fd, F⟩ := defX n.c 4 (d := dd_trimmed) rfl
  exact ⟨fd, fn_okB (body := b_trimmed K) (He5.fun_of F) sc_trimmed rfl rfl (fun F W cdv A outer s H E hr tk po => (ds_cons (ds_set 1 sc_trimmed.nd rfl (by first | exact Or.inl rfl | exact Or.inr rfl) (de_callB or_len (ok_lenK (ktf_Quot_init n)) (by rfl) (m_len n) bb_len (da_cons (db_var 0) da_nil))) (ds_cons (ds_while po (dt_w (dw_and (dt_cmp op_gt ok_gt (db_var 1) (DE.b de_int) rfl) (dw_and1 (dt_cmp (op_eqD hr.units) ok_eq (DE.b (de_subK (ktf_Quot_init n) hr.units (db_var 0) (DE.b (de_bin op_sub ok_sub (db_var 1) (DE.b de_int))) (fun _ _ => rfl))) (DE.b de_int) rfl)))) (ds_one (ds_set 1 sc_trimmed.nd rfl (by first | exact Or.inl rfl | exact Or.inr rfl) (de_bin op_sub ok_sub (db_var 1) (DE.b de_int))))) (ds_one (ds_ret (de_callTy call_tuple_of ok_tuple (by rfl) (m_tuple n) bb_tuple (da_cons (DE.b (DN.de (dn_lc [("spot", 2)] rfl sc_trimmed.nd (di_range1 (by rfl) (m_range n) (da_cons (db_var 1) da_nil)) (blkOk_by (N := N_trimmed) (sc := (defScope s_trimmed_)) (own := [("spot", 2)]) (by decide +kernel)) (fun F s H C cl fp => (dg_name 2 sc_trimmed.nd rfl (by first | exact Or.inl rfl | exact Or.inr rfl))) (fun F s H C cl fp => dts_nil) (fun F s H C cl fp => (de_subK (ktf_Quot_init n) hr.units (db_var 0) (db_var 2) (fun _ _ => rfl))) (by decide)))) da_nil))))))), (FunD.bindsN F fun _ _ _ _ _ _ us hl => match us, hl with | [_], _ => rfl), F.kp⟩
theorem d_trimmed {P : Program} {w : World} {K : PySem.W.Frag} {mg : Str → Option Value} {base : Heap} (n : Cn P K mg base) : GFnB P w K mg base 1 "trimmed" 1 (f_trimmed K) :=
  (ok_trimmed n).elim fun fd h => ⟨_, fd, _, h.1, (g_of_trimmed n), h.2.2, h.2.1⟩
abbrev s_added_ : Stmt := (top 15)
abbrev N_added : List Str := ["one", "two", "many", "spot"]
theorem sc_added : FnScope N_added ["one", "two"] (defScope s_added_) := ⟨rfl, rfl, rfl, by decide +kernel, rfl, by decide +kernel, by decide +kernel⟩
noncomputable def b_added (K : PySem.W.Frag) : SF := (sSeq (sSet 2 (eAll opMax [(eN (nAll nLst [(eAll opLen [(bVar 0)]), (eAll opLen [(bVar 1)])]))])) (sRet (eAll (f_trimmed K) [(eN (nLc (iAll opRange1 [(bVar 2)]) (gN 3) tYesF (eBin opAdd (eAll (f_coefficient K) [(eVar 0), (eVar 3)]) (eAll (f_coefficient K) [(eVar 1), (eVar 3)])) [3]))])))
noncomputable def f_added (K : PySem.W.Frag) : List D → R D := runD 2 (b_added K)
theorem ok_added {P : Program} {w : World} {K : PySem.W.Frag} {mg : Str → Option Value} {base : Heap} (n : Cn P K mg base) : ∃ fd, FnOk P w K mg base (L2.CX P w) 2 (He.fAd K dd_added.at_) fd ["one", "two"] (spD mg 2 (f_added K)) ∧ Binds K fd ["one", "two"] [] ∧ PySem.W.keepIn K (.ref (He.fAd K dd_added.at_)) = true := by
  obtain ⟨fd, F⟩ := defX n.c 5 (d := dd_added) rfl
  exact ⟨fd, fn_ok (body := b_added K) (He5.fun_of F) sc_added rfl rfl (fun F W cdv A outer s H E hr tk po => (ds_cons (ds_set 2 sc_added.nd rfl (by first | exact Or.inl rfl | exact Or.inr rfl) (de_callB (cr_max rfl) ok_max (by rfl) (m_max n) bb_max (da_cons (DE.b (DN.de (dn_lst (da_cons (de_callB or_len ok_len (by rfl) (m_len n) bb_len (da_cons (db_var 0) da_nil)) (da_cons (de_callB or_len ok_len (by rfl) (m_len n) bb_len (da_cons (db_var 1) da_nil)) da_nil))))) da_nil))) (ds_one (ds_ret (de_callB' (d_trimmed n) hr (by rfl) tk (da_cons (DE.b (DN.de (dn_lc [("spot", 3)] rfl sc_added.nd (di_range1 (by rfl) (m_range n) (da_cons (db_var 2) da_nil)) (blkOk_by (N := N_added) (sc := (defScope s_added_)) (own := [("spot", 3)]) (by decide +kernel)) (fun F s H C cl fp => (dg_name 3 sc_added.nd rfl (by first | exact Or.inl rfl | exact Or.inr rfl))) (fun F s H C cl fp => dts_nil) (fun F s H C cl fp => (de_bin or_add ok_add (DE.b (de_call (d_coefficient n) hr (by rfl) DS.takes0 (da_cons (de_var 0) (da_cons (de_var 3) da_nil)))) (DE.b (de_call (d_coefficient n) hr (by rfl) DS.takes0 (da_cons (de_var 1) (da_cons (de_var 3) da_nil)))))) (by decide)))) da_nil)))))), (FunD.bindsN F fun _ _ _ _ _ _ us hl => match us, hl with | [_, _], _ => rfl), F.kp⟩
theorem d_added {P : Program} {w : World} {K : PySem.W.Frag} {mg : Str → Option Value} {base : Heap} (n : Cn P K mg base) : GFn P w K mg base 2 "added" 2 (f_added K) :=
  (ok_added n).elim fun fd h => ⟨_, fd, _, h.1, (g_of_added n), h.2.2, h.2.1⟩
abbrev s_negated_ : Stmt := (top 17)
abbrev N_negated : List Str := ["poly", "one"]
theorem sc_negated : FnScope N_negated ["poly"] (defScope s_negated_) := ⟨rfl, rfl, rfl, by decide +kernel, rfl, by decide +kernel, by decide +kernel⟩
noncomputable def b_negated (K : PySem.W.Frag) : SF := (sRet (eAll opTuple [(eN (nLc (iSeq (eVar 0)) (gN 1) tYesF (eUn opNeg (bVar 1)) [1]))]))
noncomputable def f_negated (K : PySem.W.Frag) : List D → R D := runD 1 (b_negated K)
theorem ok_negated {P : Program} {w : World} {K : PySem.W.Frag} {mg : Str → Option Value} {base : Heap} (n : Cn P K mg base) : ∃ fd, FnOk P w K mg base (L2.CX P w) 1 (He.fAd K dd_negated.at_) fd ["poly"] (spD mg 1 (f_negated K)) ∧ Binds K fd ["poly"] [] ∧ PySem.W.keepIn K (.ref (He.fAd K dd_negated.at_)) = true := by
  obtain ⟨fd, F⟩ := defX n.c 6 (d := dd_negated) rfl
  exact ⟨fd, fn_ok (body := b_negated K) (He5.fun_of F) sc_negated rfl rfl (fun F W cdv A outer s H E hr tk po => (ds_one (ds_ret (de_callTy call_tuple_of ok_tuple (by rfl) (m_tuple n) bb_tuple (da_cons (DE.b (DN.de (dn_lc [("one", 1)] rfl sc_negated.nd (di_seq (de_var 0)) (blkOk_by (N := N_negated) (sc := (defScope s_negated_)) (own := [("one", 1)]) (by decide +kernel)) (fun F s H C cl fp => (dg_name 1 sc_negated.nd rfl (by first | exact Or.inl rfl | exact Or.inr rfl))) (fun F s H C cl fp => dts_nil) (fun F s H C cl fp => (de_un un_neg ok_neg (db_var 1))) (by decide)))) da_nil))))), (FunD.bindsN F fun _ _ _ _ _ _ us hl => match us, hl with | [_], _ => rfl), F.kp⟩
theorem d_negated {P : Program} {w : World} {K : PySem.W.Frag} {mg : Str → Option Value} {base : Heap} (n : Cn P K mg base) : GFn P w K mg base 1 "negated" 1 (f_negated K) :=
  (ok_negated n).elim fun fd h => ⟨_, fd, _, h.1, (g_of_negated n), h.2.2, h.2.1⟩
abbrev s_product_ : Stmt := (top 16)
abbrev N_product : List Str := ["one", "two", "out", "at", "k"]
theorem sc_product : FnScope N_product ["one", "two"] (defScope s_product_) := ⟨rfl, rfl, rfl, by decide +kernel, rfl, by decide +kernel, by decide +kernel⟩
noncomputable def b_product (K : PySem.W.Frag) : SF := (sSeq (sSetN 2 (nAll nLst [])) (sSeq (sFor (iAll opRange1 [(eBin opAdd (eAll opLen [(bVar 0)]) (eAll opLen [(bVar 1)]))]) (gN 3) (sApp 2 (eAll opSum [(eN (nLc (iAll opRange1 [(eAll opLen [(bVar 0)])]) (gN 4) (tVal (eBin opLe (bVar 4) (bVar 3))) (eBin opMul (eBin opIx (bVar 0) (bVar 4)) (eAll (f_coefficient K) [(eVar 1), (eBin opSub (bVar 3) (bVar 4))])) [4]))]))) (sRet (eAll (f_trimmed K) [(bVar 2)]))))
noncomputable def f_product (K : PySem.W.Frag) : List D → R D := runD 3 (b_product K)
theorem ok_product {P : Program} {w : World} {K : PySem.W.Frag} {mg : Str → Option Value} {base : Heap} (n : Cn P K mg base) : ∃ fd, FnOk P w K mg base (L2.CX P w) 2 (He.fAd K dd_product.at_) fd ["one", "two"] (spD mg 2 (f_product K)) ∧ Binds K fd ["one", "two"] [] ∧ PySem.W.keepIn K (.ref (He.fAd K dd_product.at_)) = true := by
  obtain ⟨fd, F⟩ := defX n.c 7 (d := dd_product) rfl
  exact ⟨fd, fn_ok (body := b_product K) (He5.fun_of F) sc_product rfl rfl (fun F W cdv A outer s H E hr tk po => (ds_cons (ds_setN 2 sc_product.nd rfl (by first | exact Or.inl rfl | exact Or.inr rfl) (dn_lst da_nil)) (ds_cons (ds_for po rfl (di_range1 (by rfl) (m_range n) (da_cons (DE.b (de_bin or_add ok_add (DE.b (de_callB or_len ok_len (by rfl) (m_len n) bb_len (da_cons (db_var 0) da_nil))) (DE.b (de_callB or_len ok_len (by rfl) (m_len n) bb_len (da_cons (db_var 1) da_nil))))) da_nil)) (dg_name 3 sc_product.nd rfl (by first | exact Or.inl rfl | exact Or.inr rfl)) (ds_one (ds_append 2 (de_callB (cr_sum rfl) ok_sum (by rfl) (m_sum n) bb_sum (da_cons (DE.b (DN.de (dn_lc [("k", 4)] rfl sc_product.nd (di_range1 (by rfl) (m_range n) (da_cons (DE.b (de_callB or_len ok_len (by rfl) (m_len n) bb_len (da_cons (db_var 0) da_nil))) da_nil)) (blkOk_by (N := N_product) (sc := (defScope s_product_)) (own := [("k", 4)]) (by decide +kernel)) (fun F s H C cl fp => (dg_name 4 sc_product.nd rfl (by first | exact Or.inl rfl | exact Or.inr rfl))) (fun F s H C cl fp => (dts_one (dt_cmp op_le ok_le (db_var 4) (db_var 3) rfl))) (fun F s H C cl fp => (de_bin or_mul ok_mul (DE.b (de_sub hr.units (db_var 0) (db_var 4) (fun _ _ => rfl))) (DE.b (de_call (d_coefficient n) hr (by rfl) DS.takes0 (da_cons (de_var 1) (da_cons (de_bin op_sub ok_sub (db_var 3) (db_var 4)) da_nil)))))) (by decide)))) da_nil))))) (ds_one (ds_ret (de_callB' (d_trimmed n) hr (by rfl) tk (da_cons (db_var 2) da_nil))))))), (FunD.bindsN F fun _ _ _ _ _ _ us hl => match us, hl with | [_, _], _ => rfl), F.kp⟩
theorem d_product {P : Program} {w : World} {K : PySem.W.Frag} {mg : Str → Option Value} {base : Heap} (n : Cn P K mg base) : GFn P w K mg base 2 "product" 2 (f_product K) :=
  (ok_product n).elim fun fd h => ⟨_, fd, _, h.1, (g_of_product n), h.2.2, h.2.1⟩
abbrev s_divided_ : Stmt := (top 20)
abbrev N_divided : List Str := ["one", "two", "out", "at", "number"]
theorem sc_divided : FnScope N_divided ["one", "two"] (defScope s_divided_) := ⟨rfl, rfl, rfl, by decide +kernel, rfl, by decide +kernel, by decide +kernel⟩
noncomputable def b_divided (K : PySem.W.Frag) : SF := (sSeq (sSetN 2 (nAll nLst [])) (sSeq (sFor (iAll opRange3 [(eBin opSub (eAll opLen [(bVar 0)]) (eAll opLen [(bVar 1)])), (eUn opNeg (eC (.int 1))), (eUn opNeg (eC (.int 1)))]) (gN 3) (sSeq (sSet 4 (eBin opFdiv (eAll (f_coefficient K) [(eVar 0), (eBin opSub (eBin opAdd (bVar 3) (eAll opLen [(bVar 1)])) (eC (.int 1)))]) (eBin opIx (bVar 1) (eUn opNeg (eC (.int 1)))))) (sSeq (sSet 0 (eAll (f_added K) [(eVar 0), (eAll (f_negated K) [(eAll (f_product K) [(eBin opAdd (eBin opMulT (eAll opTup [(eC (.int 0))]) (bVar 3)) (bVar 1)), (eAll opTup [(eVar 4)])])])])) (sApp 2 (eVar 4))))) (sRet (eAll (f_trimmed K) [(eUn opBack (bVar 2))]))))
noncomputable def f_divided (K : PySem.W.Frag) : List D → R D := runD 3 (b_divided K)
theorem ok_divided {P : Program} {w : World} {K : PySem.W.Frag} {mg : Str → Option Value} {base : Heap} (n : Cn P K mg base) : ∃ fd, FnOk P w K mg base (L2.CX P w) 3 (He.fAd K dd_divided.at_) fd ["one", "two"] (spD mg 2 (f_divided K)) ∧ Binds K fd ["one", "two"] [] ∧ PySem.W.keepIn K (.ref (He.fAd K dd_divided.at_)) = true := by
  obtain ⟨fd, F⟩ := defX n.c 8 (d := dd_divided) rfl
  exact ⟨fd, fn_ok (body := b_divided K) (He5.fun_of F) sc_divided rfl rfl (fun F W cdv A outer s H E hr tk po => (ds_cons (ds_setN 2 sc_divided.nd rfl (by first | exact Or.inl rfl | exact Or.inr rfl) (dn_lst da_nil)) (ds_cons (ds_for po rfl (di_range3 (by rfl) (m_range n) (da_cons (DE.b (de_bin op_sub ok_sub (DE.b (de_callB or_len ok_len (by rfl) (m_len n) bb_len (da_cons (db_var 0) da_nil))) (DE.b (de_callB or_len ok_len (by rfl) (m_len n) bb_len (da_cons (db_var 1) da_nil))))) (da_cons (DE.b (de_un un_neg ok_neg (DE.b de_int))) (da_cons (DE.b (de_un un_neg ok_neg (DE.b de_int))) da_nil)))) (dg_name 3 sc_divided.nd rfl (by first | exact Or.inl rfl | exact Or.inr rfl)) (ds_cons (ds_set 4 sc_divided.nd rfl (by first | exact Or.inl rfl | exact Or.inr rfl) (de_bin op_fdivA ok_fdiv (DE.b (de_call (d_coefficient n) hr (by rfl) tk (da_cons (de_var 0) (da_cons (de_bin op_sub ok_sub (DE.b (de_bin or_add ok_add (db_var 3) (DE.b (de_callB or_len ok_len (by rfl) (m_len n) bb_len (da_cons (db_var 1) da_nil))))) (DE.b de_int)) da_nil)))) (DE.b (de_sub hr.units (db_var 1) (DE.b (de_un un_neg ok_neg (DE.b de_int))) (fun _ _ => rfl))))) (ds_cons (ds_set 0 sc_divided.nd rfl (by first | exact Or.inl rfl | exact Or.inr rfl) (de_call (d_added n) hr (by rfl) tk (da_cons (de_var 0) (da_cons (de_call (d_negated n) hr (by rfl) tk (da_cons (de_call (d_product n) hr (by rfl) tk (da_cons (de_bin or_add ok_add (DE.b (de_bin or_mulT ok_mulT (DE.b (de_tup (da_cons de_int da_nil))) (db_var 3))) (db_var 1)) (da_cons (de_tup (da_cons (de_var 4) da_nil)) da_nil))) da_nil)) da_nil)))) (ds_one (ds_append 2 (de_var 4)))))) (ds_one (ds_ret (de_callB' (d_trimmed n) hr (by rfl) tk (da_cons (DE.b (de_back (db_var 2))) da_nil))))))), (FunD.bindsN F fun _ _ _ _ _ _ us hl => match us, hl with | [_, _], _ => rfl), F.kp⟩
theorem d_divided {P : Program} {w : World} {K : PySem.W.Frag} {mg : Str → Option Value} {base : Heap} (n : Cn P K mg base) : GFn P w K mg base 3 "divided" 2 (f_divided K) :=
  (ok_divided n).elim fun fd h => ⟨_, fd, _, h.1, (g_of_divided n), h.2.2, h.2.1⟩
abbrev s_primitive_ : Stmt := (top 14)
abbrev N_primitive : List Str := ["poly", "divisor", "one"]
theorem sc_primitive : FnScope N_primitive ["poly"] (defScope s_primitive_) := ⟨rfl, rfl, rfl, by decide +kernel, rfl, by decide +kernel, by decide +kernel⟩
noncomputable def b_primitive (K : PySem.W.Frag) : SF := (sSeq (sIf (tVal (eBin opEq (bVar 0) (eAll opTup []))) (sRet (eVar 0)) .nx) (sSeq (sSet 1 (eAll (f_content K) [(eVar 0)])) (sSeq (sIf (tVal (eBin opLt (eBin opIx (bVar 0) (eUn opNeg (eC (.int 1)))) (eC (.int 0)))) (sSet 1 (eUn opNeg (bVar 1))) .nx) (sRet (eAll opTuple [(eN (nLc (iSeq (eVar 0)) (gN 2) tYesF (eBin opFdiv (bVar 2) (bVar 1)) [2]))])))))
noncomputable def f_primitive (K : PySem.W.Frag) : List D → R D := runD 2 (b_primitive K)
theorem ok_primitive {P : Program} {w : World} {K : PySem.W.Frag} {mg : Str → Option Value} {base : Heap} (n : Cn P K mg base) : ∃ fd, FnOk P w K mg base (L2.CX P w) 3 (He.fAd K dd_primitive.at_) fd ["poly"] (spD mg 1 (f_primitive K)) ∧ Binds K fd ["poly"] [] ∧ PySem.W.keepIn K (.ref (He.fAd K dd_primitive.at_)) = true := by
  obtain ⟨fd, F⟩ := defX n.c 9 (d := dd_primitive) rfl
  exact ⟨fd, fn_ok (body := b_primitive K) (He5.fun_of F) sc_primitive rfl rfl (fun F W cdv A outer s H E hr tk po => (ds_cons (ds_if (dt_cmp (op_eqD hr.units) ok_eq (db_var 0) (DE.b (de_tup da_nil)) rfl) (ds_one (ds_ret (de_var 0))) ds_nil) (ds_cons (ds_set 1 sc_primitive.nd rfl (by first | exact Or.inl rfl | exact Or.inr rfl) (de_call (d_content n) hr (by rfl) tk (da_cons (de_var 0) da_nil))) (ds_cons (ds_if (dt_cmp op_lt ok_lt (DE.b (de_sub hr.units (db_var 0) (DE.b (de_un un_neg ok_neg (DE.b de_int))) (fun _ _ => rfl))) (DE.b de_int) rfl) (ds_one (ds_set 1 sc_primitive.nd rfl (by first | exact Or.inl rfl | exact Or.inr rfl) (de_un un_neg ok_neg (db_var 1)))) ds_nil) (ds_one (ds_ret (de_callTy call_tuple_of ok_tuple (by rfl) (m_tuple n) bb_tuple (da_cons (DE.b (DN.de (dn_lc [("one", 2)] rfl sc_primitive.nd (di_seq (de_var 0)) (blkOk_by (N := N_primitive) (sc := (defScope s_primitive_)) (own := [("one", 2)]) (by decide +kernel)) (fun F s H C cl fp => (dg_name 2 sc_primitive.nd rfl (by first | exact Or.inl rfl | exact Or.inr rfl))) (fun F s H C cl fp => dts_nil) (fun F s H C cl fp => (de_bin op_fdivA ok_fdiv (db_var 2) (db_var 1))) (by decide)))) da_nil)))))))), (FunD.bindsN F fun _ _ _ _ _ _ us hl => match us, hl with | [_], _ => rfl), F.kp⟩
theorem d_primitive {P : Program} {w : World} {K : PySem.W.Frag} {mg : Str → Option Value} {base : Heap} (n : Cn P K mg base) : GFn P w K mg base 3 "primitive" 1 (f_primitive K) :=
  (ok_primitive n).elim fun fd h => ⟨_, fd, _, h.1, (g_of_primitive n), h.2.2, h.2.1⟩
abbrev s_rest_of_ : Stmt := (top 18)
abbrev N_rest_of : List Str := ["one", "two", "shift"]
theorem sc_rest_of : FnScope N_rest_of ["one", "two"] (defScope s_rest_of_) := ⟨rfl, rfl, rfl, by decide +kernel, rfl, by decide +kernel, by decide +kernel⟩
noncomputable def b_rest_of (K : PySem.W.Frag) : SF := (sSeq (sWhile (tVal (eBin opGe (eAll opLen [(bVar 0)]) (eAll opLen [(bVar 1)]))) (sSeq (sSet 2 (eBin opMulT (eAll opTup [(eC (.int 0))]) (eBin opSub (eAll opLen [(bVar 0)]) (eAll opLen [(bVar 1)])))) (sSeq (sSet 0 (eAll (f_added K) [(eAll (f_product K) [(eVar 0), (eSlice (bVar 1) (fun s => ((eUn opNeg (eC (.int 1))) s).bind asInt) (fun _ => .ok none))]), (eAll (f_negated K) [(eAll (f_product K) [(eBin opAdd (bVar 2) (bVar 1)), (eSlice (bVar 0) (fun s => ((eUn opNeg (eC (.int 1))) s).bind asInt) (fun _ => .ok none))])])])) (sSet 0 (eAll (f_primitive K) [(eVar 0)]))))) (sRet (eVar 0)))
noncomputable def f_rest_of (K : PySem.W.Frag) : List D → R D := runD 1 (b_rest_of K)
theorem ok_rest_of {P : Program} {w : World} {K : PySem.W.Frag} {mg : Str → Option Value} {base : Heap} (n : Cn P K mg base) : ∃ fd, FnOk P w K mg base (L2.CX P w) 4 (He.fAd K dd_rest_of.at_) fd ["one", "two"] (spD mg 2 (f_rest_of K)) ∧ Binds K fd ["one", "two"] [] ∧ PySem.W.keepIn K (.ref (He.fAd K dd_rest_of.at_)) = true := by
  obtain ⟨fd, F⟩ := defX n.c 10 (d := dd_rest_of) rfl
  exact ⟨fd, fn_ok (body := b_rest_of K) (He5.fun_of F) sc_rest_of rfl rfl (fun F W cdv A outer s H E hr tk po => (ds_cons (ds_while po (dt_cmp op_ge ok_ge (DE.b (de_callB or_len ok_len (by rfl) (m_len n) bb_len (da_cons (db_var 0) da_nil))) (DE.b (de_callB or_len ok_len (by rfl) (m_len n) bb_len (da_cons (db_var 1) da_nil))) rfl) (ds_cons (ds_set 2 sc_rest_of.nd rfl (by first | exact Or.inl rfl | exact Or.inr rfl) (de_bin or_mulT ok_mulT (DE.b (de_tup (da_cons de_int da_nil))) (DE.b (de_bin op_sub ok_sub (DE.b (de_callB or_len ok_len (by rfl) (m_len n) bb_len (da_cons (db_var 0) da_nil))) (DE.b (de_callB or_len ok_len (by rfl) (m_len n) bb_len (da_cons (db_var 1) da_nil))))))) (ds_cons (ds_set 0 sc_rest_of.nd rfl (by first | exact Or.inl rfl | exact Or.inr rfl) (de_call (d_added n) hr (by rfl) tk (da_cons (de_call (d_product n) hr (by rfl) tk (da_cons (de_var 0) (da_cons (de_slice (db_var 1) (do_some (DE.b (de_un un_neg ok_neg (DE.b de_int)))) do_none) da_nil))) (da_cons (de_call (d_negated n) hr (by rfl) tk (da_cons (de_call (d_product n) hr (by rfl) tk (da_cons (de_bin or_add ok_add (db_var 2) (db_var 1)) (da_cons (de_slice (db_var 0) (do_some (DE.b (de_un un_neg ok_neg (DE.b de_int)))) do_none) da_nil))) da_nil)) da_nil)))) (ds_one (ds_set 0 sc_rest_of.nd rfl (by first | exact Or.inl rfl | exact Or.inr rfl) (de_call (d_primitive n) hr (by rfl) tk (da_cons (de_var 0) da_nil))))))) (ds_one (ds_ret (de_var 0))))), (FunD.bindsN F fun _ _ _ _ _ _ us hl => match us, hl with | [_, _], _ => rfl), F.kp⟩
theorem d_rest_of {P : Program} {w : World} {K : PySem.W.Frag} {mg : Str → Option Value} {base : Heap} (n : Cn P K mg base) : GFn P w K mg base 4 "rest_of" 2 (f_rest_of K) :=
  (ok_rest_of n).elim fun fd h => ⟨_, fd, _, h.1, (g_of_rest_of n), h.2.2, h.2.1⟩
abbrev s_shared_ : Stmt := (top 19)
abbrev N_shared : List Str := ["one", "two"]
theorem sc_shared : FnScope N_shared ["one", "two"] (defScope s_shared_) := ⟨rfl, rfl, rfl, by decide +kernel, rfl, by decide +kernel, by decide +kernel⟩
noncomputable def b_shared (K : PySem.W.Frag) : SF := (sSeq (sSet 0 (eAll (f_primitive K) [(eVar 0)])) (sSeq (sSet 1 (eAll (f_primitive K) [(eVar 1)])) (sSeq (sWhile (tVal (eBin opNe (bVar 1) (eAll opTup []))) (sPar 0 1 (eVar 1) (eAll (f_rest_of K) [(eVar 0), (eVar 1)]))) (sRet (eVar 0)))))
noncomputable def f_shared (K : PySem.W.Frag) : List D → R D := runD 0 (b_shared K)
theorem ok_shared {P : Program} {w : World} {K : PySem.W.Frag} {mg : Str → Option Value} {base : Heap} (n : Cn P K mg base) : ∃ fd, FnOk P w K mg base (L2.CX P w) 5 (He.fAd K dd_shared.at_) fd ["one", "two"] (spD mg 2 (f_shared K)) ∧ Binds K fd ["one", "two"] [] ∧ PySem.W.keepIn K (.ref (He.fAd K dd_shared.at_)) = true := by
  obtain ⟨fd, F⟩ := defX n.c 11 (d := dd_shared) rfl
  exact ⟨fd, fn_ok (body := b_shared K) (He5.fun_of F) sc_shared rfl rfl (fun F W cdv A outer s H E hr tk po => (ds_cons (ds_set 0 sc_shared.nd rfl (by first | exact Or.inl rfl | exact Or.inr rfl) (de_call (d_primitive n) hr (by rfl) tk (da_cons (de_var 0) da_nil))) (ds_cons (ds_set 1 sc_shared.nd rfl (by first | exact Or.inl rfl | exact Or.inr rfl) (de_call (d_primitive n) hr (by rfl) tk (da_cons (de_var 1) da_nil))) (ds_cons (ds_while po (dt_cmp (op_neD hr.units) ok_ne (db_var 1) (DE.b (de_tup da_nil)) rfl) (ds_one (ds_par 0 1 rfl sc_shared.nd rfl rfl (by decide) rfl rfl (da_cons (de_var 1) (da_cons (de_call (d_rest_of n) hr (by rfl) tk (da_cons (de_var 0) (da_cons (de_var 1) da_nil))) da_nil)) (by rfl)))) (ds_one (ds_ret (de_var 0))))))), (FunD.bindsN F fun _ _ _ _ _ _ us hl => match us, hl with | [_, _], _ => rfl), F.kp⟩
theorem d_shared {P : Program} {w : World} {K : PySem.W.Frag} {mg : Str → Option Value} {base : Heap} (n : Cn P K mg base) : GFn P w K mg base 5 "shared" 2 (f_shared K) :=
  (ok_shared n).elim fun fd h => ⟨_, fd, _, h.1, (g_of_shared n), h.2.2, h.2.1⟩
abbrev s_Quot_init_ : Stmt := (inClass (top 22) 0)
abbrev N_Quot_init : List Str := ["self", "top", "bottom", "one", "two", "same", "divisor", "number"]
theorem sc_Quot_init : FnScope N_Quot_init ["self", "top", "bottom"] (defScope s_Quot_init_) := ⟨rfl, rfl, rfl, by decide +kernel, rfl, by decide +kernel, by decide +kernel⟩
noncomputable def b_Quot_init (K : PySem.W.Frag) : SF := (sSeq (sSet 3 (eAll (f_trimmed K) [(bVar 1)])) (sSeq (sSet 4 (eAll (f_trimmed K) [(bVar 2)])) (sSeq (sIf (tVal (eBin opEq (bVar 4) (eAll opTup []))) (sRaiseN "NoQuot") .nx) (sSeq (sSet 5 (eAll (f_shared K) [(eVar 3), (eVar 4)])) (sSeq (sSet 3 (eAll (f_divided K) [(eVar 3), (eVar 5)])) (sSeq (sSet 4 (eAll (f_divided K) [(eVar 4), (eVar 5)])) (sSeq (sSet 6 (eAll (f_common K) [(eAll (f_content K) [(eVar 3)]), (eAll (f_content K) [(eVar 4)])])) (sSeq (sIf (tVal (eBin opLt (eBin opIx (bVar 4) (eUn opNeg (eC (.int 1)))) (eC (.int 0)))) (sSet 6 (eUn opNeg (bVar 6))) .nx) (sSeq (sFldD (He.ga K "Quot") 0 "top" (eAll opTuple [(eN (nLc (iSeq (eVar 3)) (gN 7) tYesF (eBin opFdiv (bVar 7) (bVar 6)) [7]))])) (sFldD (He.ga K "Quot") 0 "bottom" (eAll opTuple [(eN (nLc (iSeq (eVar 4)) (gN 7) tYesF (eBin opFdiv (bVar 7) (bVar 6)) [7]))])))))))))))
noncomputable def f_Quot_init (K : PySem.W.Frag) : List D → R (List (Str × D)) := runIB (He.ga K "Quot") 5 (b_Quot_init K)
theorem m_Quot_init {P : Program} {w : World} {K : PySem.W.Frag} {mg : Str → Option Value} {base : Heap} (n : Cn P K mg base) : GClB P w K mg base 6 "Quot" (He.ga K "Quot") 3 (f_Quot_init K) := by
  obtain ⟨fd, F⟩ := defX n.c 12 rfl
  exact ⟨_, fd, _, fnI_okDB (C := He.ga K "Quot") (body := b_Quot_init K) F sc_Quot_init rfl rfl (fun F W cdv A outer s H E hr tk po => (ds_cons (ds_set 3 sc_Quot_init.nd rfl (by first | exact Or.inl rfl | exact Or.inr rfl) (de_callB' (d_trimmed n) hr (by rfl) tk (da_cons (db_var 1) da_nil))) (ds_cons (ds_set 4 sc_Quot_init.nd rfl (by first | exact Or.inl rfl | exact Or.inr rfl) (de_callB' (d_trimmed n) hr (by rfl) tk (da_cons (db_var 2) da_nil))) (ds_cons (ds_if (dt_cmp (op_eqD hr.units) ok_eq (db_var 4) (DE.b (de_tup da_nil)) rfl) (ds_one (ds_raiseN (x_NoQuot n) hr rfl (by rfl) tk)) ds_nil) (ds_cons (ds_set 5 sc_Quot_init.nd rfl (by first | exact Or.inl rfl | exact Or.inr rfl) (de_call (d_shared n) hr (by rfl) tk (da_cons (de_var 3) (da_cons (de_var 4) da_nil)))) (ds_cons (ds_set 3 sc_Quot_init.nd rfl (by first | exact Or.inl rfl | exact Or.inr rfl) (de_call (d_divided n) hr (by rfl) tk (da_cons (de_var 3) (da_cons (de_var 5) da_nil)))) (ds_cons (ds_set 4 sc_Quot_init.nd rfl (by first | exact Or.inl rfl | exact Or.inr rfl) (de_call (d_divided n) hr (by rfl) tk (da_cons (de_var 4) (da_cons (de_var 5) da_nil)))) (ds_cons (ds_set 6 sc_Quot_init.nd rfl (by first | exact Or.inl rfl | exact Or.inr rfl) (de_call (d_common n) hr (by rfl) tk (da_cons (de_call (d_content n) hr (by rfl) tk (da_cons (de_var 3) da_nil)) (da_cons (de_call (d_content n) hr (by rfl) tk (da_cons (de_var 4) da_nil)) da_nil)))) (ds_cons (ds_if (dt_cmp op_lt ok_lt (DE.b (de_sub hr.units (db_var 4) (DE.b (de_un un_neg ok_neg (DE.b de_int))) (fun _ _ => rfl))) (DE.b de_int) rfl) (ds_one (ds_set 6 sc_Quot_init.nd rfl (by first | exact Or.inl rfl | exact Or.inr rfl) (de_un un_neg ok_neg (db_var 6)))) ds_nil) (ds_cons (ds_fld 0 ⟨(c_Quot n), (na_Quot_top n)⟩ (de_callTy call_tuple_of ok_tuple (by rfl) (m_tuple n) bb_tuple (da_cons (DE.b (DN.de (dn_lc [("number", 7)] rfl sc_Quot_init.nd (di_seq (de_var 3)) (blkOk_by (N := N_Quot_init) (sc := (defScope s_Quot_init_)) (own := [("number", 7)]) (by decide +kernel)) (fun F s H C cl fp => (dg_name 7 sc_Quot_init.nd rfl (by first | exact Or.inl rfl | exact Or.inr rfl))) (fun F s H C cl fp => dts_nil) (fun F s H C cl fp => (de_bin op_fdivA ok_fdiv (db_var 7) (db_var 6))) (by decide)))) da_nil))) (ds_one (ds_fld 0 ⟨(c_Quot n), (na_Quot_bottom n)⟩ (de_callTy call_tuple_of ok_tuple (by rfl) (m_tuple n) bb_tuple (da_cons (DE.b (DN.de (dn_lc [("number", 7)] rfl sc_Quot_init.nd (di_seq (de_var 4)) (blkOk_by (N := N_Quot_init) (sc := (defScope s_Quot_init_)) (own := [("number", 7)]) (by decide +kernel)) (fun F s H C cl fp => (dg_name 7 sc_Quot_init.nd rfl (by first | exact Or.inl rfl | exact Or.inr rfl))) (fun F s H C cl fp => dts_nil) (fun F s H C cl fp => (de_bin op_fdivA ok_fdiv (db_var 7) (db_var 6))) (by decide)))) da_nil)))))))))))))), (mk_Quot n), (g_of_Quot n), (bindsP F (List.cons_ne_nil _ _) fun _ _ _ _ _ _ _ us its hl hi => match us, hl, its, hi with | [_, _, _], _, [_], _ => ⟨_, rfl, rfl⟩)⟩
theorem md_Quot_init {P : Program} {w : World} {K : PySem.W.Frag} {mg : Str → Option Value} {base : Heap} (n : Cn P K mg base) : GClDB P w K mg base 6 "Quot" (He.ga K "Quot") 3 (f_Quot_init K) [.ref (He.dflAt ("Quot", some "__init__") 0 K)] := by
  obtain ⟨fd, F⟩ := defX n.c 12 rfl
  have hk := fnI_okDB (C := He.ga K "Quot") (body := b_Quot_init K) F sc_Quot_init rfl rfl (P := P) (w := w) (mg := mg) (base := base) (k := 5) (fun F W cdv A outer s H E hr tk po => (ds_cons (ds_set 3 sc_Quot_init.nd rfl (by first | exact Or.inl rfl | exact Or.inr rfl) (de_callB' (d_trimmed n) hr (by rfl) tk (da_cons (db_var 1) da_nil))) (ds_cons (ds_set 4 sc_Quot_init.nd rfl (by first | exact Or.inl rfl | exact Or.inr rfl) (de_callB' (d_trimmed n) hr (by rfl) tk (da_cons (db_var 2) da_nil))) (ds_cons (ds_if (dt_cmp (op_eqD hr.units) ok_eq (db_var 4) (DE.b (de_tup da_nil)) rfl) (ds_one (ds_raiseN (x_NoQuot n) hr rfl (by rfl) tk)) ds_nil) (ds_cons (ds_set 5 sc_Quot_init.nd rfl (by first | exact Or.inl rfl | exact Or.inr rfl) (de_call (d_shared n) hr (by rfl) tk (da_cons (de_var 3) (da_cons (de_var 4) da_nil)))) (ds_cons (ds_set 3 sc_Quot_init.nd rfl (by first | exact Or.inl rfl | exact Or.inr rfl) (de_call (d_divided n) hr (by rfl) tk (da_cons (de_var 3) (da_cons (de_var 5) da_nil)))) (ds_cons (ds_set 4 sc_Quot_init.nd rfl (by first | exact Or.inl rfl | exact Or.inr rfl) (de_call (d_divided n) hr (by rfl) tk (da_cons (de_var 4) (da_cons (de_var 5) da_nil)))) (ds_cons (ds_set 6 sc_Quot_init.nd rfl (by first | exact Or.inl rfl | exact Or.inr rfl) (de_call (d_common n) hr (by rfl) tk (da_cons (de_call (d_content n) hr (by rfl) tk (da_cons (de_var 3) da_nil)) (da_cons (de_call (d_content n) hr (by rfl) tk (da_cons (de_var 4) da_nil)) da_nil)))) (ds_cons (ds_if (dt_cmp op_lt ok_lt (DE.b (de_sub hr.units (db_var 4) (DE.b (de_un un_neg ok_neg (DE.b de_int))) (fun _ _ => rfl))) (DE.b de_int) rfl) (ds_one (ds_set 6 sc_Quot_init.nd rfl (by first | exact Or.inl rfl | exact Or.inr rfl) (de_un un_neg ok_neg (db_var 6)))) ds_nil) (ds_cons (ds_fld 0 ⟨(c_Quot n), (na_Quot_top n)⟩ (de_callTy call_tuple_of ok_tuple (by rfl) (m_tuple n) bb_tuple (da_cons (DE.b (DN.de (dn_lc [("number", 7)] rfl sc_Quot_init.nd (di_seq (de_var 3)) (blkOk_by (N := N_Quot_init) (sc := (defScope s_Quot_init_)) (own := [("number", 7)]) (by decide +kernel)) (fun F s H C cl fp => (dg_name 7 sc_Quot_init.nd rfl (by first | exact Or.inl rfl | exact Or.inr rfl))) (fun F s H C cl fp => dts_nil) (fun F s H C cl fp => (de_bin op_fdivA ok_fdiv (db_var 7) (db_var 6))) (by decide)))) da_nil))) (ds_one (ds_fld 0 ⟨(c_Quot n), (na_Quot_bottom n)⟩ (de_callTy call_tuple_of ok_tuple (by rfl) (m_tuple n) bb_tuple (da_cons (DE.b (DN.de (dn_lc [("number", 7)] rfl sc_Quot_init.nd (di_seq (de_var 4)) (blkOk_by (N := N_Quot_init) (sc := (defScope s_Quot_init_)) (own := [("number", 7)]) (by decide +kernel)) (fun F s H C cl fp => (dg_name 7 sc_Quot_init.nd rfl (by first | exact Or.inl rfl | exact Or.inr rfl))) (fun F s H C cl fp => dts_nil) (fun F s H C cl fp => (de_bin op_fdivA ok_fdiv (db_var 7) (db_var 6))) (by decide)))) da_nil))))))))))))))
  obtain ⟨ds, hv, hb⟩ := F.binds1 (ps := ["self", "top", "bottom"]) 2 0 (List.cons_ne_nil _ _) rfl fun _ _ _ _ _ _ _ us its hl hi => match us, hl, its, hi with | [_, _], _, [_], _ => ⟨_, rfl, rfl⟩
  exact ⟨_, fd, _, ds, hk, (mk_Quot n), (g_of_Quot n), hv, hb⟩
abbrev s__law_cell_ : Stmt := (top 31)
abbrev N__law_cell : List Str := ["_law_script", "_law_k"]
theorem sc__law_cell : FnScope N__law_cell ["_law_script", "_law_k"] (defScope s__law_cell_) := ⟨rfl, rfl, rfl, by decide +kernel, rfl, by decide +kernel, by decide +kernel⟩
noncomputable def b__law_cell (K : PySem.W.Frag) : SF := (sSeq (sIf (tVal (eBin opLt (bVar 1) (eAll opLen [(bVar 0)]))) (sRet (eBin opIx (bVar 0) (bVar 1))) .nx) (sRet (eC (.int 0))))
noncomputable def f__law_cell (K : PySem.W.Frag) : List D → R D := runD 0 (b__law_cell K)
theorem ok__law_cell {P : Program} {w : World} {K : PySem.W.Frag} {mg : Str → Option Value} {base : Heap} (n : Cn P K mg base) : ∃ fd, FnOk P w K mg base (L2.CX P w) 1 (He.fAd K dd__law_cell.at_) fd ["_law_script", "_law_k"] (spD mg 2 (f__law_cell K)) ∧ Binds K fd ["_law_script", "_law_k"] [] ∧ PySem.W.keepIn K (.ref (He.fAd K dd__law_cell.at_)) = true := by
  obtain ⟨fd, F⟩ := defX n.c 13 (d := dd__law_cell) rfl
  exact ⟨fd, fn_ok (body := b__law_cell K) (He5.fun_of F) sc__law_cell rfl rfl (fun F W cdv A outer s H E hr tk po => (ds_cons (ds_if (dt_cmp op_lt ok_lt (db_var 1) (DE.b (de_callB or_len ok_len (by rfl) (m_len n) bb_len (da_cons (db_var 0) da_nil))) rfl) (ds_one (ds_ret (de_sub hr.units (db_var 0) (db_var 1) (fun _ _ => rfl)))) ds_nil) (ds_one (ds_ret de_int)))), (FunD.bindsN F fun _ _ _ _ _ _ us hl => match us, hl with | [_, _], _ => rfl), F.kp⟩
theorem d__law_cell {P : Program} {w : World} {K : PySem.W.Frag} {mg : Str → Option Value} {base : Heap} (n : Cn P K mg base) : GFn P w K mg base 1 "_law_cell" 2 (f__law_cell K) :=
  (ok__law_cell n).elim fun fd h => ⟨_, fd, _, h.1, (g_of__law_cell n), h.2.2, h.2.1⟩
abbrev s__law_drawn_poly_ : Stmt := (top 37)
abbrev N__law_drawn_poly : List Str := ["_law_draws", "_law_draw"]
theorem sc__law_drawn_poly : FnScope N__law_drawn_poly ["_law_draws"] (defScope s__law_drawn_poly_) := ⟨rfl, rfl, rfl, by decide +kernel, rfl, by decide +kernel, by decide +kernel⟩
noncomputable def b__law_drawn_poly (K : PySem.W.Frag) : SF := (sRet (eN (nLc (iSeq (eSlice (bVar 0) (fun s => ((eC (.int 1)) s).bind asInt) (fun s => ((eBin opAdd (eC (.int 2)) (eBin opIx (bVar 0) (eC (.int 0)))) s).bind asInt))) (gN 1) tYesF (eBin opSub (bVar 1) (eC (.int 4))) [1])))
noncomputable def f__law_drawn_poly (K : PySem.W.Frag) : List D → R D := runD 1 (b__law_drawn_poly K)
theorem ok__law_drawn_poly {P : Program} {w : World} {K : PySem.W.Frag} {mg : Str → Option Value} {base : Heap} (n : Cn P K mg base) : ∃ fd, FnOk P w K mg base (L2.CX P w) 1 (He.fAd K dd__law_drawn_poly.at_) fd ["_law_draws"] (spD mg 1 (f__law_drawn_poly K)) ∧ Binds K fd ["_law_draws"] [] ∧ PySem.W.keepIn K (.ref (He.fAd K dd__law_drawn_poly.at_)) = true := by
  obtain ⟨fd, F⟩ := defX n.c 14 (d := dd__law_drawn_poly) rfl
  exact ⟨fd, fn_ok (body := b__law_drawn_poly K) (He5.fun_of F) sc__law_drawn_poly rfl rfl (fun F W cdv A outer s H E hr tk po => (ds_one (ds_ret (DN.de (dn_lc [("_law_draw", 1)] rfl sc__law_drawn_poly.nd (di_seq (de_slice (db_var 0) (do_some (DE.b de_int)) (do_some (DE.b (de_bin or_add ok_add (DE.b de_int) (DE.b (de_sub hr.units (db_var 0) (DE.b de_int) (fun _ _ => rfl)))))))) (blkOk_by (N := N__law_drawn_poly) (sc := (defScope s__law_drawn_poly_)) (own := [("_law_draw", 1)]) (by decide +kernel)) (fun F s H C cl fp => (dg_name 1 sc__law_drawn_poly.nd rfl (by first | exact Or.inl rfl | exact Or.inr rfl))) (fun F s H C cl fp => dts_nil) (fun F s H C cl fp => (de_bin op_sub ok_sub (db_var 1) (DE.b de_int))) (by decide)))))), (FunD.bindsN F fun _ _ _ _ _ _ us hl => match us, hl with | [_], _ => rfl), F.kp⟩
theorem d__law_drawn_poly {P : Program} {w : World} {K : PySem.W.Frag} {mg : Str → Option Value} {base : Heap} (n : Cn P K mg base) : GFn P w K mg base 1 "_law_drawn_poly" 1 (f__law_drawn_poly K) :=
  (ok__law_drawn_poly n).elim fun fd h => ⟨_, fd, _, h.1, (g_of__law_drawn_poly n), h.2.2, h.2.1⟩
abbrev s__law_gcd_ : Stmt := (top 40)
abbrev N__law_gcd : List Str := ["_law_a", "_law_b"]
theorem sc__law_gcd : FnScope N__law_gcd ["_law_a", "_law_b"] (defScope s__law_gcd_) := ⟨rfl, rfl, rfl, by decide +kernel, rfl, by decide +kernel, by decide +kernel⟩
noncomputable def b__law_gcd (K : PySem.W.Frag) : SF := (sSeq (sWhile (tVal (eBin opNe (bVar 1) (eC (.int 0)))) (sPar 0 1 (eVar 1) (eBin opSub (bVar 0) (eBin opMul (eBin opFdiv (bVar 0) (bVar 1)) (bVar 1))))) (sRet (eAll opAbs [(bVar 0)])))
noncomputable def f__law_gcd (K : PySem.W.Frag) : List D → R D := runD 0 (b__law_gcd K)
theorem ok__law_gcd {P : Program} {w : World} {K : PySem.W.Frag} {mg : Str → Option Value} {base : Heap} (n : Cn P K mg base) : ∃ fd, FnOk P w K mg base (L2.CX P w) 1 (He.fAd K dd__law_gcd.at_) fd ["_law_a", "_law_b"] (spD mg 2 (f__law_gcd K)) ∧ Binds K fd ["_law_a", "_law_b"] [] ∧ PySem.W.keepIn K (.ref (He.fAd K dd__law_gcd.at_)) = true := by
  obtain ⟨fd, F⟩ := defX n.c 15 (d := dd__law_gcd) rfl
  exact ⟨fd, fn_ok (body := b__law_gcd K) (He5.fun_of F) sc__law_gcd rfl rfl (fun F W cdv A outer s H E hr tk po => (ds_cons (ds_while po (dt_cmp (op_neD hr.units) ok_ne (db_var 1) (DE.b de_int) rfl) (ds_one (ds_par 0 1 rfl sc__law_gcd.nd rfl rfl (by decide) rfl rfl (da_cons (de_var 1) (da_cons (de_bin op_sub ok_sub (db_var 0) (DE.b (de_bin or_mul ok_mul (DE.b (de_bin op_fdivA ok_fdiv (db_var 0) (db_var 1))) (db_var 1)))) da_nil)) (by rfl)))) (ds_one (ds_ret (de_callB call_abs ok_abs (by rfl) (m_abs n) bb_abs (da_cons (db_var 0) da_nil)))))), (FunD.bindsN F fun _ _ _ _ _ _ us hl => match us, hl with | [_, _], _ => rfl), F.kp⟩
theorem d__law_gcd {P : Program} {w : World} {K : PySem.W.Frag} {mg : Str → Option Value} {base : Heap} (n : Cn P K mg base) : GFn P w K mg base 1 "_law_gcd" 2 (f__law_gcd K) :=
  (ok__law_gcd n).elim fun fd h => ⟨_, fd, _, h.1, (g_of__law_gcd n), h.2.2, h.2.1⟩
abbrev s__law_gcd_of_ : Stmt := (top 41)
abbrev N__law_gcd_of : List Str := ["_law_numbers", "_law_out", "_law_number"]
theorem sc__law_gcd_of : FnScope N__law_gcd_of ["_law_numbers"] (defScope s__law_gcd_of_) := ⟨rfl, rfl, rfl, by decide +kernel, rfl, by decide +kernel, by decide +kernel⟩
noncomputable def b__law_gcd_of (K : PySem.W.Frag) : SF := (sSeq (sSet 1 (eC (.int 0))) (sSeq (sFor (iSeq (eVar 0)) (gN 2) (sSet 1 (eAll (f__law_gcd K) [(eVar 1), (eVar 2)]))) (sRet (eVar 1))))
noncomputable def f__law_gcd_of (K : PySem.W.Frag) : List D → R D := runD 2 (b__law_gcd_of K)
theorem ok__law_gcd_of {P : Program} {w : World} {K : PySem.W.Frag} {mg : Str → Option Value} {base : Heap} (n : Cn P K mg base) : ∃ fd, FnOk P w K mg base (L2.CX P w) 2 (He.fAd K dd__law_gcd_of.at_) fd ["_law_numbers"] (spD mg 1 (f__law_gcd_of K)) ∧ Binds K fd ["_law_numbers"] [] ∧ PySem.W.keepIn K (.ref (He.fAd K dd__law_gcd_of.at_)) = true := by
  obtain ⟨fd, F⟩ := defX n.c 16 (d := dd__law_gcd_of) rfl
  exact ⟨fd, fn_ok (body := b__law_gcd_of K) (He5.fun_of F) sc__law_gcd_of rfl rfl (fun F W cdv A outer s H E hr tk po => (ds_cons (ds_set 1 sc__law_gcd_of.nd rfl (by first | exact Or.inl rfl | exact Or.inr rfl) de_int) (ds_cons (ds_for po rfl (di_seq (de_var 0)) (dg_name 2 sc__law_gcd_of.nd rfl (by first | exact Or.inl rfl | exact Or.inr rfl)) (ds_one (ds_set 1 sc__law_gcd_of.nd rfl (by first | exact Or.inl rfl | exact Or.inr rfl) (de_call (d__law_gcd n) hr (by rfl) tk (da_cons (de_var 1) (da_cons (de_var 2) da_nil)))))) (ds_one (ds_ret (de_var 1)))))), (FunD.bindsN F fun _ _ _ _ _ _ us hl => match us, hl with | [_], _ => rfl), F.kp⟩
theorem d__law_gcd_of {P : Program} {w : World} {K : PySem.W.Frag} {mg : Str → Option Value} {base : Heap} (n : Cn P K mg base) : GFn P w K mg base 2 "_law_gcd_of" 1 (f__law_gcd_of K) :=
  (ok__law_gcd_of n).elim fun fd h => ⟨_, fd, _, h.1, (g_of__law_gcd_of n), h.2.2, h.2.1⟩
abbrev s__law_thinned_ : Stmt := (top 42)
abbrev N__law_thinned : List Str := ["_law_poly", "_law_by", "_law_number"]
theorem sc__law_thinned : FnScope N__law_thinned ["_law_poly"] (defScope s__law_thinned_) := ⟨rfl, rfl, rfl, by decide +kernel, rfl, by decide +kernel, by decide +kernel⟩
noncomputable def b__law_thinned (K : PySem.W.Frag) : SF := (sSeq (sSet 1 (eAll (f__law_gcd_of K) [(eVar 0)])) (sSeq (sIf (tVal (eBin opEq (bVar 1) (eC (.int 0)))) (sRet (eN (nAll nLst []))) .nx) (sRet (eN (nLc (iSeq (eVar 0)) (gN 2) tYesF (eBin opFdiv (bVar 2) (bVar 1)) [2])))))
noncomputable def f__law_thinned (K : PySem.W.Frag) : List D → R D := runD 2 (b__law_thinned K)
theorem ok__law_thinned {P : Program} {w : World} {K : PySem.W.Frag} {mg : Str → Option Value} {base : Heap} (n : Cn P K mg base) : ∃ fd, FnOk P w K mg base (L2.CX P w) 3 (He.fAd K dd__law_thinned.at_) fd ["_law_poly"] (spD mg 1 (f__law_thinned K)) ∧ Binds K fd ["_law_poly"] [] ∧ PySem.W.keepIn K (.ref (He.fAd K dd__law_thinned.at_)) = true := by
  obtain ⟨fd, F⟩ := defX n.c 17 (d := dd__law_thinned) rfl
  exact ⟨fd, fn_ok (body := b__law_thinned K) (He5.fun_of F) sc__law_thinned rfl rfl (fun F W cdv A outer s H E hr tk po => (ds_cons (ds_set 1 sc__law_thinned.nd rfl (by first | exact Or.inl rfl | exact Or.inr rfl) (de_call (d__law_gcd_of n) hr (by rfl) tk (da_cons (de_var 0) da_nil))) (ds_cons (ds_if (dt_cmp (op_eqD hr.units) ok_eq (db_var 1) (DE.b de_int) rfl) (ds_one (ds_ret (DN.de (dn_lst da_nil)))) ds_nil) (ds_one (ds_ret (DN.de (dn_lc [("_law_number", 2)] rfl sc__law_thinned.nd (di_seq (de_var 0)) (blkOk_by (N := N__law_thinned) (sc := (defScope s__law_thinned_)) (own := [("_law_number", 2)]) (by decide +kernel)) (fun F s H C cl fp => (dg_name 2 sc__law_thinned.nd rfl (by first | exact Or.inl rfl | exact Or.inr rfl))) (fun F s H C cl fp => dts_nil) (fun F s H C cl fp => (de_bin op_fdivA ok_fdiv (db_var 2) (db_var 1))) (by decide)))))))), (FunD.bindsN F fun _ _ _ _ _ _ us hl => match us, hl with | [_], _ => rfl), F.kp⟩
theorem d__law_thinned {P : Program} {w : World} {K : PySem.W.Frag} {mg : Str → Option Value} {base : Heap} (n : Cn P K mg base) : GFn P w K mg base 3 "_law_thinned" 1 (f__law_thinned K) :=
  (ok__law_thinned n).elim fun fd h => ⟨_, fd, _, h.1, (g_of__law_thinned n), h.2.2, h.2.1⟩
abbrev s__law_trim_ : Stmt := (top 33)
abbrev N__law_trim : List Str := ["_law_poly", "_law_out"]
theorem sc__law_trim : FnScope N__law_trim ["_law_poly"] (defScope s__law_trim_) := ⟨rfl, rfl, rfl, by decide +kernel, rfl, by decide +kernel, by decide +kernel⟩
noncomputable def b__law_trim (K : PySem.W.Frag) : SF := (sSeq (sSetN 1 (nAll nList [(bVar 0)])) (sSeq (sWhile (tAndF (tVal (eBin opNe (bVar 1) (eN (nAll nLst [])))) (tVal (eBin opEq (eBin opIx (bVar 1) (eUn opNeg (eC (.int 1)))) (eC (.int 0))))) (sPop 1)) (fun s => (sRet (eVar 1)) (fz 1 s))))
noncomputable def f__law_trim (K : PySem.W.Frag) : List D → R D := runD 1 (b__law_trim K)
theorem ok__law_trim {P : Program} {w : World} {K : PySem.W.Frag} {mg : Str → Option Value} {base : Heap} (n : Cn P K mg base) : ∃ fd, FnOk P w K mg base (L2.CX P w) 1 (He.fAd K dd__law_trim.at_) fd ["_law_poly"] (spD mg 1 (f__law_trim K)) ∧ Binds K fd ["_law_poly"] [] ∧ PySem.W.keepIn K (.ref (He.fAd K dd__law_trim.at_)) = true := by
  obtain ⟨fd, F⟩ := defX n.c 18 (d := dd__law_trim) rfl
  exact ⟨fd, fn_ok (body := b__law_trim K) (He5.fun_of F) sc__law_trim rfl rfl (fun F W cdv A outer s H E hr tk po => (ds_cons (ds_setN 1 sc__law_trim.nd rfl (by first | exact Or.inl rfl | exact Or.inr rfl) (dn_list rfl rfl (by rfl) (m_list n) (da_cons (db_var 0) da_nil))) (ds_cons (ds_while po (dt_w (dw_and (dt_cmp (op_neD hr.units) ok_ne (db_var 1) (DE.b (DN.de (dn_lst da_nil))) rfl) (dw_and1 (dt_cmp (op_eqD hr.units) ok_eq (DE.b (de_sub hr.units (db_var 1) (DE.b (de_un un_neg ok_neg (DE.b de_int))) (fun _ _ => rfl))) (DE.b de_int) rfl)))) (ds_one (ds_pop 1))) (ds_one (ds_fz1 1 (ds_ret (de_var 1))))))), (FunD.bindsN F fun _ _ _ _ _ _ us hl => match us, hl with | [_], _ => rfl), F.kp⟩
theorem d__law_trim {P : Program} {w : World} {K : PySem.W.Frag} {mg : Str → Option Value} {base : Heap} (n : Cn P K mg base) : GFn P w K mg base 1 "_law_trim" 1 (f__law_trim K) :=
  (ok__law_trim n).elim fun fd h => ⟨_, fd, _, h.1, (g_of__law_trim n), h.2.2, h.2.1⟩
abbrev s__law_rest_ : Stmt := (top 39)
abbrev N__law_rest : List Str := ["_law_one", "_law_two", "_law_lead", "_law_lower", "_law_a", "_law_b"]
theorem sc__law_rest : FnScope N__law_rest ["_law_one", "_law_two"] (defScope s__law_rest_) := ⟨rfl, rfl, rfl, by decide +kernel, rfl, by decide +kernel, by decide +kernel⟩
noncomputable def b__law_rest (K : PySem.W.Frag) : SF := (sSeq (sWhile (tVal (eBin opGe (eAll opLen [(bVar 0)]) (eAll opLen [(bVar 1)]))) (sSeq (sSet 2 (eBin opIx (bVar 0) (eUn opNeg (eC (.int 1))))) (sSeq (sSet 3 (eN (nBin opCatN (eN (nBin opRepN (eN (nAll nLst [(eC (.int 0))])) (eBin opSub (eAll opLen [(bVar 0)]) (eAll opLen [(bVar 1)])))) (bVar 1)))) (sSeq (sSet 0 (eAll (f__law_trim K) [(eN (nLc (iAll opZip [(eVar 0), (eVar 3)]) (gTupD 2 (gCons' (gN 4) (gCons' (gN 5) gNil'))) tYesF (eBin opSub (eBin opMul (eBin opIx (bVar 1) (eUn opNeg (eC (.int 1)))) (bVar 4)) (eBin opMul (bVar 2) (bVar 5))) [4, 5]))])) (sSet 0 (eAll (f__law_thinned K) [(eVar 0)])))))) (sRet (eVar 0)))
noncomputable def f__law_rest (K : PySem.W.Frag) : List D → R D := runD 4 (b__law_rest K)
theorem ok__law_rest {P : Program} {w : World} {K : PySem.W.Frag} {mg : Str → Option Value} {base : Heap} (n : Cn P K mg base) : ∃ fd, FnOk P w K mg base (L2.CX P w) 4 (He.fAd K dd__law_rest.at_) fd ["_law_one", "_law_two"] (spD mg 2 (f__law_rest K)) ∧ Binds K fd ["_law_one", "_law_two"] [] ∧ PySem.W.keepIn K (.ref (He.fAd K dd__law_rest.at_)) = true := by
  obtain ⟨fd, F⟩ := defX n.c 19 (d := dd__law_rest) rfl
  exact ⟨fd, fn_ok (body := b__law_rest K) (He5.fun_of F) sc__law_rest rfl rfl (fun F W cdv A outer s H E hr tk po => (ds_cons (ds_while po (dt_cmp op_ge ok_ge (DE.b (de_callB or_len ok_len (by rfl) (m_len n) bb_len (da_cons (db_var 0) da_nil))) (DE.b (de_callB or_len ok_len (by rfl) (m_len n) bb_len (da_cons (db_var 1) da_nil))) rfl) (ds_cons (ds_set 2 sc__law_rest.nd rfl (by first | exact Or.inl rfl | exact Or.inr rfl) (de_sub hr.units (db_var 0) (DE.b (de_un un_neg ok_neg (DE.b de_int))) (fun _ _ => rfl))) (ds_cons (ds_set 3 sc__law_rest.nd rfl (by first | exact Or.inl rfl | exact Or.inr rfl) (DN.de (dn_cat (DE.b (DN.de (dn_rep (DE.b (DN.de (dn_lst (da_cons de_int da_nil)))) (DE.b (de_bin op_sub ok_sub (DE.b (de_callB or_len ok_len (by rfl) (m_len n) bb_len (da_cons (db_var 0) da_nil))) (DE.b (de_callB or_len ok_len (by rfl) (m_len n) bb_len (da_cons (db_var 1) da_nil)))))))) (db_var 1)))) (ds_cons (ds_set 0 sc__law_rest.nd rfl (by first | exact Or.inl rfl | exact Or.inr rfl) (de_call (d__law_trim n) hr (by rfl) tk (da_cons (DN.de (dn_lc [("_law_a", 4), ("_law_b", 5)] rfl sc__law_rest.nd (di_zip (by rfl) (m_zip n) (da_cons (de_var 0) (da_cons (de_var 3) da_nil))) (blkOk_by (N := N__law_rest) (sc := (defScope s__law_rest_)) (own := [("_law_a", 4), ("_law_b", 5)]) (by decide +kernel)) (fun F s H C cl fp => (dg_tup rfl (dgs_cons (dg_name 4 sc__law_rest.nd rfl (by first | exact Or.inl rfl | exact Or.inr rfl)) (dgs_cons (dg_name 5 sc__law_rest.nd rfl (by first | exact Or.inl rfl | exact Or.inr rfl)) dgs_nil)))) (fun F s H C cl fp => dts_nil) (fun F s H C cl fp => (de_bin op_sub ok_sub (DE.b (de_bin or_mul ok_mul (DE.b (de_sub hr.units (db_var 1) (DE.b (de_un un_neg ok_neg (DE.b de_int))) (fun _ _ => rfl))) (db_var 4))) (DE.b (de_bin or_mul ok_mul (db_var 2) (db_var 5))))) (by decide))) da_nil))) (ds_one (ds_set 0 sc__law_rest.nd rfl (by first | exact Or.inl rfl | exact Or.inr rfl) (de_call (d__law_thinned n) hr (by rfl) tk (da_cons (de_var 0) da_nil)))))))) (ds_one (ds_ret (de_var 0))))), (FunD.bindsN F fun _ _ _ _ _ _ us hl => match us, hl with | [_, _], _ => rfl), F.kp⟩
theorem d__law_rest {P : Program} {w : World} {K : PySem.W.Frag} {mg : Str → Option Value} {base : Heap} (n : Cn P K mg base) : GFn P w K mg base 4 "_law_rest" 2 (f__law_rest K) :=
  (ok__law_rest n).elim fun fd h => ⟨_, fd, _, h.1, (g_of__law_rest n), h.2.2, h.2.1⟩
abbrev s__law_is_apart_ : Stmt := (top 43)
abbrev N__law_is_apart : List Str := ["_law_one", "_law_two"]
theorem sc__law_is_apart : FnScope N__law_is_apart ["_law_one", "_law_two"] (defScope s__law_is_apart_) := ⟨rfl, rfl, rfl, by decide +kernel, rfl, by decide +kernel, by decide +kernel⟩
noncomputable def b__law_is_apart (K : PySem.W.Frag) : SF := (sSeq (sWhile (tVal (eBin opNe (bVar 1) (eN (nAll nLst [])))) (sPar 0 1 (eVar 1) (eAll (f__law_rest K) [(eVar 0), (eVar 1)]))) (sRet (eBin opEq (eAll opLen [(bVar 0)]) (eC (.int 1)))))
noncomputable def f__law_is_apart (K : PySem.W.Frag) : List D → R D := runD 0 (b__law_is_apart K)
theorem ok__law_is_apart {P : Program} {w : World} {K : PySem.W.Frag} {mg : Str → Option Value} {base : Heap} (n : Cn P K mg base) : ∃ fd, FnOk P w K mg base (L2.CX P w) 5 (He.fAd K dd__law_is_apart.at_) fd ["_law_one", "_law_two"] (spD mg 2 (f__law_is_apart K)) ∧ Binds K fd ["_law_one", "_law_two"] [] ∧ PySem.W.keepIn K (.ref (He.fAd K dd__law_is_apart.at_)) = true := by
  obtain ⟨fd, F⟩ := defX n.c 20 (d := dd__law_is_apart) rfl
  exact ⟨fd, fn_ok (body := b__law_is_apart K) (He5.fun_of F) sc__law_is_apart rfl rfl (fun F W cdv A outer s H E hr tk po => (ds_cons (ds_while po (dt_cmp (op_neD hr.units) ok_ne (db_var 1) (DE.b (DN.de (dn_lst da_nil))) rfl) (ds_one (ds_par 0 1 rfl sc__law_is_apart.nd rfl rfl (by decide) rfl rfl (da_cons (de_var 1) (da_cons (de_call (d__law_rest n) hr (by rfl) tk (da_cons (de_var 0) (da_cons (de_var 1) da_nil))) da_nil)) (by rfl)))) (ds_one (ds_ret (de_cmp (op_eqD hr.units) ok_eq (DE.b (de_callB or_len ok_len (by rfl) (m_len n) bb_len (da_cons (db_var 0) da_nil))) (DE.b de_int) rfl))))), (FunD.bindsN F fun _ _ _ _ _ _ us hl => match us, hl with | [_, _], _ => rfl), F.kp⟩
theorem d__law_is_apart {P : Program} {w : World} {K : PySem.W.Frag} {mg : Str → Option Value} {base : Heap} (n : Cn P K mg base) : GFn P w K mg base 5 "_law_is_apart" 2 (f__law_is_apart K) :=
  (ok__law_is_apart n).elim fun fd h => ⟨_, fd, _, h.1, (g_of__law_is_apart n), h.2.2, h.2.1⟩
abbrev s__law_is_int_ : Stmt := (top 44)
abbrev N__law_is_int : List Str := ["_law_number"]
theorem sc__law_is_int : FnScope N__law_is_int ["_law_number"] (defScope s__law_is_int_) := ⟨rfl, rfl, rfl, by decide +kernel, rfl, by decide +kernel, by decide +kernel⟩
noncomputable def b__law_is_int (K : PySem.W.Frag) : SF := (sRet (eAnd (eUn (opIsi (isiT K tb_int)) (bVar 0)) (eNot (eUn (opIsi (isiT K tb_bool)) (bVar 0)))))
noncomputable def f__law_is_int (K : PySem.W.Frag) : List D → R D := runD 0 (b__law_is_int K)
theorem ok__law_is_int {P : Program} {w : World} {K : PySem.W.Frag} {mg : Str → Option Value} {base : Heap} (n : Cn P K mg base) : ∃ fd, FnOk P w K mg base (L2.CX P w) 1 (He.fAd K dd__law_is_int.at_) fd ["_law_number"] (spD mg 1 (f__law_is_int K)) ∧ Binds K fd ["_law_number"] [] ∧ PySem.W.keepIn K (.ref (He.fAd K dd__law_is_int.at_)) = true := by
  obtain ⟨fd, F⟩ := defX n.c 21 (d := dd__law_is_int) rfl
  exact ⟨fd, fn_ok (body := b__law_is_int K) (He5.fun_of F) sc__law_is_int rfl rfl (fun F W cdv A outer s H E hr tk po => (ds_one (ds_ret (de_and (de_isi (isiT K tb_int) (by rfl) (m_isinstance n) (db_var 0) (pe_bltn (v := .ty "int") (by rfl) (m_int n) bb_int rfl) (ClN.ok (.ty "int")) (is_int n)) (de_one (de_not (de_isi (isiT K tb_bool) (by rfl) (m_isinstance n) (db_var 0) (pe_bltn (v := .ty "bool") (by rfl) (m_bool n) bb_bool rfl) (ClN.ok (.ty "bool")) (is_bool n)))))))), (FunD.bindsN F fun _ _ _ _ _ _ us hl => match us, hl with | [_], _ => rfl), F.kp⟩
theorem d__law_is_int {P : Program} {w : World} {K : PySem.W.Frag} {mg : Str → Option Value} {base : Heap} (n : Cn P K mg base) : GFn P w K mg base 1 "_law_is_int" 1 (f__law_is_int K) :=
  (ok__law_is_int n).elim fun fd h => ⟨_, fd, _, h.1, (g_of__law_is_int n), h.2.2, h.2.1⟩
abbrev s__law_is_row_ : Stmt := (top 45)
abbrev N__law_is_row : List Str := ["_law_row_here", "_law_number"]
theorem sc__law_is_row : FnScope N__law_is_row ["_law_row_here"] (defScope s__law_is_row_) := ⟨rfl, rfl, rfl, by decide +kernel, rfl, by decide +kernel, by decide +kernel⟩
noncomputable def b__law_is_row (K : PySem.W.Frag) : SF := (sRet (eAnd (eUn (opIsi (isiT K tb_tuple)) (bVar 0)) (eBin opEq (eN (nLc (iSeq (eVar 0)) (gN 1) (tNotF (tTru (eAll (f__law_is_int K) [(eVar 1)]))) (eVar 1) [1])) (eN (nAll nLst [])))))
noncomputable def f__law_is_row (K : PySem.W.Frag) : List D → R D := runD 1 (b__law_is_row K)
theorem ok__law_is_row {P : Program} {w : World} {K : PySem.W.Frag} {mg : Str → Option Value} {base : Heap} (n : Cn P K mg base) : ∃ fd, FnOk P w K mg base (L2.CX P w) 2 (He.fAd K dd__law_is_row.at_) fd ["_law_row_here"] (spD mg 1 (f__law_is_row K)) ∧ Binds K fd ["_law_row_here"] [] ∧ PySem.W.keepIn K (.ref (He.fAd K dd__law_is_row.at_)) = true := by
  obtain ⟨fd, F⟩ := defX n.c 22 (d := dd__law_is_row) rfl
  exact ⟨fd, fn_ok (body := b__law_is_row K) (He5.fun_of F) sc__law_is_row rfl rfl (fun F W cdv A outer s H E hr tk po => (ds_one (ds_ret (de_and (de_isi (isiT K tb_tuple) (by rfl) (m_isinstance n) (db_var 0) (pe_bltn (v := .ty "tuple") (by rfl) (m_tuple n) bb_tuple rfl) (ClN.ok (.ty "tuple")) (is_tuple n)) (de_one (de_cmp (op_eqD hr.units) ok_eq (DE.b (DN.de (dn_lc [("_law_number", 1)] rfl sc__law_is_row.nd (di_seq (de_var 0)) (blkOk_by (N := N__law_is_row) (sc := (defScope s__law_is_row_)) (own := [("_law_number", 1)]) (by decide +kernel)) (fun F s H C cl fp => (dg_name 1 sc__law_is_row.nd rfl (by first | exact Or.inl rfl | exact Or.inr rfl))) (fun F s H C cl fp => (dts_one (dt_not (dt_truth (DE.b (de_call (d__law_is_int n) hr (by rfl) DS.takes0 (da_cons (de_var 1) da_nil))))))) (fun F s H C cl fp => (de_var 1)) (by decide)))) (DE.b (DN.de (dn_lst da_nil))) rfl)))))), (FunD.bindsN F fun _ _ _ _ _ _ us hl => match us, hl with | [_], _ => rfl), F.kp⟩
theorem d__law_is_row {P : Program} {w : World} {K : PySem.W.Frag} {mg : Str → Option Value} {base : Heap} (n : Cn P K mg base) : GFn P w K mg base 2 "_law_is_row" 1 (f__law_is_row K) :=
  (ok__law_is_row n).elim fun fd h => ⟨_, fd, _, h.1, (g_of__law_is_row n), h.2.2, h.2.1⟩
abbrev s__law_at_power_ : Stmt := (top 34)
abbrev N__law_at_power : List Str := ["_law_poly", "_law_k"]
theorem sc__law_at_power : FnScope N__law_at_power ["_law_poly", "_law_k"] (defScope s__law_at_power_) := ⟨rfl, rfl, rfl, by decide +kernel, rfl, by decide +kernel, by decide +kernel⟩
noncomputable def b__law_at_power (K : PySem.W.Frag) : SF := (sSeq (sIf (tVal (eBin opLt (bVar 1) (eAll opLen [(bVar 0)]))) (sRet (eBin opIx (bVar 0) (bVar 1))) .nx) (sRet (eC (.int 0))))
noncomputable def f__law_at_power (K : PySem.W.Frag) : List D → R D := runD 0 (b__law_at_power K)
theorem ok__law_at_power {P : Program} {w : World} {K : PySem.W.Frag} {mg : Str → Option Value} {base : Heap} (n : Cn P K mg base) : ∃ fd, FnOk P w K mg base (L2.CX P w) 1 (He.fAd K dd__law_at_power.at_) fd ["_law_poly", "_law_k"] (spD mg 2 (f__law_at_power K)) ∧ Binds K fd ["_law_poly", "_law_k"] [] ∧ PySem.W.keepIn K (.ref (He.fAd K dd__law_at_power.at_)) = true := by
  obtain ⟨fd, F⟩ := defX n.c 23 (d := dd__law_at_power) rfl
  exact ⟨fd, fn_ok (body := b__law_at_power K) (He5.fun_of F) sc__law_at_power rfl rfl (fun F W cdv A outer s H E hr tk po => (ds_cons (ds_if (dt_cmp op_lt ok_lt (db_var 1) (DE.b (de_callB or_len ok_len (by rfl) (m_len n) bb_len (da_cons (db_var 0) da_nil))) rfl) (ds_one (ds_ret (de_sub hr.units (db_var 0) (db_var 1) (fun _ _ => rfl)))) ds_nil) (ds_one (ds_ret de_int)))), (FunD.bindsN F fun _ _ _ _ _ _ us hl => match us, hl with | [_, _], _ => rfl), F.kp⟩
theorem d__law_at_power {P : Program} {w : World} {K : PySem.W.Frag} {mg : Str → Option Value} {base : Heap} (n : Cn P K mg base) : GFn P w K mg base 1 "_law_at_power" 2 (f__law_at_power K) :=
  (ok__law_at_power n).elim fun fd h => ⟨_, fd, _, h.1, (g_of__law_at_power n), h.2.2, h.2.1⟩
abbrev s__law_times_ : Stmt := (top 36)
abbrev N__law_times : List Str := ["_law_one", "_law_two", "_law_out", "_law_k", "_law_j"]
theorem sc__law_times : FnScope N__law_times ["_law_one", "_law_two"] (defScope s__law_times_) := ⟨rfl, rfl, rfl, by decide +kernel, rfl, by decide +kernel, by decide +kernel⟩
noncomputable def b__law_times (K : PySem.W.Frag) : SF := (sSeq (sSetN 2 (nAll nLst [])) (sSeq (sFor (iAll opRange1 [(eBin opAdd (eAll opLen [(bVar 0)]) (eAll opLen [(bVar 1)]))]) (gN 3) (sApp 2 (eAll opSum [(eN (nLc (iAll opRange1 [(eAll opLen [(bVar 0)])]) (gN 4) (tVal (eBin opLe (bVar 4) (bVar 3))) (eBin opMul (eBin opIx (bVar 0) (bVar 4)) (eAll (f__law_at_power K) [(eVar 1), (eBin opSub (bVar 3) (bVar 4))])) [4]))]))) (fun s => (sRet (eAll (f__law_trim K) [(eVar 2)])) (fz 2 s))))
noncomputable def f__law_times (K : PySem.W.Frag) : List D → R D := runD 3 (b__law_times K)
theorem ok__law_times {P : Program} {w : World} {K : PySem.W.Frag} {mg : Str → Option Value} {base : Heap} (n : Cn P K mg base) : ∃ fd, FnOk P w K mg base (L2.CX P w) 2 (He.fAd K dd__law_times.at_) fd ["_law_one", "_law_two"] (spD mg 2 (f__law_times K)) ∧ Binds K fd ["_law_one", "_law_two"] [] ∧ PySem.W.keepIn K (.ref (He.fAd K dd__law_times.at_)) = true := by
  obtain ⟨fd, F⟩ := defX n.c 24 (d := dd__law_times) rfl
  exact ⟨fd, fn_ok (body := b__law_times K) (He5.fun_of F) sc__law_times rfl rfl (fun F W cdv A outer s H E hr tk po => (ds_cons (ds_setN 2 sc__law_times.nd rfl (by first | exact Or.inl rfl | exact Or.inr rfl) (dn_lst da_nil)) (ds_cons (ds_for po rfl (di_range1 (by rfl) (m_range n) (da_cons (DE.b (de_bin or_add ok_add (DE.b (de_callB or_len ok_len (by rfl) (m_len n) bb_len (da_cons (db_var 0) da_nil))) (DE.b (de_callB or_len ok_len (by rfl) (m_len n) bb_len (da_cons (db_var 1) da_nil))))) da_nil)) (dg_name 3 sc__law_times.nd rfl (by first | exact Or.inl rfl | exact Or.inr rfl)) (ds_one (ds_append 2 (de_callB (cr_sum rfl) ok_sum (by rfl) (m_sum n) bb_sum (da_cons (DE.b (DN.de (dn_lc [("_law_j", 4)] rfl sc__law_times.nd (di_range1 (by rfl) (m_range n) (da_cons (DE.b (de_callB or_len ok_len (by rfl) (m_len n) bb_len (da_cons (db_var 0) da_nil))) da_nil)) (blkOk_by (N := N__law_times) (sc := (defScope s__law_times_)) (own := [("_law_j", 4)]) (by decide +kernel)) (fun F s H C cl fp => (dg_name 4 sc__law_times.nd rfl (by first | exact Or.inl rfl | exact Or.inr rfl))) (fun F s H C cl fp => (dts_one (dt_cmp op_le ok_le (db_var 4) (db_var 3) rfl))) (fun F s H C cl fp => (de_bin or_mul ok_mul (DE.b (de_sub hr.units (db_var 0) (db_var 4) (fun _ _ => rfl))) (DE.b (de_call (d__law_at_power n) hr (by rfl) DS.takes0 (da_cons (de_var 1) (da_cons (de_bin op_sub ok_sub (db_var 3) (db_var 4)) da_nil)))))) (by decide)))) da_nil))))) (ds_one (ds_fz1 2 (ds_ret (de_call (d__law_trim n) hr (by rfl) tk (da_cons (de_var 2) da_nil)))))))), (FunD.bindsN F fun _ _ _ _ _ _ us hl => match us, hl with | [_, _], _ => rfl), F.kp⟩
theorem d__law_times {P : Program} {w : World} {K : PySem.W.Frag} {mg : Str → Option Value} {base : Heap} (n : Cn P K mg base) : GFn P w K mg base 2 "_law_times" 2 (f__law_times K) :=
  (ok__law_times n).elim fun fd h => ⟨_, fd, _, h.1, (g_of__law_times n), h.2.2, h.2.1⟩
abbrev s__law_is_quot_ : Stmt := (top 46)
abbrev N__law_is_quot : List Str := ["_law_found", "_law_top", "_law_bottom", "_law_one", "_law_two"]
theorem sc__law_is_quot : FnScope N__law_is_quot ["_law_found", "_law_top", "_law_bottom"] (defScope s__law_is_quot_) := ⟨rfl, rfl, rfl, by decide +kernel, rfl, by decide +kernel, by decide +kernel⟩
noncomputable def b__law_is_quot (K : PySem.W.Frag) : SF := (sSeq (sIf (tOrF (tNotF (tTru (eUn (opIsi (isiT K tb_Quot)) (bVar 0)))) (tOrF (tNotF (tTru (eAll (f__law_is_row K) [(eUn (opFld [He.ga K "Quot"] "top") (bVar 0))]))) (tNotF (tTru (eAll (f__law_is_row K) [(eUn (opFld [He.ga K "Quot"] "bottom") (bVar 0))]))))) (sRet (eC (.bl false))) .nx) (sSeq (sPar 3 4 (eN (nAll nList [(eUn (opFld [He.ga K "Quot"] "top") (bVar 0))])) (eN (nAll nList [(eUn (opFld [He.ga K "Quot"] "bottom") (bVar 0))]))) (sSeq (sIf (tOrF (tVal (eBin opEq (bVar 4) (eN (nAll nLst [])))) (tOrF (tVal (eBin opLe (eBin opIx (bVar 4) (eUn opNeg (eC (.int 1)))) (eC (.int 0)))) (tOrF (tVal (eBin opNe (bVar 3) (eAll (f__law_trim K) [(eVar 3)]))) (tVal (eBin opNe (bVar 4) (eAll (f__law_trim K) [(eVar 4)])))))) (sRet (eC (.bl false))) .nx) (sSeq (sIf (tVal (eBin opEq (bVar 3) (eN (nAll nLst [])))) (sRet (eAnd (eBin opEq (eAll (f__law_trim K) [(eVar 1)]) (eN (nAll nLst []))) (eBin opEq (bVar 4) (eN (nAll nLst [(eC (.int 1))]))))) .nx) (sSeq (sIf (tOrF (tVal (eBin opNe (eAll (f__law_gcd_of K) [(eBin opAdd (bVar 3) (bVar 4))]) (eC (.int 1)))) (tNotF (tTru (eAll (f__law_is_apart K) [(eVar 3), (eVar 4)])))) (sRet (eC (.bl false))) .nx) (sRet (eBin opEq (eAll (f__law_times K) [(eVar 3), (eVar 2)]) (eAll (f__law_times K) [(eVar 4), (eVar 1)]))))))))
noncomputable def f__law_is_quot (K : PySem.W.Frag) : List D → R D := runD 2 (b__law_is_quot K)
theorem ok__law_is_quot {P : Program} {w : World} {K : PySem.W.Frag} {mg : Str → Option Value} {base : Heap} (n : Cn P K mg base) : ∃ fd, FnOk P w K mg base (L2.CX P w) 6 (He.fAd K dd__law_is_quot.at_) fd ["_law_found", "_law_top", "_law_bottom"] (spD mg 3 (f__law_is_quot K)) ∧ Binds K fd ["_law_found", "_law_top", "_law_bottom"] [] ∧ PySem.W.keepIn K (.ref (He.fAd K dd__law_is_quot.at_)) = true := by
  obtain ⟨fd, F⟩ := defX n.c 25 (d := dd__law_is_quot) rfl
  exact ⟨fd, fn_ok (body := b__law_is_quot K) (He5.fun_of F) sc__law_is_quot rfl rfl (fun F W cdv A outer s H E hr tk po => (ds_cons (ds_if (dt_w (dw_or (dt_not (dt_truth (DE.b (de_isi (isiT K tb_Quot) (by rfl) (m_isinstance n) (db_var 0) (pe_glob (v := .ref (He.ga K "Quot")) (by rfl) (g_of_Quot n) rfl) (ClN.ok (.own "Quot")) (is_Quot n))))) (dw_or (dt_not (dt_truth (DE.b (de_call (d__law_is_row n) hr (by rfl) tk (da_cons (de_fld (Cs := [He.ga K "Quot"]) (one_mem ⟨(c_Quot n), (na_Quot_top n)⟩) (db_var 0)) da_nil))))) (dw_or1 (dt_not (dt_truth (DE.b (de_call (d__law_is_row n) hr (by rfl) tk (da_cons (de_fld (Cs := [He.ga K "Quot"]) (one_mem ⟨(c_Quot n), (na_Quot_bottom n)⟩) (db_var 0)) da_nil))))))))) (ds_one (ds_ret de_bl)) ds_nil) (ds_cons (ds_par 3 4 rfl sc__law_is_quot.nd rfl rfl (by decide) rfl rfl (da_cons (DN.de (dn_list rfl rfl (by rfl) (m_list n) (da_cons (DE.b (de_fld (Cs := [He.ga K "Quot"]) (one_mem ⟨(c_Quot n), (na_Quot_top n)⟩) (db_var 0))) da_nil))) (da_cons (DN.de (dn_list rfl rfl (by rfl) (m_list n) (da_cons (DE.b (de_fld (Cs := [He.ga K "Quot"]) (one_mem ⟨(c_Quot n), (na_Quot_bottom n)⟩) (db_var 0))) da_nil))) da_nil)) (by rfl)) (ds_cons (ds_if (dt_w (dw_or (dt_cmp (op_eqD hr.units) ok_eq (db_var 4) (DE.b (DN.de (dn_lst da_nil))) rfl) (dw_or (dt_cmp op_le ok_le (DE.b (de_sub hr.units (db_var 4) (DE.b (de_un un_neg ok_neg (DE.b de_int))) (fun _ _ => rfl))) (DE.b de_int) rfl) (dw_or (dt_cmp (op_neD hr.units) ok_ne (db_var 3) (DE.b (de_call (d__law_trim n) hr (by rfl) tk (da_cons (de_var 3) da_nil))) rfl) (dw_or1 (dt_cmp (op_neD hr.units) ok_ne (db_var 4) (DE.b (de_call (d__law_trim n) hr (by rfl) tk (da_cons (de_var 4) da_nil))) rfl)))))) (ds_one (ds_ret de_bl)) ds_nil) (ds_cons (ds_if (dt_cmp (op_eqD hr.units) ok_eq (db_var 3) (DE.b (DN.de (dn_lst da_nil))) rfl) (ds_one (ds_ret (de_and (de_cmp (op_eqD hr.units) ok_eq (DE.b (de_call (d__law_trim n) hr (by rfl) tk (da_cons (de_var 1) da_nil))) (DE.b (DN.de (dn_lst da_nil))) rfl) (de_one (de_cmp (op_eqD hr.units) ok_eq (db_var 4) (DE.b (DN.de (dn_lst (da_cons de_int da_nil)))) rfl))))) ds_nil) (ds_cons (ds_if (dt_w (dw_or (dt_cmp (op_neD hr.units) ok_ne (DE.b (de_call (d__law_gcd_of n) hr (by rfl) tk (da_cons (de_bin or_add ok_add (db_var 3) (db_var 4)) da_nil))) (DE.b de_int) rfl) (dw_or1 (dt_not (dt_truth (DE.b (de_call (d__law_is_apart n) hr (by rfl) tk (da_cons (de_var 3) (da_cons (de_var 4) da_nil))))))))) (ds_one (ds_ret de_bl)) ds_nil) (ds_one (ds_ret (de_cmp (op_eqD hr.units) ok_eq (DE.b (de_call (d__law_times n) hr (by rfl) tk (da_cons (de_var 3) (da_cons (de_var 2) da_nil)))) (DE.b (de_call (d__law_times n) hr (by rfl) tk (da_cons (de_var 4) (da_cons (de_var 1) da_nil)))) rfl))))))))), (FunD.bindsN F fun _ _ _ _ _ _ us hl => match us, hl with | [_, _, _], _ => rfl), F.kp⟩
theorem d__law_is_quot {P : Program} {w : World} {K : PySem.W.Frag} {mg : Str → Option Value} {base : Heap} (n : Cn P K mg base) : GFn P w K mg base 6 "_law_is_quot" 3 (f__law_is_quot K) :=
  (ok__law_is_quot n).elim fun fd h => ⟨_, fd, _, h.1, (g_of__law_is_quot n), h.2.2, h.2.1⟩
abbrev s__law_met_ : Stmt := (top 47)
abbrev N__law_met : List Str := ["_law_top", "_law_bottom"]
theorem sc__law_met : FnScope N__law_met ["_law_top", "_law_bottom"] (defScope s__law_met_) := ⟨rfl, rfl, rfl, by decide +kernel, rfl, by decide +kernel, by decide +kernel⟩
noncomputable def b__law_met (K : PySem.W.Frag) : SF := (sSeq (sTry xtb (sExpr (eAll (opMake (He.ga K "Quot") (f_Quot_init K)) [(bVar 0), (bVar 1)])) [("NoQuot", none, fun xfs => (sRet (eC (.bl true))))]) (sRet (eC (.bl false))))
noncomputable def f__law_met (K : PySem.W.Frag) : List D → R D := runD 0 (b__law_met K)
theorem ok__law_met {P : Program} {w : World} {K : PySem.W.Frag} {mg : Str → Option Value} {base : Heap} (n : Cn P K mg base) : ∃ fd, FnOk P w K mg base (L2.CX P w) 8 (He.fAd K dd__law_met.at_) fd ["_law_top", "_law_bottom"] (spD mg 2 (f__law_met K)) ∧ Binds K fd ["_law_top", "_law_bottom"] [] ∧ PySem.W.keepIn K (.ref (He.fAd K dd__law_met.at_)) = true := by
  obtain ⟨fd, F⟩ := defX n.c 26 (d := dd__law_met) rfl
  exact ⟨fd, fn_ok (body := b__law_met K) (He5.fun_of F) sc__law_met rfl rfl (fun F W cdv A outer s H E hr tk po => (ds_cons (ds_try rfl rfl sc__law_met.nd tk (xtb_ok n) (fun W pn xe tk po => (ds_one (ds_expr (de_makeB (m_Quot_init n) hr (by rfl) tk (da_cons (db_var 0) (da_cons (db_var 1) da_nil)))))) (DCl.one (by rfl) (by decide) (g_of_NoQuot n) (fun F xfs x o k d pn hz hf hx xa => (ds_one (ds_ret de_bl))) DCl.nil)) (ds_one (ds_ret de_bl)))), (FunD.bindsN F fun _ _ _ _ _ _ us hl => match us, hl with | [_, _], _ => rfl), F.kp⟩
theorem d__law_met {P : Program} {w : World} {K : PySem.W.Frag} {mg : Str → Option Value} {base : Heap} (n : Cn P K mg base) : GFn P w K mg base 8 "_law_met" 2 (f__law_met K) :=
  (ok__law_met n).elim fun fd h => ⟨_, fd, _, h.1, (g_of__law_met n), h.2.2, h.2.1⟩
abbrev s__law_plus_ : Stmt := (top 35)
abbrev N__law_plus : List Str := ["_law_one", "_law_two", "_law_k"]
theorem sc__law_plus : FnScope N__law_plus ["_law_one", "_law_two"] (defScope s__law_plus_) := ⟨rfl, rfl, rfl, by decide +kernel, rfl, by decide +kernel, by decide +kernel⟩
noncomputable def b__law_plus (K : PySem.W.Frag) : SF := (sRet (eAll (f__law_trim K) [(eN (nLc (iAll opRange1 [(eAll opMax [(eN (nAll nLst [(eAll opLen [(bVar 0)]), (eAll opLen [(bVar 1)])]))])]) (gN 2) tYesF (eBin opAdd (eAll (f__law_at_power K) [(eVar 0), (eVar 2)]) (eAll (f__law_at_power K) [(eVar 1), (eVar 2)])) [2]))]))
noncomputable def f__law_plus (K : PySem.W.Frag) : List D → R D := runD 1 (b__law_plus K)
theorem ok__law_plus {P : Program} {w : World} {K : PySem.W.Frag} {mg : Str → Option Value} {base : Heap} (n : Cn P K mg base) : ∃ fd, FnOk P w K mg base (L2.CX P w) 2 (He.fAd K dd__law_plus.at_) fd ["_law_one", "_law_two"] (spD mg 2 (f__law_plus K)) ∧ Binds K fd ["_law_one", "_law_two"] [] ∧ PySem.W.keepIn K (.ref (He.fAd K dd__law_plus.at_)) = true := by
  obtain ⟨fd, F⟩ := defX n.c 27 (d := dd__law_plus) rfl
  exact ⟨fd, fn_ok (body := b__law_plus K) (He5.fun_of F) sc__law_plus rfl rfl (fun F W cdv A outer s H E hr tk po => (ds_one (ds_ret (de_call (d__law_trim n) hr (by rfl) tk (da_cons (DN.de (dn_lc [("_law_k", 2)] rfl sc__law_plus.nd (di_range1 (by rfl) (m_range n) (da_cons (DE.b (de_callB (cr_max rfl) ok_max (by rfl) (m_max n) bb_max (da_cons (DE.b (DN.de (dn_lst (da_cons (de_callB or_len ok_len (by rfl) (m_len n) bb_len (da_cons (db_var 0) da_nil)) (da_cons (de_callB or_len ok_len (by rfl) (m_len n) bb_len (da_cons (db_var 1) da_nil)) da_nil))))) da_nil))) da_nil)) (blkOk_by (N := N__law_plus) (sc := (defScope s__law_plus_)) (own := [("_law_k", 2)]) (by decide +kernel)) (fun F s H C cl fp => (dg_name 2 sc__law_plus.nd rfl (by first | exact Or.inl rfl | exact Or.inr rfl))) (fun F s H C cl fp => dts_nil) (fun F s H C cl fp => (de_bin or_add ok_add (DE.b (de_call (d__law_at_power n) hr (by rfl) DS.takes0 (da_cons (de_var 0) (da_cons (de_var 2) da_nil)))) (DE.b (de_call (d__law_at_power n) hr (by rfl) DS.takes0 (da_cons (de_var 1) (da_cons (de_var 2) da_nil)))))) (by decide))) da_nil))))), (FunD.bindsN F fun _ _ _ _ _ _ us hl => match us, hl with | [_, _], _ => rfl), F.kp⟩
theorem d__law_plus {P : Program} {w : World} {K : PySem.W.Frag} {mg : Str → Option Value} {base : Heap} (n : Cn P K mg base) : GFn P w K mg base 2 "_law_plus" 2 (f__law_plus K) :=
  (ok__law_plus n).elim fun fd h => ⟨_, fd, _, h.1, (g_of__law_plus n), h.2.2, h.2.1⟩
abbrev s__law_row_ : Stmt := (top 32)
abbrev N__law_row : List Str := ["_law_cell_here", "_law_sizes", "_law_out", "_law_size", "_law_seed", "_law_k", "_law_mixed"]
theorem sc__law_row : FnScope N__law_row ["_law_cell_here", "_law_sizes"] (defScope s__law_row_) := ⟨rfl, rfl, rfl, by decide +kernel, rfl, by decide +kernel, by decide +kernel⟩
noncomputable def b__law_row (K : PySem.W.Frag) : SF := (sSeq (sSetN 2 (nAll nLst [])) (sSeq (sIf (tVal (eBin opGe (bVar 0) (eBin opPow (eC (.int 10)) (eC (.int 18))))) (sSeq (sFor (iSeq (eVar 1)) (gN 3) (sSeq (sApp 2 (eBin opMod (eAll opInt [(bVar 0)]) (bVar 3))) (sSet 0 (eBin opFdiv (bVar 0) (bVar 3))))) (fun s => (sRet (eVar 2)) (fz 2 s))) .nx) (sSeq (sSet 4 (eBin opMod (eAll opInt [(bVar 0)]) (eC (.int 2147483647)))) (sSeq (sFor (iAll opRange1 [(eAll opLen [(bVar 1)])]) (gN 5) (sSeq (sSet 6 (eBin opAdd (eBin opMod (eAll opInt [(eBin opPow (eBin opAdd (eBin opAdd (bVar 4) (eBin opMul (eC (.int 7919)) (bVar 5))) (eC (.int 104729))) (eC (.int 5)))]) (eC (.int 2147483647))) (bVar 5))) (sApp 2 (eBin opMod (eAll opInt [(eBin opMod (eAll opInt [(eBin opMul (bVar 6) (eC (.int 40692)))]) (eC (.int 2147483629)))]) (eBin opIx (bVar 1) (bVar 5)))))) (fun s => (sRet (eVar 2)) (fz 2 s))))))
noncomputable def f__law_row (K : PySem.W.Frag) : List D → R D := runD 5 (b__law_row K)
theorem ok__law_row {P : Program} {w : World} {K : PySem.W.Frag} {mg : Str → Option Value} {base : Heap} (n : Cn P K mg base) : ∃ fd, FnOk P w K mg base (L2.CX P w) 1 (He.fAd K dd__law_row.at_) fd ["_law_cell_here", "_law_sizes"] (spD mg 2 (f__law_row K)) ∧ Binds K fd ["_law_cell_here", "_law_sizes"] [] ∧ PySem.W.keepIn K (.ref (He.fAd K dd__law_row.at_)) = true := by
  obtain ⟨fd, F⟩ := defX n.c 28 (d := dd__law_row) rfl
  exact ⟨fd, fn_ok (body := b__law_row K) (He5.fun_of F) sc__law_row rfl rfl (fun F W cdv A outer s H E hr tk po => (ds_cons (ds_setN 2 sc__law_row.nd rfl (by first | exact Or.inl rfl | exact Or.inr rfl) (dn_lst da_nil)) (ds_cons (ds_if (dt_cmp op_ge ok_ge (db_var 0) (DE.b (de_bin op_pow ok_pow (DE.b de_int) (DE.b de_int))) rfl) (ds_cons (ds_for po rfl (di_seq (de_var 1)) (dg_name 3 sc__law_row.nd rfl (by first | exact Or.inl rfl | exact Or.inr rfl)) (ds_cons (ds_append 2 (de_bin op_modN ok_mod (DE.b (de_callTy or_int ok_int (by rfl) (m_int n) bb_int (da_cons (db_var 0) da_nil))) (db_var 3))) (ds_one (ds_set 0 sc__law_row.nd rfl (by first | exact Or.inl rfl | exact Or.inr rfl) (de_bin op_fdivA ok_fdiv (db_var 0) (db_var 3)))))) (ds_one (ds_fz1 2 (ds_ret (de_var 2))))) ds_nil) (ds_cons (ds_set 4 sc__law_row.nd rfl (by first | exact Or.inl rfl | exact Or.inr rfl) (de_bin op_modN ok_mod (DE.b (de_callTy or_int ok_int (by rfl) (m_int n) bb_int (da_cons (db_var 0) da_nil))) (DE.b de_int))) (ds_cons (ds_for po rfl (di_range1 (by rfl) (m_range n) (da_cons (DE.b (de_callB or_len ok_len (by rfl) (m_len n) bb_len (da_cons (db_var 1) da_nil))) da_nil)) (dg_name 5 sc__law_row.nd rfl (by first | exact Or.inl rfl | exact Or.inr rfl)) (ds_cons (ds_set 6 sc__law_row.nd rfl (by first | exact Or.inl rfl | exact Or.inr rfl) (de_bin or_add ok_add (DE.b (de_bin op_modN ok_mod (DE.b (de_callTy or_int ok_int (by rfl) (m_int n) bb_int (da_cons (DE.b (de_bin op_pow ok_pow (DE.b (de_bin or_add ok_add (DE.b (de_bin or_add ok_add (db_var 4) (DE.b (de_bin or_mul ok_mul (DE.b de_int) (db_var 5))))) (DE.b de_int))) (DE.b de_int))) da_nil))) (DE.b de_int))) (db_var 5))) (ds_one (ds_append 2 (de_bin op_modN ok_mod (DE.b (de_callTy or_int ok_int (by rfl) (m_int n) bb_int (da_cons (DE.b (de_bin op_modN ok_mod (DE.b (de_callTy or_int ok_int (by rfl) (m_int n) bb_int (da_cons (DE.b (de_bin or_mul ok_mul (db_var 6) (DE.b de_int))) da_nil))) (DE.b de_int))) da_nil))) (DE.b (de_sub hr.units (db_var 1) (db_var 5) (fun _ _ => rfl)))))))) (ds_one (ds_fz1 2 (ds_ret (de_var 2))))))))), (FunD.bindsN F fun _ _ _ _ _ _ us hl => match us, hl with | [_, _], _ => rfl), F.kp⟩
theorem d__law_row {P : Program} {w : World} {K : PySem.W.Frag} {mg : Str → Option Value} {base : Heap} (n : Cn P K mg base) : GFn P w K mg base 1 "_law_row" 2 (f__law_row K) :=
  (ok__law_row n).elim fun fd h => ⟨_, fd, _, h.1, (g_of__law_row n), h.2.2, h.2.1⟩
abbrev s__law_some_poly_ : Stmt := (top 38)
abbrev N__law_some_poly : List Str := ["_law_draws", "_law_found"]
theorem sc__law_some_poly : FnScope N__law_some_poly ["_law_draws"] (defScope s__law_some_poly_) := ⟨rfl, rfl, rfl, by decide +kernel, rfl, by decide +kernel, by decide +kernel⟩
noncomputable def b__law_some_poly (K : PySem.W.Frag) : SF := (sSeq (sSet 1 (eAll (f__law_trim K) [(eAll (f__law_drawn_poly K) [(eVar 0)])])) (sSeq (sIf (tVal (eBin opEq (bVar 1) (eN (nAll nLst [])))) (sRet (eN (nAll nLst [(eBin opAdd (eC (.int 1)) (eBin opIx (bVar 0) (eC (.int 0)))), (eC (.int 1))]))) .nx) (sRet (eVar 1))))
noncomputable def f__law_some_poly (K : PySem.W.Frag) : List D → R D := runD 1 (b__law_some_poly K)
theorem ok__law_some_poly {P : Program} {w : World} {K : PySem.W.Frag} {mg : Str → Option Value} {base : Heap} (n : Cn P K mg base) : ∃ fd, FnOk P w K mg base (L2.CX P w) 2 (He.fAd K dd__law_some_poly.at_) fd ["_law_draws"] (spD mg 1 (f__law_some_poly K)) ∧ Binds K fd ["_law_draws"] [] ∧ PySem.W.keepIn K (.ref (He.fAd K dd__law_some_poly.at_)) = true := by
  obtain ⟨fd, F⟩ := defX n.c 29 (d := dd__law_some_poly) rfl
  exact ⟨fd, fn_ok (body := b__law_some_poly K) (He5.fun_of F) sc__law_some_poly rfl rfl (fun F W cdv A outer s H E hr tk po => (ds_cons (ds_set 1 sc__law_some_poly.nd rfl (by first | exact Or.inl rfl | exact Or.inr rfl) (de_call (d__law_trim n) hr (by rfl) tk (da_cons (de_call (d__law_drawn_poly n) hr (by rfl) tk (da_cons (de_var 0) da_nil)) da_nil))) (ds_cons (ds_if (dt_cmp (op_eqD hr.units) ok_eq (db_var 1) (DE.b (DN.de (dn_lst da_nil))) rfl) (ds_one (ds_ret (DN.de (dn_lst (da_cons (de_bin or_add ok_add (DE.b de_int) (DE.b (de_sub hr.units (db_var 0) (DE.b de_int) (fun _ _ => rfl)))) (da_cons de_int da_nil)))))) ds_nil) (ds_one (ds_ret (de_var 1)))))), (FunD.bindsN F fun _ _ _ _ _ _ us hl => match us, hl with | [_], _ => rfl), F.kp⟩
theorem d__law_some_poly {P : Program} {w : World} {K : PySem.W.Frag} {mg : Str → Option Value} {base : Heap} (n : Cn P K mg base) : GFn P w K mg base 2 "_law_some_poly" 1 (f__law_some_poly K) :=
  (ok__law_some_poly n).elim fun fd h => ⟨_, fd, _, h.1, (g_of__law_some_poly n), h.2.2, h.2.1⟩
abbrev s_law_ : Stmt := (top 48)
abbrev N_law : List Str := ["_law_script", "_law_sizes", "_law_row_here", "_law_longer", "_law_upper", "_law_lower", "_law_by", "_law_one", "_law_two", "_law_kept", "_law_found", "_law_plain", "_law_other"]
theorem sc_law : FnScope N_law ["_law_script"] (defScope s_law_) := ⟨rfl, rfl, rfl, by decide +kernel, rfl, by decide +kernel, by decide +kernel⟩
noncomputable def b_law (K : PySem.W.Frag) : SF := (sSeq (sSet 1 (eN (nBin opCatN (eN (nAll nLst [(eC (.int 4)), (eC (.int 4)), (eC (.int 2)), (eC (.int 2)), (eC (.int 9)), (eC (.int 9)), (eC (.int 3)), (eC (.int 3)), (eC (.int 4)), (eC (.int 4))])) (eN (nBin opRepN (eN (nAll nLst [(eC (.int 9))])) (eC (.int 30))))))) (sSeq (sSet 2 (eAll (f__law_row K) [(eAll (f__law_cell K) [(eVar 0), (eC (.int 0))]), (eVar 1)])) (sSeq (sSet 3 (eBin opMul (eC (.int 4)) (eAll opIntB [(eBin opEq (eBin opIx (bVar 2) (eC (.int 9))) (eC (.int 0)))]))) (sSeq (sSet 4 (eAll (f__law_trim K) [(eAll (f__law_drawn_poly K) [(eN (nBin opCatN (eN (nAll nLst [(eBin opAdd (eBin opIx (bVar 2) (eC (.int 0))) (bVar 3))])) (eSlice (bVar 2) (fun s => ((eC (.int 10)) s).bind asInt) (fun s => ((eC (.int 18)) s).bind asInt))))])])) (sSeq (sSet 5 (eAll (f__law_some_poly K) [(eN (nBin opCatN (eN (nAll nLst [(eBin opAdd (eBin opIx (bVar 2) (eC (.int 1))) (bVar 3))])) (eSlice (bVar 2) (fun s => ((eC (.int 18)) s).bind asInt) (fun s => ((eC (.int 26)) s).bind asInt))))])) (sSeq (sIf (tVal (eBin opEq (eBin opIx (bVar 2) (eC (.int 8))) (eC (.int 0)))) (sSet 5 (eN (nAll nLst [(eC (.int 1))]))) .nx) (sSeq (sSet 6 (eAll (f__law_times K) [(eAll (f__law_some_poly K) [(eN (nBin opCatN (eN (nAll nLst [(eBin opIx (bVar 2) (eC (.int 2)))])) (eSlice (bVar 2) (fun s => ((eC (.int 26)) s).bind asInt) (fun s => ((eC (.int 29)) s).bind asInt))))]), (eAll (f__law_some_poly K) [(eN (nBin opCatN (eN (nAll nLst [(eBin opIx (bVar 2) (eC (.int 3)))])) (eSlice (bVar 2) (fun s => ((eC (.int 29)) s).bind asInt) (fun s => ((eC (.int 32)) s).bind asInt))))])])) (sSeq (sSet 6 (eAll (f__law_times K) [(eVar 6), (eN (nAll nLst [(eBin opIx (eN (nAll nLst [(eBin opSub (eBin opIx (bVar 2) (eC (.int 4))) (eC (.int 9))), (eBin opAdd (eBin opIx (bVar 2) (eC (.int 4))) (eC (.int 1)))])) (eAll opIntB [(eBin opGt (eBin opIx (bVar 2) (eC (.int 5))) (eC (.int 4)))]))]))])) (sSeq (sSetN 7 (nBin opCatN (eAll (f__law_times K) [(eVar 4), (eVar 6)]) (eN (nBin opRepN (eN (nAll nLst [(eC (.int 0))])) (eBin opIx (bVar 2) (eC (.int 6))))))) (sSeq (sSetN 8 (nBin opCatN (eAll (f__law_times K) [(eVar 5), (eVar 6)]) (eN (nBin opRepN (eN (nAll nLst [(eC (.int 0))])) (eBin opIx (bVar 2) (eC (.int 7))))))) (sSeq (sSet 9 (eN (nAll nLst [(eN (nAll nList [(bVar 7)])), (eN (nAll nList [(bVar 8)]))]))) (sSeq (sSet 10 (eIf (tVal (eBin opEq (eBin opMod (eBin opIx (bVar 2) (eC (.int 5))) (eC (.int 2))) (eC (.int 0)))) (eAll (opMake (He.ga K "Quot") (f_Quot_init K)) [(bVar 7), (bVar 8)]) (eAll (opMake (He.ga K "Quot") (f_Quot_init K)) [(eAll opTuple [(bVar 7)]), (eAll opTuple [(bVar 8)])]))) (sSeq (sIf (tOrF (tNotF (tTru (eAll (f__law_is_quot K) [(eVar 10), (eVar 4), (eVar 5)]))) (tVal (eBin opNe (eAll opLst [(bVar 7), (bVar 8)]) (bVar 9)))) (sRet (eC (.bl false))) .nx) (sSeq (sSet 11 (eIf (tVal (eBin opEq (bVar 5) (eN (nAll nLst [(eC (.int 1))])))) (eAll (opMakeD (He.ga K "Quot") (f_Quot_init K) ((He.dflAt ("Quot", some "__init__") 0) K) [1]) [(bVar 4)]) (eAll (opMake (He.ga K "Quot") (f_Quot_init K)) [(bVar 4), (bVar 5)]))) (sSeq (sIf (tOrF (tNotF (tTru (eAll (f__law_is_quot K) [(eVar 11), (eVar 4), (eVar 5)]))) (tOrF (tNotF (tVal (eBin (opEqO (He.ga K "Quot") (kTs K kt_Quot) (f_Quot_eq K)) (eVar 10) (eVar 11)))) (tVal (eBin (opNeO (He.ga K "Quot") (kTs K kt_Quot) (f_Quot_eq K)) (eVar 10) (eVar 11))))) (sRet (eC (.bl false))) .nx) (sSeq (sSet 12 (eAll (f__law_plus K) [(eVar 4), (eVar 6)])) (sSeq (sIf (tOrF (tVal (eBin (opEqO (He.ga K "Quot") (kTs K kt_Quot) (f_Quot_eq K)) (eAll (opMake (He.ga K "Quot") (f_Quot_init K)) [(bVar 12), (bVar 5)]) (eVar 11))) (tNotF (tVal (eBin (opNeO (He.ga K "Quot") (kTs K kt_Quot) (f_Quot_eq K)) (eAll (opMake (He.ga K "Quot") (f_Quot_init K)) [(bVar 12), (bVar 5)]) (eVar 11))))) (sRet (eC (.bl false))) .nx) (sSeq (sApp 7 (eC (.int 5))) (sSeq (sClear 8) (sSeq (sIf (tNotF (tTru (eAll (f__law_is_quot K) [(eVar 10), (eVar 4), (eVar 5)]))) (sRet (eC (.bl false))) .nx) (sRet (eBin opEq (eN (nAll nLst [(eAll (f__law_met K) [(eVar 4), (eN (nAll nLst []))]), (eAll (f__law_met K) [(eVar 4), (eN (nBin opRepN (eN (nAll nLst [(eC (.int 0))])) (eBin opIx (bVar 2) (eC (.int 7)))))]), (eAll (f__law_met K) [(eN (nAll nLst [])), (eAll opTup [(eC (.int 0)), (eC (.int 0))])])])) (eN (nAll nLst [(eC (.bl true)), (eC (.bl true)), (eC (.bl true))]))))))))))))))))))))))))
noncomputable def f_law (K : PySem.W.Frag) : List D → R D := runD 12 (b_law K)
theorem okf_law {P : Program} {w : World} {K : PySem.W.Frag} {mg : Str → Option Value} {base : Heap} (n : Cn P K mg base) {fd : FuncData} (F : FunD K "law" "law" (defArgs s_law_) (defBody s_law_) (defScope s_law_) [] [] (He.fAd K dd_law.at_) fd) : FnOk P w K mg base (L2.CX P w) 9 (He.fAd K dd_law.at_) fd ["_law_script"] (spD mg 1 (f_law K)) :=
  fn_ok (body := b_law K) (He5.fun_of F) sc_law rfl rfl fun F W cdv A outer s H E hr tk po => (ds_cons (ds_set 1 sc_law.nd rfl (by first | exact Or.inl rfl | exact Or.inr rfl) (DN.de (dn_cat (DE.b (DN.de (dn_lst (da_cons de_int (da_cons de_int (da_cons de_int (da_cons de_int (da_cons de_int (da_cons de_int (da_cons de_int (da_cons de_int (da_cons de_int (da_cons de_int da_nil))))))))))))) (DE.b (DN.de (dn_rep (DE.b (DN.de (dn_lst (da_cons de_int da_nil)))) (DE.b de_int))))))) (ds_cons (ds_set 2 sc_law.nd rfl (by first | exact Or.inl rfl | exact Or.inr rfl) (de_call (d__law_row n) hr (by rfl) tk (da_cons (de_call (d__law_cell n) hr (by rfl) tk (da_cons (de_var 0) (da_cons de_int da_nil))) (da_cons (de_var 1) da_nil)))) (ds_cons (ds_set 3 sc_law.nd rfl (by first | exact Or.inl rfl | exact Or.inr rfl) (de_bin or_mul ok_mul (DE.b de_int) (DE.b (de_callTy or_int ok_intB (by rfl) (m_int n) bb_int (da_cons (DE.b (de_cmp (op_eqD hr.units) ok_eq (DE.b (de_sub hr.units (db_var 2) (DE.b de_int) (fun _ _ => rfl))) (DE.b de_int) rfl)) da_nil))))) (ds_cons (ds_set 4 sc_law.nd rfl (by first | exact Or.inl rfl | exact Or.inr rfl) (de_call (d__law_trim n) hr (by rfl) tk (da_cons (de_call (d__law_drawn_poly n) hr (by rfl) tk (da_cons (DN.de (dn_cat (DE.b (DN.de (dn_lst (da_cons (de_bin or_add ok_add (DE.b (de_sub hr.units (db_var 2) (DE.b de_int) (fun _ _ => rfl))) (db_var 3)) da_nil)))) (DE.b (de_slice (db_var 2) (do_some (DE.b de_int)) (do_some (DE.b de_int)))))) da_nil)) da_nil))) (ds_cons (ds_set 5 sc_law.nd rfl (by first | exact Or.inl rfl | exact Or.inr rfl) (de_call (d__law_some_poly n) hr (by rfl) tk (da_cons (DN.de (dn_cat (DE.b (DN.de (dn_lst (da_cons (de_bin or_add ok_add (DE.b (de_sub hr.units (db_var 2) (DE.b de_int) (fun _ _ => rfl))) (db_var 3)) da_nil)))) (DE.b (de_slice (db_var 2) (do_some (DE.b de_int)) (do_some (DE.b de_int)))))) da_nil))) (ds_cons (ds_if (dt_cmp (op_eqD hr.units) ok_eq (DE.b (de_sub hr.units (db_var 2) (DE.b de_int) (fun _ _ => rfl))) (DE.b de_int) rfl) (ds_one (ds_set 5 sc_law.nd rfl (by first | exact Or.inl rfl | exact Or.inr rfl) (DN.de (dn_lst (da_cons de_int da_nil))))) ds_nil) (ds_cons (ds_set 6 sc_law.nd rfl (by first | exact Or.inl rfl | exact Or.inr rfl) (de_call (d__law_times n) hr (by rfl) tk (da_cons (de_call (d__law_some_poly n) hr (by rfl) tk (da_cons (DN.de (dn_cat (DE.b (DN.de (dn_lst (da_cons (de_sub hr.units (db_var 2) (DE.b de_int) (fun _ _ => rfl)) da_nil)))) (DE.b (de_slice (db_var 2) (do_some (DE.b de_int)) (do_some (DE.b de_int)))))) da_nil)) (da_cons (de_call (d__law_some_poly n) hr (by rfl) tk (da_cons (DN.de (dn_cat (DE.b (DN.de (dn_lst (da_cons (de_sub hr.units (db_var 2) (DE.b de_int) (fun _ _ => rfl)) da_nil)))) (DE.b (de_slice (db_var 2) (do_some (DE.b de_int)) (do_some (DE.b de_int)))))) da_nil)) da_nil)))) (ds_cons (ds_set 6 sc_law.nd rfl (by first | exact Or.inl rfl | exact Or.inr rfl) (de_call (d__law_times n) hr (by rfl) tk (da_cons (de_var 6) (da_cons (DN.de (dn_lst (da_cons (de_sub hr.units (DE.b (DN.de (dn_lst (da_cons (de_bin op_sub ok_sub (DE.b (de_sub hr.units (db_var 2) (DE.b de_int) (fun _ _ => rfl))) (DE.b de_int)) (da_cons (de_bin or_add ok_add (DE.b (de_sub hr.units (db_var 2) (DE.b de_int) (fun _ _ => rfl))) (DE.b de_int)) da_nil))))) (DE.b (de_callTy or_int ok_intB (by rfl) (m_int n) bb_int (da_cons (DE.b (de_cmp op_gt ok_gt (DE.b (de_sub hr.units (db_var 2) (DE.b de_int) (fun _ _ => rfl))) (DE.b de_int) rfl)) da_nil))) (fun _ _ => rfl)) da_nil))) da_nil)))) (ds_cons (ds_setN 7 sc_law.nd rfl (by first | exact Or.inl rfl | exact Or.inr rfl) (dn_cat (DE.b (de_call (d__law_times n) hr (by rfl) tk (da_cons (de_var 4) (da_cons (de_var 6) da_nil)))) (DE.b (DN.de (dn_rep (DE.b (DN.de (dn_lst (da_cons de_int da_nil)))) (DE.b (de_sub hr.units (db_var 2) (DE.b de_int) (fun _ _ => rfl)))))))) (ds_cons (ds_setN 8 sc_law.nd rfl (by first | exact Or.inl rfl | exact Or.inr rfl) (dn_cat (DE.b (de_call (d__law_times n) hr (by rfl) tk (da_cons (de_var 5) (da_cons (de_var 6) da_nil)))) (DE.b (DN.de (dn_rep (DE.b (DN.de (dn_lst (da_cons de_int da_nil)))) (DE.b (de_sub hr.units (db_var 2) (DE.b de_int) (fun _ _ => rfl)))))))) (ds_cons (ds_set 9 sc_law.nd rfl (by first | exact Or.inl rfl | exact Or.inr rfl) (DN.de (dn_lst (da_cons (DN.de (dn_list rfl rfl (by rfl) (m_list n) (da_cons (db_var 7) da_nil))) (da_cons (DN.de (dn_list rfl rfl (by rfl) (m_list n) (da_cons (db_var 8) da_nil))) da_nil))))) (ds_cons (ds_set 10 sc_law.nd rfl (by first | exact Or.inl rfl | exact Or.inr rfl) (de_ifExp (bb := false) (dt_cmp (op_eqD hr.units) ok_eq (DE.b (de_bin op_modN ok_mod (DE.b (de_sub hr.units (db_var 2) (DE.b de_int) (fun _ _ => rfl))) (DE.b de_int))) (DE.b de_int) rfl) (de_makeB (m_Quot_init n) hr (by rfl) tk (da_cons (db_var 7) (da_cons (db_var 8) da_nil))) (de_makeB (m_Quot_init n) hr (by rfl) tk (da_cons (DE.b (de_callTy call_tuple_of ok_tuple (by rfl) (m_tuple n) bb_tuple (da_cons (db_var 7) da_nil))) (da_cons (DE.b (de_callTy call_tuple_of ok_tuple (by rfl) (m_tuple n) bb_tuple (da_cons (db_var 8) da_nil))) da_nil))))) (ds_cons (ds_if (dt_w (dw_or (dt_not (dt_truth (DE.b (de_call (d__law_is_quot n) hr (by rfl) tk (da_cons (de_var 10) (da_cons (de_var 4) (da_cons (de_var 5) da_nil))))))) (dw_or1 (dt_cmpO (op_neD hr.units) ok_ne ne_flat (do_lst (dao_cons (DX.o (db_var 7)) (dao_cons (DX.o (db_var 8)) dao_nil))) (DX.o (db_var 9)) rfl)))) (ds_one (ds_ret de_bl)) ds_nil) (ds_cons (ds_set 11 sc_law.nd rfl (by first | exact Or.inl rfl | exact Or.inr rfl) (de_ifExp (bb := false) (dt_cmp (op_eqD hr.units) ok_eq (db_var 5) (DE.b (DN.de (dn_lst (da_cons de_int da_nil)))) rfl) (de_makeDB (md_Quot_init n) hr (by rfl) tk (da_cons (db_var 4) da_nil)) (de_makeB (m_Quot_init n) hr (by rfl) tk (da_cons (db_var 4) (da_cons (db_var 5) da_nil))))) (ds_cons (ds_if (dt_w (dw_or (dt_not (dt_truth (DE.b (de_call (d__law_is_quot n) hr (by rfl) tk (da_cons (de_var 11) (da_cons (de_var 4) (da_cons (de_var 5) da_nil))))))) (dw_or (dt_not (dt_eqO (s_Quot_eq n) (knd_Quot n) hr tk (de_var 10) (de_var 11))) (dw_or1 (dt_neO (s_Quot_eq n) (knd_Quot n) hr tk (ne_Quot n).1 (ne_Quot n).2 (de_var 10) (de_var 11)))))) (ds_one (ds_ret de_bl)) ds_nil) (ds_cons (ds_set 12 sc_law.nd rfl (by first | exact Or.inl rfl | exact Or.inr rfl) (de_call (d__law_plus n) hr (by rfl) tk (da_cons (de_var 4) (da_cons (de_var 6) da_nil)))) (ds_cons (ds_if (dt_w (dw_or (dt_eqO (s_Quot_eq n) (knd_Quot n) hr tk (de_makeB (m_Quot_init n) hr (by rfl) tk (da_cons (db_var 12) (da_cons (db_var 5) da_nil))) (de_var 11)) (dw_or1 (dt_not (dt_neO (s_Quot_eq n) (knd_Quot n) hr tk (ne_Quot n).1 (ne_Quot n).2 (de_makeB (m_Quot_init n) hr (by rfl) tk (da_cons (db_var 12) (da_cons (db_var 5) da_nil))) (de_var 11)))))) (ds_one (ds_ret de_bl)) ds_nil) (ds_cons (ds_append 7 de_int) (ds_cons (ds_clear 8) (ds_cons (ds_if (dt_not (dt_truth (DE.b (de_call (d__law_is_quot n) hr (by rfl) tk (da_cons (de_var 10) (da_cons (de_var 4) (da_cons (de_var 5) da_nil))))))) (ds_one (ds_ret de_bl)) ds_nil) (ds_one (ds_ret (de_cmp (op_eqD hr.units) ok_eq (DE.b (DN.de (dn_lst (da_cons (de_call (d__law_met n) hr (by rfl) tk (da_cons (de_var 4) (da_cons (DN.de (dn_lst da_nil)) da_nil))) (da_cons (de_call (d__law_met n) hr (by rfl) tk (da_cons (de_var 4) (da_cons (DN.de (dn_rep (DE.b (DN.de (dn_lst (da_cons de_int da_nil)))) (DE.b (de_sub hr.units (db_var 2) (DE.b de_int) (fun _ _ => rfl))))) da_nil))) (da_cons (de_call (d__law_met n) hr (by rfl) tk (da_cons (DN.de (dn_lst da_nil)) (da_cons (de_tup (da_cons de_int (da_cons de_int da_nil))) da_nil))) da_nil)))))) (DE.b (DN.de (dn_lst (da_cons de_bl (da_cons de_bl (da_cons de_bl da_nil)))))) rfl)))))))))))))))))))))))
theorem facts {w : World} {K : PySem.W.Frag} {mg : Str → Option Value} {fa : Addr} {h : Heap} (hK : K.In h) (c : tellX ts fn xs K = toldX fn xs) (G : h.Ns mainGlobals mg) (hm : mg "law" = some (.ref fa))
    (hv : ∀ (K : PySem.W.Frag) (ns : List Int), ns.length ≤ 63 → (∀ z ∈ ns, Builtin.Int.intBits z ≤ 1048576) → f_law K [.scr ns] = .ok (.bl true)) :
    tNoList K = true ∧ ∃ (fd : FuncData) (g : List D → R D), (∀ (s : Shared) (u : Value), BindsTo s fd ⟨[u], []⟩ [("_law_script", u)]) ∧ (∀ ns : List Int, ns.length ≤ 63 → (∀ z ∈ ns, Builtin.Int.intBits z ≤ 1048576) → g [.scr ns] = .ok (.bl true)) ∧
      ∀ base : Heap, K.In base → base.Ns mainGlobals mg → FnOk PySem.Challenge.rw_turnwires_k40_one_form_of_quotients.prog w K mg base (L2.CX PySem.Challenge.rw_turnwires_k40_one_form_of_quotients.prog w) 9 fa fd ["_law_script"] (spD mg 1 g) := by
  have n0 : Cn PySem.Challenge.rw_turnwires_k40_one_form_of_quotients.prog K mg h := ⟨hK, G, c, by kernel_rfl, by kernel_rfl⟩
  have e := hm.symm.trans (g_of_law n0)
  cases e
  obtain ⟨fd, F⟩ := defX c 30 (d := dd_law) rfl
  have hb := FunD.bindsA (ps := ["_law_script"]) F fun _ _ _ _ _ _ us hl => match us, hl with | [_], _ => rfl
  refine ⟨no_list n0, fd, f_law K, fun s u => hb s [u] rfl, fun ns h1 h2 => hv K ns h1 h2, fun base hB GB => ?_⟩
  exact okf_law ⟨hB, GB, c, n0.file, n0.top⟩ F
end KK
set_option Elab.async false
set_option linter.all false
set_option maxRecDepth 100000
set_option maxHeartbeats 4000000
namespace KK
open PySem L2 DS PM
theorem opAdd_i (a b : Int) : opAdd (.int a) (.int b) = .ok (.int (a + b)) := rfl
theorem opSub_i (a b : Int) : opSub (.int a) (.int b) = .ok (.int (a - b)) := rfl
theorem opLt_i (a b : Int) : opLt (.int a) (.int b) = .ok (.bl (decide (a < b))) := rfl
theorem opLe_i (a b : Int) : opLe (.int a) (.int b) = .ok (.bl (decide (a ≤ b))) := rfl
theorem opGt_i (a b : Int) : opGt (.int a) (.int b) = .ok (.bl (decide (b < a))) := rfl
theorem opGe_i (a b : Int) : opGe (.int a) (.int b) = .ok (.bl (decide (b ≤ a))) := rfl
theorem opLen_l (xs : List D) : opLen [.lst xs] = .ok (.int xs.length) := rfl
theorem fmod_nat (c : Int) {s : Nat} (h : 0 < s) : ∃ r : Nat, c.fmod (s : Int) = (r : Int) ∧ r < s := by
  have h1 : 0 ≤ c.fmod (s : Int) := Int.fmod_nonneg_of_pos c (by omega)
  have h2 : c.fmod (s : Int) < s := Int.fmod_lt_of_pos c (by omega)
  exact ⟨(c.fmod (s : Int)).toNat, by omega, by omega⟩
theorem fmod_int (c s : Int) (h : 0 < s) : ∃ r : Nat, c.fmod s = (r : Int) ∧ (r : Int) < s := by
  have h1 : 0 ≤ c.fmod s := Int.fmod_nonneg_of_pos c h
  have h2 : c.fmod s < s := Int.fmod_lt_of_pos c h
  exact ⟨(c.fmod s).toNat, by omega, by omega⟩
theorem pow18 : opPow (.int 10) (.int 18) = .ok (.int 1000000000000000000) := by
  simp [opPow, opI2]
def Rows (sizes rs : List Nat) : Prop := rs.length = sizes.length ∧ ∀ j (h : j < rs.length) (h2 : j < sizes.length), rs[j] < sizes[j]
theorem rows_snoc {sizes rs : List Nat} {j r : Nat} (hl : rs.length = j) (h : ∀ i (h : i < rs.length) (h2 : i < sizes.length), rs[i] < sizes[i]) (hj : j < sizes.length) (hr : r < sizes[j]) :
    (rs ++ [r]).length = j + 1 ∧ ∀ i (h : i < (rs ++ [r]).length) (h2 : i < sizes.length), (rs ++ [r])[i] < sizes[i] := by
  subst hl
  refine ⟨by simp, fun i h1 h2 => ?_⟩
  rw [List.length_append, List.length_singleton] at h1
  by_cases hi : i < rs.length
  · rw [List.getElem_append_left hi]; exact h i hi h2
  · have : i = rs.length := by omega
    subst this
    simpa using hr
theorem row_ok (K : PySem.W.Frag) (c : Int) (sizes : List Nat) (hp : ∀ s ∈ sizes, 0 < s ∧ s < 1000) (hl : sizes.length ≤ 64) : ∃ rs, f__law_row K [.int c, nL sizes] = .ok (nL rs) ∧ Rows sizes rs := by
  suffices h : ∃ rs, b__law_row K [.sh (.int c), .sh (nL sizes), .un, .un, .un, .un, .un] = .rt (nL rs) ∧ Rows sizes rs by
    obtain ⟨rs, h1, h2⟩ := h
    exact ⟨rs, runD_of h1, h2⟩
  unfold b__law_row
  rw [seq_nx (setN_ok (n := .nl []) (by (simp only [eVar, bVar, eC, eBin, eUn, eAll, eN, evalL, tVal, asB, tTru, tNotF, tAndF, tOrF, eIf, eAnd, eNot, R.bind_ok, R.bind_ex, R.bind_no, nAll, nLst, ND.sl, ND.d, fz, frz, gN, gTupD, gCons', gNil', iSeq, iAll, seqD, List.getElem?_cons_zero, List.getElem?_cons_succ, List.set_cons_zero, List.set_cons_succ, List.map_cons, List.map_nil, List.cons_append, List.nil_append, List.replicate_succ, List.replicate_zero, List.length_nil, List.length_cons, List.length_map, if_true, if_false, Option.bind_some, Bool.false_eq_true, Bool.not_true, Bool.not_false, Nat.reduceAdd, Nat.zero_le, opInt_i, opEq_int, opNe_int, opAdd_i, opLt_i, opLe_i, opGt_i, opGe_i, opSub_i, opLen_l, decide_true, decide_false])))]
  (simp only [List.set_cons_zero, List.set_cons_succ, ND.sl])
  have hget : ∀ {j : Nat} {d : D}, (sizes.map nD)[j]? = some d → ∃ h : j < sizes.length, d = nD sizes[j] := fun {j d} h => by
    rw [List.getElem?_map, Option.map_eq_some_iff] at h
    obtain ⟨x, h1, rfl⟩ := h
    obtain ⟨h2, rfl⟩ := List.getElem?_eq_some_iff.mp h1
    exact ⟨h2, rfl⟩
  have hpos : ∀ {j : Nat} (h : j < sizes.length), 0 < sizes[j] ∧ sizes[j] < 1000 := fun h => hp _ (List.getElem_mem h)
  by_cases hc : (1000000000000000000 : Int) ≤ c
  · have ht : tVal (eBin opGe (bVar 0) (eBin opPow (eC (.int 10)) (eC (.int 18)))) [.sh (.int c), .sh (nL sizes), .ol [], .un, .un, .un, .un] = .ok true := by
      (simp only [eVar, bVar, eC, eBin, eUn, eAll, eN, evalL, tVal, asB, tTru, tNotF, tAndF, tOrF, eIf, eAnd, eNot, R.bind_ok, R.bind_ex, R.bind_no, nAll, nLst, ND.sl, ND.d, fz, frz, gN, gTupD, gCons', gNil', iSeq, iAll, seqD, List.getElem?_cons_zero, List.getElem?_cons_succ, List.set_cons_zero, List.set_cons_succ, List.map_cons, List.map_nil, List.cons_append, List.nil_append, List.replicate_succ, List.replicate_zero, List.length_nil, List.length_cons, List.length_map, if_true, if_false, Option.bind_some, Bool.false_eq_true, Bool.not_true, Bool.not_false, Nat.reduceAdd, Nat.zero_le, opInt_i, opEq_int, opNe_int, opAdd_i, opLt_i, opLe_i, opGt_i, opGe_i, opSub_i, opLen_l, decide_true, decide_false]); rw [pow18]; (simp only [eVar, bVar, eC, eBin, eUn, eAll, eN, evalL, tVal, asB, tTru, tNotF, tAndF, tOrF, eIf, eAnd, eNot, R.bind_ok, R.bind_ex, R.bind_no, nAll, nLst, ND.sl, ND.d, fz, frz, gN, gTupD, gCons', gNil', iSeq, iAll, seqD, List.getElem?_cons_zero, List.getElem?_cons_succ, List.set_cons_zero, List.set_cons_succ, List.map_cons, List.map_nil, List.cons_append, List.nil_append, List.replicate_succ, List.replicate_zero, List.length_nil, List.length_cons, List.length_map, if_true, if_false, Option.bind_some, Bool.false_eq_true, Bool.not_true, Bool.not_false, Nat.reduceAdd, Nat.zero_le, opInt_i, opEq_int, opNe_int, opAdd_i, opLt_i, opLe_i, opGt_i, opGe_i, opSub_i, opLen_l, decide_true, decide_false]); simp only [hc, decide_true]
    obtain ⟨s', e1, c', rs, l, es, hrl, hrs⟩ := sFor_inv (it := iSeq (eVar 1)) (g := gN 3) (b := sSeq (sApp 2 (eBin opMod (eAll opInt [(bVar 0)]) (bVar 3))) (sSet 0 (eBin opFdiv (bVar 0) (bVar 3)))) (ds := sizes.map nD) (s := [.sh (.int c), .sh (nL sizes), .ol [], .un, .un, .un, .un]) (by (simp only [eVar, bVar, eC, eBin, eUn, eAll, eN, evalL, tVal, asB, tTru, tNotF, tAndF, tOrF, eIf, eAnd, eNot, R.bind_ok, R.bind_ex, R.bind_no, nAll, nLst, ND.sl, ND.d, fz, frz, gN, gTupD, gCons', gNil', iSeq, iAll, seqD, List.getElem?_cons_zero, List.getElem?_cons_succ, List.set_cons_zero, List.set_cons_succ, List.map_cons, List.map_nil, List.cons_append, List.nil_append, List.replicate_succ, List.replicate_zero, List.length_nil, List.length_cons, List.length_map, if_true, if_false, Option.bind_some, Bool.false_eq_true, Bool.not_true, Bool.not_false, Nat.reduceAdd, Nat.zero_le, opInt_i, opEq_int, opNe_int, opAdd_i, opLt_i, opLe_i, opGt_i, opGe_i, opSub_i, opLen_l, decide_true, decide_false]))
      (fun j s => ∃ (c' : Int) (rs : List Nat) (l : Sl), s = [.sh (.int c'), .sh (nL sizes), .ol (rs.map nD), l, .un, .un, .un] ∧ rs.length = j ∧ ∀ i (h : i < rs.length) (h2 : i < sizes.length), rs[i] < sizes[i])
      ⟨c, [], .un, rfl, rfl, fun i h => by cases h⟩ (by
        rintro j d s hd ⟨c', rs, l, rfl, hrl, hrs⟩
        obtain ⟨hj, rfl⟩ := hget hd
        obtain ⟨h1, h2⟩ := hpos hj
        obtain ⟨r, er, hr⟩ := fmod_nat c' h1
        refine ⟨_, [.sh (.int (c'.fdiv (sizes[j] : Int))), .sh (nL sizes), .ol ((rs ++ [r]).map nD), .sh (nD sizes[j]), .un, .un, .un], rfl, .inl ?_, _, rs ++ [r], _, rfl, rows_snoc hrl hrs hj hr⟩
        rw [seq_nx (app_ok (ds := rs.map nD) (d := nD r) (by (simp only [eVar, bVar, eC, eBin, eUn, eAll, eN, evalL, tVal, asB, tTru, tNotF, tAndF, tOrF, eIf, eAnd, eNot, R.bind_ok, R.bind_ex, R.bind_no, nAll, nLst, ND.sl, ND.d, fz, frz, gN, gTupD, gCons', gNil', iSeq, iAll, seqD, List.getElem?_cons_zero, List.getElem?_cons_succ, List.set_cons_zero, List.set_cons_succ, List.map_cons, List.map_nil, List.cons_append, List.nil_append, List.replicate_succ, List.replicate_zero, List.length_nil, List.length_cons, List.length_map, if_true, if_false, Option.bind_some, Bool.false_eq_true, Bool.not_true, Bool.not_false, Nat.reduceAdd, Nat.zero_le, opInt_i, opEq_int, opNe_int, opAdd_i, opLt_i, opLe_i, opGt_i, opGe_i, opSub_i, opLen_l, decide_true, decide_false])) (by (simp only [eVar, bVar, eC, eBin, eUn, eAll, eN, evalL, tVal, asB, tTru, tNotF, tAndF, tOrF, eIf, eAnd, eNot, R.bind_ok, R.bind_ex, R.bind_no, nAll, nLst, ND.sl, ND.d, fz, frz, gN, gTupD, gCons', gNil', iSeq, iAll, seqD, List.getElem?_cons_zero, List.getElem?_cons_succ, List.set_cons_zero, List.set_cons_succ, List.map_cons, List.map_nil, List.cons_append, List.nil_append, List.replicate_succ, List.replicate_zero, List.length_nil, List.length_cons, List.length_map, if_true, if_false, Option.bind_some, Bool.false_eq_true, Bool.not_true, Bool.not_false, Nat.reduceAdd, Nat.zero_le, opInt_i, opEq_int, opNe_int, opAdd_i, opLt_i, opLe_i, opGt_i, opGe_i, opSub_i, opLen_l, decide_true, decide_false]); rw [opMod_i (by omega), er]) (by rw [List.length_map, szl]; omega))]
        rw [set_ok (d := .int (c'.fdiv (sizes[j] : Int))) (by (simp only [eVar, bVar, eC, eBin, eUn, eAll, eN, evalL, tVal, asB, tTru, tNotF, tAndF, tOrF, eIf, eAnd, eNot, R.bind_ok, R.bind_ex, R.bind_no, nAll, nLst, ND.sl, ND.d, fz, frz, gN, gTupD, gCons', gNil', iSeq, iAll, seqD, List.getElem?_cons_zero, List.getElem?_cons_succ, List.set_cons_zero, List.set_cons_succ, List.map_cons, List.map_nil, List.cons_append, List.nil_append, List.replicate_succ, List.replicate_zero, List.length_nil, List.length_cons, List.length_map, if_true, if_false, Option.bind_some, Bool.false_eq_true, Bool.not_true, Bool.not_false, Nat.reduceAdd, Nat.zero_le, opInt_i, opEq_int, opNe_int, opAdd_i, opLt_i, opLe_i, opGt_i, opGe_i, opSub_i, opLen_l, decide_true, decide_false]); exact opFdiv_i (by omega) (by omega))]
        (simp only [List.set_cons_zero, List.set_cons_succ, ND.sl])
        simp)
    rw [seq_rt (d := nL rs)]
    · exact ⟨rs, rfl, by simpa using hrl, hrs⟩
    · rw [if_t ht, seq_nx e1]
      subst es
      exact ret_ok (by (simp only [fz, frz, List.set_cons_zero, List.set_cons_succ, List.getElem?_cons_zero, List.getElem?_cons_succ]); (simp only [eVar, bVar, eC, eBin, eUn, eAll, eN, evalL, tVal, asB, tTru, tNotF, tAndF, tOrF, eIf, eAnd, eNot, R.bind_ok, R.bind_ex, R.bind_no, nAll, nLst, ND.sl, ND.d, fz, frz, gN, gTupD, gCons', gNil', iSeq, iAll, seqD, List.getElem?_cons_zero, List.getElem?_cons_succ, List.set_cons_zero, List.set_cons_succ, List.map_cons, List.map_nil, List.cons_append, List.nil_append, List.replicate_succ, List.replicate_zero, List.length_nil, List.length_cons, List.length_map, if_true, if_false, Option.bind_some, Bool.false_eq_true, Bool.not_true, Bool.not_false, Nat.reduceAdd, Nat.zero_le, opInt_i, opEq_int, opNe_int, opAdd_i, opLt_i, opLe_i, opGt_i, opGe_i, opSub_i, opLen_l, decide_true, decide_false]))
  · have ht : tVal (eBin opGe (bVar 0) (eBin opPow (eC (.int 10)) (eC (.int 18)))) [.sh (.int c), .sh (nL sizes), .ol [], .un, .un, .un, .un] = .ok false := by
      (simp only [eVar, bVar, eC, eBin, eUn, eAll, eN, evalL, tVal, asB, tTru, tNotF, tAndF, tOrF, eIf, eAnd, eNot, R.bind_ok, R.bind_ex, R.bind_no, nAll, nLst, ND.sl, ND.d, fz, frz, gN, gTupD, gCons', gNil', iSeq, iAll, seqD, List.getElem?_cons_zero, List.getElem?_cons_succ, List.set_cons_zero, List.set_cons_succ, List.map_cons, List.map_nil, List.cons_append, List.nil_append, List.replicate_succ, List.replicate_zero, List.length_nil, List.length_cons, List.length_map, if_true, if_false, Option.bind_some, Bool.false_eq_true, Bool.not_true, Bool.not_false, Nat.reduceAdd, Nat.zero_le, opInt_i, opEq_int, opNe_int, opAdd_i, opLt_i, opLe_i, opGt_i, opGe_i, opSub_i, opLen_l, decide_true, decide_false]); rw [pow18]; (simp only [eVar, bVar, eC, eBin, eUn, eAll, eN, evalL, tVal, asB, tTru, tNotF, tAndF, tOrF, eIf, eAnd, eNot, R.bind_ok, R.bind_ex, R.bind_no, nAll, nLst, ND.sl, ND.d, fz, frz, gN, gTupD, gCons', gNil', iSeq, iAll, seqD, List.getElem?_cons_zero, List.getElem?_cons_succ, List.set_cons_zero, List.set_cons_succ, List.map_cons, List.map_nil, List.cons_append, List.nil_append, List.replicate_succ, List.replicate_zero, List.length_nil, List.length_cons, List.length_map, if_true, if_false, Option.bind_some, Bool.false_eq_true, Bool.not_true, Bool.not_false, Nat.reduceAdd, Nat.zero_le, opInt_i, opEq_int, opNe_int, opAdd_i, opLt_i, opLe_i, opGt_i, opGe_i, opSub_i, opLen_l, decide_true, decide_false]); simp only [hc, decide_false]
    rw [seq_nx (if_f ht)]
    obtain ⟨sd, esd, hsd⟩ := fmod_int c 2147483647 (by decide)
    rw [seq_nx (set_ok (d := nD sd) (by (simp only [eVar, bVar, eC, eBin, eUn, eAll, eN, evalL, tVal, asB, tTru, tNotF, tAndF, tOrF, eIf, eAnd, eNot, R.bind_ok, R.bind_ex, R.bind_no, nAll, nLst, ND.sl, ND.d, fz, frz, gN, gTupD, gCons', gNil', iSeq, iAll, seqD, List.getElem?_cons_zero, List.getElem?_cons_succ, List.set_cons_zero, List.set_cons_succ, List.map_cons, List.map_nil, List.cons_append, List.nil_append, List.replicate_succ, List.replicate_zero, List.length_nil, List.length_cons, List.length_map, if_true, if_false, Option.bind_some, Bool.false_eq_true, Bool.not_true, Bool.not_false, Nat.reduceAdd, Nat.zero_le, opInt_i, opEq_int, opNe_int, opAdd_i, opLt_i, opLe_i, opGt_i, opGe_i, opSub_i, opLen_l, decide_true, decide_false]); rw [opMod_i (by decide), esd]))]
    (simp only [List.set_cons_zero, List.set_cons_succ, ND.sl])
    obtain ⟨s', e1, rs, l, l2, es, hrl, hrs⟩ := sFor_inv (it := iAll opRange1 [(eAll opLen [(bVar 1)])]) (g := gN 5) (b := sSeq (sSet 6 (eBin opAdd (eBin opMod (eAll opInt [(eBin opPow (eBin opAdd (eBin opAdd (bVar 4) (eBin opMul (eC (.int 7919)) (bVar 5))) (eC (.int 104729))) (eC (.int 5)))]) (eC (.int 2147483647))) (bVar 5))) (sApp 2 (eBin opMod (eAll opInt [(eBin opMod (eAll opInt [(eBin opMul (bVar 6) (eC (.int 40692)))]) (eC (.int 2147483629)))]) (eBin opIx (bVar 1) (bVar 5))))) (ds := rangeD 0 sizes.length) (s := [.sh (.int c), .sh (nL sizes), .ol [], .un, .sh (nD sd), .un, .un]) (by
        (simp only [eVar, bVar, eC, eBin, eUn, eAll, eN, evalL, tVal, asB, tTru, tNotF, tAndF, tOrF, eIf, eAnd, eNot, R.bind_ok, R.bind_ex, R.bind_no, nAll, nLst, ND.sl, ND.d, fz, frz, gN, gTupD, gCons', gNil', iSeq, iAll, seqD, List.getElem?_cons_zero, List.getElem?_cons_succ, List.set_cons_zero, List.set_cons_succ, List.map_cons, List.map_nil, List.cons_append, List.nil_append, List.replicate_succ, List.replicate_zero, List.length_nil, List.length_cons, List.length_map, if_true, if_false, Option.bind_some, Bool.false_eq_true, Bool.not_true, Bool.not_false, Nat.reduceAdd, Nat.zero_le, opInt_i, opEq_int, opNe_int, opAdd_i, opLt_i, opLe_i, opGt_i, opGe_i, opSub_i, opLen_l, decide_true, decide_false])
        unfold opRange1
        dsimp only
        rw [if_pos (by omega)]
        simp)
      (fun j s => ∃ (rs : List Nat) (l l2 : Sl), s = [.sh (.int c), .sh (nL sizes), .ol (rs.map nD), .un, .sh (nD sd), l, l2] ∧ rs.length = j ∧ ∀ i (h : i < rs.length) (h2 : i < sizes.length), rs[i] < sizes[i])
      ⟨[], .un, .un, rfl, rfl, fun i h => by cases h⟩ (by
        rintro j d s hd ⟨rs, l, l2, rfl, hrl, hrs⟩
        obtain ⟨rfl, hj⟩ := rangeD_get hd
        obtain ⟨h1, h2⟩ := hpos hj
        have hb : (((sd : Int) + 7919 * (j : Int) + 104729)).natAbs < 2 ^ 64 := by omega
        obtain ⟨m, em, hm⟩ := fmod_int (((sd : Int) + 7919 * (j : Int) + 104729) ^ 5) 2147483647 (by decide)
        obtain ⟨q, eq_, hq⟩ := fmod_int (((m : Int) + (j : Int)) * 40692) 2147483629 (by decide)
        obtain ⟨r, er, hr⟩ := fmod_nat (q : Int) h1
        refine ⟨_, [.sh (.int c), .sh (nL sizes), .ol ((rs ++ [r]).map nD), .un, .sh (nD sd), .sh (nD j), .sh (.int ((m : Int) + (j : Int)))], rfl, .inl ?_, rs ++ [r], _, _, rfl, rows_snoc hrl hrs hj hr⟩
        have hpow : opPow (.int ((sd : Int) + 7919 * (j : Int) + 104729)) (.int 5) = .ok (.int (((sd : Int) + 7919 * (j : Int) + 104729) ^ 5)) := by
          simp only [opPow, opI2]
          rw [if_pos (decide_eq_true ⟨by decide, by decide, hb⟩)]
          rfl
        rw [seq_nx (set_ok (d := .int ((m : Int) + (j : Int))) (by
          (simp only [eVar, bVar, eC, eBin, eUn, eAll, eN, evalL, tVal, asB, tTru, tNotF, tAndF, tOrF, eIf, eAnd, eNot, R.bind_ok, R.bind_ex, R.bind_no, nAll, nLst, ND.sl, ND.d, fz, frz, gN, gTupD, gCons', gNil', iSeq, iAll, seqD, List.getElem?_cons_zero, List.getElem?_cons_succ, List.set_cons_zero, List.set_cons_succ, List.map_cons, List.map_nil, List.cons_append, List.nil_append, List.replicate_succ, List.replicate_zero, List.length_nil, List.length_cons, List.length_map, if_true, if_false, Option.bind_some, Bool.false_eq_true, Bool.not_true, Bool.not_false, Nat.reduceAdd, Nat.zero_le, opInt_i, opEq_int, opNe_int, opAdd_i, opLt_i, opLe_i, opGt_i, opGe_i, opSub_i, opLen_l, decide_true, decide_false])
          rw [opMul_i (a := 7919) (b := (j : Int)) (by decide) (Nat.lt_of_le_of_lt (show (j : Int).natAbs ≤ 64 by omega) (by decide))]
          (simp only [eVar, bVar, eC, eBin, eUn, eAll, eN, evalL, tVal, asB, tTru, tNotF, tAndF, tOrF, eIf, eAnd, eNot, R.bind_ok, R.bind_ex, R.bind_no, nAll, nLst, ND.sl, ND.d, fz, frz, gN, gTupD, gCons', gNil', iSeq, iAll, seqD, List.getElem?_cons_zero, List.getElem?_cons_succ, List.set_cons_zero, List.set_cons_succ, List.map_cons, List.map_nil, List.cons_append, List.nil_append, List.replicate_succ, List.replicate_zero, List.length_nil, List.length_cons, List.length_map, if_true, if_false, Option.bind_some, Bool.false_eq_true, Bool.not_true, Bool.not_false, Nat.reduceAdd, Nat.zero_le, opInt_i, opEq_int, opNe_int, opAdd_i, opLt_i, opLe_i, opGt_i, opGe_i, opSub_i, opLen_l, decide_true, decide_false])
          rw [hpow]
          (simp only [eVar, bVar, eC, eBin, eUn, eAll, eN, evalL, tVal, asB, tTru, tNotF, tAndF, tOrF, eIf, eAnd, eNot, R.bind_ok, R.bind_ex, R.bind_no, nAll, nLst, ND.sl, ND.d, fz, frz, gN, gTupD, gCons', gNil', iSeq, iAll, seqD, List.getElem?_cons_zero, List.getElem?_cons_succ, List.set_cons_zero, List.set_cons_succ, List.map_cons, List.map_nil, List.cons_append, List.nil_append, List.replicate_succ, List.replicate_zero, List.length_nil, List.length_cons, List.length_map, if_true, if_false, Option.bind_some, Bool.false_eq_true, Bool.not_true, Bool.not_false, Nat.reduceAdd, Nat.zero_le, opInt_i, opEq_int, opNe_int, opAdd_i, opLt_i, opLe_i, opGt_i, opGe_i, opSub_i, opLen_l, decide_true, decide_false])
          rw [opMod_i (by decide), em]
          (simp only [eVar, bVar, eC, eBin, eUn, eAll, eN, evalL, tVal, asB, tTru, tNotF, tAndF, tOrF, eIf, eAnd, eNot, R.bind_ok, R.bind_ex, R.bind_no, nAll, nLst, ND.sl, ND.d, fz, frz, gN, gTupD, gCons', gNil', iSeq, iAll, seqD, List.getElem?_cons_zero, List.getElem?_cons_succ, List.set_cons_zero, List.set_cons_succ, List.map_cons, List.map_nil, List.cons_append, List.nil_append, List.replicate_succ, List.replicate_zero, List.length_nil, List.length_cons, List.length_map, if_true, if_false, Option.bind_some, Bool.false_eq_true, Bool.not_true, Bool.not_false, Nat.reduceAdd, Nat.zero_le, opInt_i, opEq_int, opNe_int, opAdd_i, opLt_i, opLe_i, opGt_i, opGe_i, opSub_i, opLen_l, decide_true, decide_false])
          ))]
        (simp only [List.set_cons_zero, List.set_cons_succ, ND.sl])
        rw [app_ok (ds := rs.map nD) (d := nD r) (by (simp only [eVar, bVar, eC, eBin, eUn, eAll, eN, evalL, tVal, asB, tTru, tNotF, tAndF, tOrF, eIf, eAnd, eNot, R.bind_ok, R.bind_ex, R.bind_no, nAll, nLst, ND.sl, ND.d, fz, frz, gN, gTupD, gCons', gNil', iSeq, iAll, seqD, List.getElem?_cons_zero, List.getElem?_cons_succ, List.set_cons_zero, List.set_cons_succ, List.map_cons, List.map_nil, List.cons_append, List.nil_append, List.replicate_succ, List.replicate_zero, List.length_nil, List.length_cons, List.length_map, if_true, if_false, Option.bind_some, Bool.false_eq_true, Bool.not_true, Bool.not_false, Nat.reduceAdd, Nat.zero_le, opInt_i, opEq_int, opNe_int, opAdd_i, opLt_i, opLe_i, opGt_i, opGe_i, opSub_i, opLen_l, decide_true, decide_false])) (by
          (simp only [eVar, bVar, eC, eBin, eUn, eAll, eN, evalL, tVal, asB, tTru, tNotF, tAndF, tOrF, eIf, eAnd, eNot, R.bind_ok, R.bind_ex, R.bind_no, nAll, nLst, ND.sl, ND.d, fz, frz, gN, gTupD, gCons', gNil', iSeq, iAll, seqD, List.getElem?_cons_zero, List.getElem?_cons_succ, List.set_cons_zero, List.set_cons_succ, List.map_cons, List.map_nil, List.cons_append, List.nil_append, List.replicate_succ, List.replicate_zero, List.length_nil, List.length_cons, List.length_map, if_true, if_false, Option.bind_some, Bool.false_eq_true, Bool.not_true, Bool.not_false, Nat.reduceAdd, Nat.zero_le, opInt_i, opEq_int, opNe_int, opAdd_i, opLt_i, opLe_i, opGt_i, opGe_i, opSub_i, opLen_l, decide_true, decide_false])
          rw [opMul_i (a := (m : Int) + (j : Int)) (b := 40692) (Nat.lt_of_lt_of_le (show ((m : Int) + (j : Int)).natAbs < 1099511627776 by omega) (by decide)) (by decide)]
          (simp only [eVar, bVar, eC, eBin, eUn, eAll, eN, evalL, tVal, asB, tTru, tNotF, tAndF, tOrF, eIf, eAnd, eNot, R.bind_ok, R.bind_ex, R.bind_no, nAll, nLst, ND.sl, ND.d, fz, frz, gN, gTupD, gCons', gNil', iSeq, iAll, seqD, List.getElem?_cons_zero, List.getElem?_cons_succ, List.set_cons_zero, List.set_cons_succ, List.map_cons, List.map_nil, List.cons_append, List.nil_append, List.replicate_succ, List.replicate_zero, List.length_nil, List.length_cons, List.length_map, if_true, if_false, Option.bind_some, Bool.false_eq_true, Bool.not_true, Bool.not_false, Nat.reduceAdd, Nat.zero_le, opInt_i, opEq_int, opNe_int, opAdd_i, opLt_i, opLe_i, opGt_i, opGe_i, opSub_i, opLen_l, decide_true, decide_false])
          rw [opMod_i (by decide), eq_, opIx_nl hj]
          (simp only [eVar, bVar, eC, eBin, eUn, eAll, eN, evalL, tVal, asB, tTru, tNotF, tAndF, tOrF, eIf, eAnd, eNot, R.bind_ok, R.bind_ex, R.bind_no, nAll, nLst, ND.sl, ND.d, fz, frz, gN, gTupD, gCons', gNil', iSeq, iAll, seqD, List.getElem?_cons_zero, List.getElem?_cons_succ, List.set_cons_zero, List.set_cons_succ, List.map_cons, List.map_nil, List.cons_append, List.nil_append, List.replicate_succ, List.replicate_zero, List.length_nil, List.length_cons, List.length_map, if_true, if_false, Option.bind_some, Bool.false_eq_true, Bool.not_true, Bool.not_false, Nat.reduceAdd, Nat.zero_le, opInt_i, opEq_int, opNe_int, opAdd_i, opLt_i, opLe_i, opGt_i, opGe_i, opSub_i, opLen_l, decide_true, decide_false])
          rw [opMod_i (by omega), er]) (by rw [List.length_map, szl]; omega)]
        (simp only [List.set_cons_zero, List.set_cons_succ, ND.sl])
        simp)
    rw [seq_nx e1]
    subst es
    exact ⟨rs, ret_ok (by (simp only [fz, frz, List.set_cons_zero, List.set_cons_succ, List.getElem?_cons_zero, List.getElem?_cons_succ]); (simp only [eVar, bVar, eC, eBin, eUn, eAll, eN, evalL, tVal, asB, tTru, tNotF, tAndF, tOrF, eIf, eAnd, eNot, R.bind_ok, R.bind_ex, R.bind_no, nAll, nLst, ND.sl, ND.d, fz, frz, gN, gTupD, gCons', gNil', iSeq, iAll, seqD, List.getElem?_cons_zero, List.getElem?_cons_succ, List.set_cons_zero, List.set_cons_succ, List.map_cons, List.map_nil, List.cons_append, List.nil_append, List.replicate_succ, List.replicate_zero, List.length_nil, List.length_cons, List.length_map, if_true, if_false, Option.bind_some, Bool.false_eq_true, Bool.not_true, Bool.not_false, Nat.reduceAdd, Nat.zero_le, opInt_i, opEq_int, opNe_int, opAdd_i, opLt_i, opLe_i, opGt_i, opGe_i, opSub_i, opLen_l, decide_true, decide_false])), by simpa [rangeD] using hrl, hrs⟩
end KK
set_option Elab.async false
set_option linter.all false
set_option maxRecDepth 100000
set_option maxHeartbeats 4000000
namespace KK
open PySem L2 DS PQ
abbrev pl (p : List Int) : D := .lst (p.map D.int)
abbrev pt (p : List Int) : D := .tup (p.map D.int)
def SqD (d : D) (p : List Int) : Prop := d = pl p ∨ d = pt p
theorem SqD.l (p : List Int) : SqD (pl p) p := .inl rfl
theorem SqD.t (p : List Int) : SqD (pt p) p := .inr rfl
theorem SqD.len {d : D} {p : List Int} (h : SqD d p) : opLen [d] = .ok (nD p.length) := by
  rcases h with rfl | rfl <;> simp [opLen, pl, pt, nD]
theorem SqD.seq {d : D} {p : List Int} (h : SqD d p) : seqD d = .ok (p.map D.int) := by rcases h with rfl | rfl <;> rfl
theorem SqD.ix {d : D} {p : List Int} (h : SqD d p) {i : Nat} (hi : i < p.length) : opIx d (nD i) = .ok (.int (cf p i)) := by
  rcases h with rfl | rfl <;> (unfold opIx; dsimp only; rw [atI_nat (by simpa using hi)]; simp [cf_get hi])
theorem SqD.last {d : D} {p : List Int} (h : SqD d p) (hp : p ≠ []) : opIx d (.int (-1)) = .ok (.int (lastP p)) := by
  have hl : 0 < p.length := List.length_pos_iff.mpr hp
  have hm : p.map D.int ≠ [] := by simpa using hp
  have e : (p.map D.int).getLast hm = .int (lastP p) := by
    rw [List.getLast_map, List.getLast_eq_getElem, ← cf_get (by omega)]; rfl
  rcases h with rfl | rfl <;> (unfold opIx; dsimp only; rw [atI_last hm]; dsimp only; rw [e])
theorem SqD.rev {d : D} {p : List Int} (h : SqD d p) : ∃ d', opBack d = .ok d' ∧ SqD d' p.reverse := by
  rcases h with rfl | rfl
  · exact ⟨_, rfl, .inl (by rw [pl, List.map_reverse])⟩
  · exact ⟨_, rfl, .inr (by rw [pt, List.map_reverse])⟩
theorem SqD.tup {d : D} {p : List Int} (h : SqD d p) : opTuple [d] = .ok (pt p) := by rcases h with rfl | rfl <;> rfl
theorem intsD_ints : ∀ (l : List Int), intsD (l.map D.int) = some l
  | [] => rfl
  | a :: l => by simp [intsD, intsD_ints l]
theorem toPyL_map (l : List Int) : toPyL (l.map D.int) = some (l.map PyData.int) := toPyL_ints l
theorem shaped_tup (l : List Int) : SeqAt.shaped (.tuple (l.map PyData.int)) = true := by
  simp [SeqAt.shaped, PyData.canLay0, canLay_ints, PyData.depth, depth_ints]
theorem eqD_tups (l m : List Int) : eqD (pt l) (pt m) = some (decide (l = m)) := by
  simp only [eqD, pt, toPy, toPyL_ints, Option.map_some, shaped_tup, and_self, if_true, PyData.eqv, eqv_ints]
theorem opEq_tups (l m : List Int) : opEq (pt l) (pt m) = .ok (.bl (decide (l = m))) := by simp only [opEq, eqD_tups]
theorem opNe_tups (l m : List Int) : opNe (pt l) (pt m) = .ok (.bl (!decide (l = m))) := by simp only [opNe, eqD_tups]
theorem eTup0 (s : SD) : eAll opTup [] s = .ok (pt []) := rfl
theorem opFdiv_b {a b : Int} {k : Nat} (h : b ≠ 0) (h2 : b.natAbs < 2 ^ k) (hk : k ≤ 9000) : opFdiv (.int a) (.int b) = .ok (.int (a.fdiv b)) := by
  have : b.natAbs.log2 < 9000 := log2_lt h2 hk (by decide)
  simp [opFdiv, opI2, h, this]
theorem opMul_b {a b : Int} {k m : Nat} (h1 : a.natAbs < 2 ^ k) (h2 : b.natAbs < 2 ^ m) (hk : k ≤ 400000) (hm : m ≤ 400000) : opMul (.int a) (.int b) = .ok (.int (a * b)) := by
  have x1 : a.natAbs.log2 < 400000 := log2_lt h1 hk (by decide)
  have x2 : b.natAbs.log2 < 400000 := log2_lt h2 hm (by decide)
  have : a.natAbs.log2 + b.natAbs.log2 < 1000000 := by omega
  simp [opMul, this]
theorem fmod_abs {a b : Int} (h : b ≠ 0) : (a.fmod b).natAbs < b.natAbs := by
  have e := @Int.fmod_eq_emod a b
  have h1 := Int.emod_nonneg a h
  have h2 : a % b < (b.natAbs : Int) := Int.emod_lt a h
  split at e
  · omega
  · rename_i z
    have hb : b < 0 := by
      apply Decidable.byContradiction
      intro hn
      exact z (.inl (by omega))
    have h3 : a % b ≠ 0 := fun y => z (.inr (Int.dvd_of_emod_eq_zero y))
    omega
/-! ### the greatest common divisor -/
noncomputable def gcdB : SF := (sSeq (sWhile (tVal (eBin opNe (bVar 1) (eC (.int 0)))) (sPar 0 1 (eVar 1) (eBin opSub (bVar 0) (eBin opMul (eBin opFdiv (bVar 0) (bVar 1)) (bVar 1))))) (sRet (eAll opAbs [(bVar 0)])))
theorem gcdB_ok {a b : Int} {k : Nat} (ha : a.natAbs < 2 ^ k) (hb : b.natAbs < 2 ^ k) (hk : k ≤ 9000) : gcdB [.sh (.int a), .sh (.int b)] = .rt (.int (Int.gcd a b)) := by
  unfold gcdB
  obtain ⟨s', e, z⟩ := sWhile_inv (t := tVal (eBin opNe (bVar 1) (eC (.int 0)))) (b := sPar 0 1 (eVar 1) (eBin opSub (bVar 0) (eBin opMul (eBin opFdiv (bVar 0) (bVar 1)) (bVar 1))))
    (fun m s => ∃ x y : Int, s = [.sh (.int x), .sh (.int y)] ∧ m = y.natAbs ∧ x.natAbs < 2 ^ k ∧ y.natAbs < 2 ^ k ∧ Int.gcd x y = Int.gcd a b) (fun s => ∃ x : Int, s = [.sh (.int x), .sh (.int 0)] ∧ x.natAbs = Int.gcd a b) (by
      rintro m s ⟨x, y, rfl, rfl, hx, hy, hg⟩
      by_cases h0 : y = 0
      · subst h0
        left
        refine ⟨by (simp only [eVar, bVar, eC, eBin, eUn, eAll, eN, evalL, tVal, asB, tTru, tNotF, tAndF, tOrF, eIf, eAnd, eNot, R.bind_ok, R.bind_ex, R.bind_no, nAll, nLst, ND.sl, ND.d, fz, frz, gN, gTupD, gCons', gNil', iSeq, iAll, seqD, List.getElem?_cons_zero, List.getElem?_cons_succ, List.set_cons_zero, List.set_cons_succ, List.map_cons, List.map_nil, List.cons_append, List.nil_append, List.replicate_succ, List.replicate_zero, List.length_nil, List.length_cons, List.length_map, if_true, if_false, Option.bind_some, Bool.false_eq_true, Bool.not_true, Bool.not_false, Nat.reduceAdd, Nat.zero_le, opInt_i, opEq_int, opNe_int, opAdd_i, opLt_i, opLe_i, opGt_i, opGe_i, opSub_i, opLen_l, decide_true, decide_false]), x, rfl, ?_⟩
        rw [← hg]
        exact (Int.gcd_zero_right x).symm
      · right
        have hf := fmod_abs (a := x) h0
        have hm : (x.fdiv y * y).natAbs < 2 ^ (k + 1) := by
          have := Int.fdiv_mul_add_fmod x y
          have e2 : x.fdiv y * y = x - x.fmod y := by omega
          rw [e2, Nat.pow_succ]
          omega
        have hq : (x.fdiv y).natAbs < 2 ^ (k + 1) := by
          rw [Int.natAbs_mul] at hm
          have : 1 ≤ y.natAbs := Int.natAbs_pos.mpr h0
          exact Nat.lt_of_le_of_lt (Nat.le_mul_of_pos_right _ this) hm
        have e3 : x - x.fdiv y * y = x.fmod y := by
          have := Int.fdiv_mul_add_fmod x y
          omega
        refine ⟨?_, [.sh (.int y), .sh (.int (x.fmod y))], (x.fmod y).natAbs, hf, .inl (par_ok (d := .int y) (d2 := .int (x.fmod y)) (by (simp only [eVar, bVar, eC, eBin, eUn, eAll, eN, evalL, tVal, asB, tTru, tNotF, tAndF, tOrF, eIf, eAnd, eNot, R.bind_ok, R.bind_ex, R.bind_no, nAll, nLst, ND.sl, ND.d, fz, frz, gN, gTupD, gCons', gNil', iSeq, iAll, seqD, List.getElem?_cons_zero, List.getElem?_cons_succ, List.set_cons_zero, List.set_cons_succ, List.map_cons, List.map_nil, List.cons_append, List.nil_append, List.replicate_succ, List.replicate_zero, List.length_nil, List.length_cons, List.length_map, if_true, if_false, Option.bind_some, Bool.false_eq_true, Bool.not_true, Bool.not_false, Nat.reduceAdd, Nat.zero_le, opInt_i, opEq_int, opNe_int, opAdd_i, opLt_i, opLe_i, opGt_i, opGe_i, opSub_i, opLen_l, decide_true, decide_false])) ?_), y, x.fmod y, rfl, rfl, hy, by omega, ?_⟩
        · (simp only [eVar, bVar, eC, eBin, eUn, eAll, eN, evalL, tVal, asB, tTru, tNotF, tAndF, tOrF, eIf, eAnd, eNot, R.bind_ok, R.bind_ex, R.bind_no, nAll, nLst, ND.sl, ND.d, fz, frz, gN, gTupD, gCons', gNil', iSeq, iAll, seqD, List.getElem?_cons_zero, List.getElem?_cons_succ, List.set_cons_zero, List.set_cons_succ, List.map_cons, List.map_nil, List.cons_append, List.nil_append, List.replicate_succ, List.replicate_zero, List.length_nil, List.length_cons, List.length_map, if_true, if_false, Option.bind_some, Bool.false_eq_true, Bool.not_true, Bool.not_false, Nat.reduceAdd, Nat.zero_le, opInt_i, opEq_int, opNe_int, opAdd_i, opLt_i, opLe_i, opGt_i, opGe_i, opSub_i, opLen_l, decide_true, decide_false])
          rw [decide_eq_false h0]
          rfl
        · (simp only [eVar, bVar, eC, eBin, eUn, eAll, eN, evalL, tVal, asB, tTru, tNotF, tAndF, tOrF, eIf, eAnd, eNot, R.bind_ok, R.bind_ex, R.bind_no, nAll, nLst, ND.sl, ND.d, fz, frz, gN, gTupD, gCons', gNil', iSeq, iAll, seqD, List.getElem?_cons_zero, List.getElem?_cons_succ, List.set_cons_zero, List.set_cons_succ, List.map_cons, List.map_nil, List.cons_append, List.nil_append, List.replicate_succ, List.replicate_zero, List.length_nil, List.length_cons, List.length_map, if_true, if_false, Option.bind_some, Bool.false_eq_true, Bool.not_true, Bool.not_false, Nat.reduceAdd, Nat.zero_le, opInt_i, opEq_int, opNe_int, opAdd_i, opLt_i, opLe_i, opGt_i, opGe_i, opSub_i, opLen_l, decide_true, decide_false])
          rw [opFdiv_b h0 hy hk]
          (simp only [eVar, bVar, eC, eBin, eUn, eAll, eN, evalL, tVal, asB, tTru, tNotF, tAndF, tOrF, eIf, eAnd, eNot, R.bind_ok, R.bind_ex, R.bind_no, nAll, nLst, ND.sl, ND.d, fz, frz, gN, gTupD, gCons', gNil', iSeq, iAll, seqD, List.getElem?_cons_zero, List.getElem?_cons_succ, List.set_cons_zero, List.set_cons_succ, List.map_cons, List.map_nil, List.cons_append, List.nil_append, List.replicate_succ, List.replicate_zero, List.length_nil, List.length_cons, List.length_map, if_true, if_false, Option.bind_some, Bool.false_eq_true, Bool.not_true, Bool.not_false, Nat.reduceAdd, Nat.zero_le, opInt_i, opEq_int, opNe_int, opAdd_i, opLt_i, opLe_i, opGt_i, opGe_i, opSub_i, opLen_l, decide_true, decide_false])
          rw [opMul_b hq hy (by omega) (by omega)]
          (simp only [eVar, bVar, eC, eBin, eUn, eAll, eN, evalL, tVal, asB, tTru, tNotF, tAndF, tOrF, eIf, eAnd, eNot, R.bind_ok, R.bind_ex, R.bind_no, nAll, nLst, ND.sl, ND.d, fz, frz, gN, gTupD, gCons', gNil', iSeq, iAll, seqD, List.getElem?_cons_zero, List.getElem?_cons_succ, List.set_cons_zero, List.set_cons_succ, List.map_cons, List.map_nil, List.cons_append, List.nil_append, List.replicate_succ, List.replicate_zero, List.length_nil, List.length_cons, List.length_map, if_true, if_false, Option.bind_some, Bool.false_eq_true, Bool.not_true, Bool.not_false, Nat.reduceAdd, Nat.zero_le, opInt_i, opEq_int, opNe_int, opAdd_i, opLt_i, opLe_i, opGt_i, opGe_i, opSub_i, opLen_l, decide_true, decide_false])
          rw [e3]
        · rw [← hg, ← e3, Int.gcd_comm y, Int.gcd_sub_mul_right_left])
    b.natAbs _ ⟨a, b, rfl, rfl, ha, hb, rfl⟩
  obtain ⟨x, rfl, hx⟩ := z
  rw [seq_nx e]
  refine ret_ok ?_
  simp only [eAll, evalL, bVar, List.getElem?_cons_zero, R.bind_ok, opAbs]
  congr 2
  omega
theorem common_ok (K : PySem.W.Frag) {a b : Int} {k : Nat} (ha : a.natAbs < 2 ^ k) (hb : b.natAbs < 2 ^ k) (hk : k ≤ 9000) : f_common K [.int a, .int b] = .ok (.int (Int.gcd a b)) := runD_of (gcdB_ok ha hb hk)
theorem content_ok (K : PySem.W.Frag) {d : D} {p : List Int} {k : Nat} (hd : SqD d p) (hb : Bd k p) (hk : k ≤ 9000) : f_content K [d] = .ok (.int (cont p)) := by
  refine runD_of ?_
  show b_content K [.sh d, .un, .un] = _
  unfold b_content
  rw [seq_nx (set_ok (d := .int 0) rfl)]
  simp only [List.set_cons_zero, List.set_cons_succ]
  obtain ⟨s', e, x, l, rfl, hx, _⟩ := sFor_inv (it := iSeq (eVar 0)) (g := gN 2) (b := sSet 1 (eAll (f_common K) [(eVar 1), (eVar 2)])) (ds := p.map D.int) (s := [.sh d, .sh (.int 0), .un]) (by
      unfold iSeq
      simp only [eVar, List.getElem?_cons_zero, R.bind_ok]
      exact hd.seq)
    (fun j s => ∃ (x : Int) (l : Sl), s = [.sh d, .sh (.int x), l] ∧ x = contF 0 (p.take j) ∧ x.natAbs < 2 ^ k)
    ⟨0, .un, rfl, rfl, Nat.pow_pos (by decide)⟩ (by
      rintro j dd s hj ⟨x, l, rfl, hx, hxb⟩
      rw [List.getElem?_map, Option.map_eq_some_iff] at hj
      obtain ⟨c, hc, rfl⟩ := hj
      obtain ⟨hj, rfl⟩ := List.getElem?_eq_some_iff.mp hc
      have hcb := hb.mem (List.getElem_mem hj)
      refine ⟨_, [.sh d, .sh (.int (Int.gcd x p[j])), .sh (.int p[j])], rfl, .inl ?_, _, _, rfl, ?_, ?_⟩
      · rw [set_ok (d := .int (Int.gcd x p[j])) (by rw [eAll2 (d := .int x) (e := .int p[j]) rfl rfl, common_ok K hxb hcb hk])]
        rfl
      · rw [List.take_succ_eq_append_getElem hj]
        unfold contF at hx ⊢
        rw [List.foldl_append, ← hx]
        rfl
      · rw [Int.natAbs_natCast]
        by_cases z : p[j] = 0
        · rw [z, Int.gcd_zero_right]; exact hxb
        · exact Nat.lt_of_le_of_lt (Int.gcd_le_natAbs_right _ z) hcb)
  rw [seq_nx e]
  refine ret_ok ?_
  simp only [eVar, List.getElem?_cons_succ, List.getElem?_cons_zero]
  rw [hx, List.length_map, List.take_length]
  rfl
theorem coefficient_ok (K : PySem.W.Frag) {d : D} {p : List Int} (hd : SqD d p) (i : Nat) : f_coefficient K [d, nD i] = .ok (.int (cf p i)) := by
  refine runD_of ?_
  show b_coefficient K [.sh d, .sh (nD i)] = _
  unfold b_coefficient
  refine ret_ok ?_
  have hl : eAll opLen [bVar 0] [.sh d, .sh (nD i)] = .ok (nD p.length) := by rw [eAll1 (d := d) rfl]; exact hd.len
  unfold eIf tVal
  rw [eBin_eq (d := nD i) (e := nD p.length) rfl hl, opLt_i]
  by_cases h : i < p.length
  · have : ((i : Int) < (p.length : Int)) := by omega
    simp only [asB, R.bind_ok, this, decide_true, if_true]
    rw [eBin_eq (d := d) (e := nD i) rfl rfl]
    exact hd.ix h
  · have : ¬ ((i : Int) < (p.length : Int)) := by omega
    simp only [asB, R.bind_ok, this, decide_false, if_false, Bool.false_eq_true]
    rw [cf_out (by omega)]
    rfl
theorem take_cf {p : List Int} {m : Nat} (h : m ≤ p.length) : (List.range m).map (cf p) = p.take m := by
  apply List.ext_getElem
  · simp [Nat.min_eq_left h]
  · intro i h1 h2
    have hi : i < m := by simpa using h1
    simp [cf_get (show i < p.length by omega)]
/-- what a polynomial's trimming reads of its argument -/
def TsD (K : PySem.W.Frag) (d : D) (p : List Int) : Prop := (opLenK ((He.dflAt ("Quot", some "__init__") 0) K) [1]) [d] = .ok (nD p.length) ∧ ∀ i : Nat, i < p.length → (opIxK ((He.dflAt ("Quot", some "__init__") 0) K) [1]) d (nD i) = .ok (.int (cf p i))
theorem SqD.ts {K : PySem.W.Frag} {d : D} {p : List Int} (h : SqD d p) : TsD K d p := by
  rcases h with rfl | rfl
  · exact ⟨(SqD.l p).len, fun i hi => (SqD.l p).ix hi⟩
  · exact ⟨(SqD.t p).len, fun i hi => (SqD.t p).ix hi⟩
theorem trimmed_okT (K : PySem.W.Frag) {d : D} {p : List Int} (hd : TsD K d p) (hp : p.length ≤ 1000000) : f_trimmed K [d] = .ok (pt (tr p)) := by
  refine runB_of ?_
  show b_trimmed K [.bw d, .un, .un] = _
  unfold b_trimmed
  rw [seq_nx (set_ok (d := nD p.length) (by rw [eAll1 (d := d) rfl]; exact hd.1))]
  simp only [List.set_cons_zero, List.set_cons_succ]
  obtain ⟨s', e, m, rfl, hm, ht⟩ := sWhile_inv (t := tAndF (tVal (eBin opGt (bVar 1) (eC (.int 0)))) (tVal (eBin opEq (eBin (opIxK ((He.dflAt ("Quot", some "__init__") 0) K) [1]) (bVar 0) (eBin opSub (bVar 1) (eC (.int 1)))) (eC (.int 0))))) (b := sSet 1 (eBin opSub (bVar 1) (eC (.int 1))))
    (fun m s => s = [.bw d, .sh (nD m), .un] ∧ m ≤ p.length ∧ tr (p.take m) = tr p) (fun s => ∃ m : Nat, s = [.bw d, .sh (nD m), .un] ∧ m ≤ p.length ∧ p.take m = tr p) (by
      rintro m s ⟨rfl, hm, ht⟩
      cases m with
      | zero =>
        left
        refine ⟨by (simp only [eVar, bVar, eC, eBin, eUn, eAll, eN, evalL, tVal, asB, tTru, tNotF, tAndF, tOrF, eIf, eAnd, eNot, R.bind_ok, R.bind_ex, R.bind_no, nAll, nLst, ND.sl, ND.d, fz, frz, gN, gTupD, gCons', gNil', iSeq, iAll, seqD, List.getElem?_cons_zero, List.getElem?_cons_succ, List.set_cons_zero, List.set_cons_succ, List.map_cons, List.map_nil, List.cons_append, List.nil_append, List.replicate_succ, List.replicate_zero, List.length_nil, List.length_cons, List.length_map, if_true, if_false, Option.bind_some, Bool.false_eq_true, Bool.not_true, Bool.not_false, Nat.reduceAdd, Nat.zero_le, opInt_i, opEq_int, opNe_int, opAdd_i, opLt_i, opLe_i, opGt_i, opGe_i, opSub_i, opLen_l, decide_true, decide_false]); rfl, 0, rfl, hm, ?_⟩
        rw [← ht]
        rfl
      | succ m =>
        have e1 : ∀ l : Sl, eBin opSub (bVar 1) (eC (.int 1)) [.bw d, .sh (nD (m + 1)), l] = .ok (nD m) := fun l => by
          (simp only [eVar, bVar, eC, eBin, eUn, eAll, eN, evalL, tVal, asB, tTru, tNotF, tAndF, tOrF, eIf, eAnd, eNot, R.bind_ok, R.bind_ex, R.bind_no, nAll, nLst, ND.sl, ND.d, fz, frz, gN, gTupD, gCons', gNil', iSeq, iAll, seqD, List.getElem?_cons_zero, List.getElem?_cons_succ, List.set_cons_zero, List.set_cons_succ, List.map_cons, List.map_nil, List.cons_append, List.nil_append, List.replicate_succ, List.replicate_zero, List.length_nil, List.length_cons, List.length_map, if_true, if_false, Option.bind_some, Bool.false_eq_true, Bool.not_true, Bool.not_false, Nat.reduceAdd, Nat.zero_le, opInt_i, opEq_int, opNe_int, opAdd_i, opLt_i, opLe_i, opGt_i, opGe_i, opSub_i, opLen_l, decide_true, decide_false])
          refine congrArg (fun z => R.ok (D.int z)) ?_
          omega
        have e2 : eBin (opIxK ((He.dflAt ("Quot", some "__init__") 0) K) [1]) (bVar 0) (eBin opSub (bVar 1) (eC (.int 1))) [.bw d, .sh (nD (m + 1)), .un] = .ok (.int (cf p m)) := by
          rw [eBin_eq (d := d) (e := nD m) rfl (e1 _)]
          exact hd.2 _ (by omega)
        have e3 : tVal (eBin opGt (bVar 1) (eC (.int 0))) [.bw d, .sh (nD (m + 1)), .un] = .ok true := by
          (simp only [eVar, bVar, eC, eBin, eUn, eAll, eN, evalL, tVal, asB, tTru, tNotF, tAndF, tOrF, eIf, eAnd, eNot, R.bind_ok, R.bind_ex, R.bind_no, nAll, nLst, ND.sl, ND.d, fz, frz, gN, gTupD, gCons', gNil', iSeq, iAll, seqD, List.getElem?_cons_zero, List.getElem?_cons_succ, List.set_cons_zero, List.set_cons_succ, List.map_cons, List.map_nil, List.cons_append, List.nil_append, List.replicate_succ, List.replicate_zero, List.length_nil, List.length_cons, List.length_map, if_true, if_false, Option.bind_some, Bool.false_eq_true, Bool.not_true, Bool.not_false, Nat.reduceAdd, Nat.zero_le, opInt_i, opEq_int, opNe_int, opAdd_i, opLt_i, opLe_i, opGt_i, opGe_i, opSub_i, opLen_l, decide_true, decide_false])
          exact congrArg R.ok (decide_eq_true (by omega))
        have e4 : tVal (eBin opEq (eBin (opIxK ((He.dflAt ("Quot", some "__init__") 0) K) [1]) (bVar 0) (eBin opSub (bVar 1) (eC (.int 1)))) (eC (.int 0))) [.bw d, .sh (nD (m + 1)), .un] = .ok (decide (cf p m = 0)) := by
          unfold tVal
          rw [eBin_eq (d := .int (cf p m)) (e := .int 0) e2 rfl, opEq_int]
          rfl
        have e5 : tAndF (tVal (eBin opGt (bVar 1) (eC (.int 0)))) (tVal (eBin opEq (eBin (opIxK ((He.dflAt ("Quot", some "__init__") 0) K) [1]) (bVar 0) (eBin opSub (bVar 1) (eC (.int 1)))) (eC (.int 0)))) [.bw d, .sh (nD (m + 1)), .un] = .ok (decide (cf p m = 0)) := by
          unfold tAndF
          rw [e3]
          simp only [R.bind_ok, if_true]
          exact e4
        have ht1 : p.take (m + 1) = p.take m ++ [cf p m] := by rw [List.take_succ_eq_append_getElem (by omega), cf_get (by omega)]
        by_cases h0 : cf p m = 0
        · right
          refine ⟨by rw [e5, decide_eq_true h0], _, m, Nat.lt_succ_self m, .inl (set_ok (d := nD m) (e1 _)), rfl, by omega, ?_⟩
          rw [← ht, ht1, h0, tr_snoc0]
        · left
          refine ⟨by rw [e5, decide_eq_false h0], m + 1, rfl, hm, ?_⟩
          rw [← ht]
          refine (tr_id fun hne => ?_).symm
          simp only [ht1]
          rw [List.getLast_append_of_ne_nil (by simp) (by simp)]
          exact h0)
    p.length _ ⟨rfl, Nat.le_refl _, by rw [List.take_length]⟩
  rw [seq_nx e]
  refine ret_ok ?_
  have e6 : eN (nLc (iAll opRange1 [(bVar 1)]) (gN 2) tYesF (eBin (opIxK ((He.dflAt ("Quot", some "__init__") 0) K) [1]) (bVar 0) (bVar 2)) [2]) [.bw d, .sh (nD m), .un] = .ok (pl (tr p)) := by
    unfold eN
    rw [nLc_all (List.range m) nD (fun i => .int (cf p i)) (iRange1 (n := m) rfl (by omega)) (by simp; omega) fun i hi => ⟨_, rfl, rfl, by
      have hi : i < m := List.mem_range.mp hi
      simp only [wipeS, blkS, List.map_cons, List.map_nil, bwS, List.set_cons_zero, List.set_cons_succ]
      rw [eBin_eq (d := d) (e := nD i) rfl rfl]
      exact hd.2 _ (by omega)⟩]
    simp only [R.bind_ok, ND.d]
    rw [← ht, ← take_cf hm, pl, List.map_map]
    rfl
  rw [eAll1 e6]
  exact (SqD.l _).tup
theorem trimmed_ok (K : PySem.W.Frag) {d : D} {p : List Int} (hd : SqD d p) (hp : p.length ≤ 1000000) : f_trimmed K [d] = .ok (pt (tr p)) := trimmed_okT K hd.ts hp
end KK
set_option Elab.async false
set_option linter.all false
set_option maxRecDepth 100000
set_option maxHeartbeats 4000000
namespace KK
open PySem L2 DS PQ
theorem maxI_two (a b : Nat) : opMax [.lst [nD a, nD b]] = .ok (nD (max a b)) := by
  unfold opMax
  simp only [intsD, Option.map_some, maxI]
  congr 2
  split <;> omega
theorem ints_all {α : Type} (f : α → Int) (l : List α) : (l.map fun a => D.int (f a)) = (l.map f).map D.int := by rw [List.map_map]; rfl
theorem added_ok (K : PySem.W.Frag) {d e : D} {p q : List Int} (hd : SqD d p) (he : SqD e q) (hp : p.length ≤ 100000) (hq : q.length ≤ 100000) : f_added K [d, e] = .ok (pt (addP p q)) := by
  refine runD_of ?_
  show b_added K [.sh d, .sh e, .un, .un] = _
  unfold b_added
  have e1 : eAll opMax [(eN (nAll nLst [(eAll opLen [(bVar 0)]), (eAll opLen [(bVar 1)])]))] [.sh d, .sh e, .un, .un] = .ok (nD (max p.length q.length)) := by
    rw [eAll1 (d := .lst [nD p.length, nD q.length]) (by
      unfold eN nAll
      simp only [evalL, eAll, bVar, List.getElem?_cons_zero, List.getElem?_cons_succ, R.bind_ok, hd.len, he.len]
      rfl)]
    exact maxI_two _ _
  rw [seq_nx (set_ok e1)]
  simp only [List.set_cons_zero, List.set_cons_succ]
  have e2 : eN (nLc (iAll opRange1 [(bVar 2)]) (gN 3) tYesF (eBin opAdd (eAll (f_coefficient K) [(eVar 0), (eVar 3)]) (eAll (f_coefficient K) [(eVar 1), (eVar 3)])) [3]) [.sh d, .sh e, .sh (nD (max p.length q.length)), .un] = .ok (pl ((List.range (max p.length q.length)).map fun i => cf p i + cf q i)) := by
    unfold eN
    rw [nLc_all (List.range (max p.length q.length)) nD (fun i => .int (cf p i + cf q i)) (iRange1 rfl (by omega)) (by simp; omega) fun i hi => ⟨_, rfl, rfl, by
      simp only [wipeS, blkS, List.map_cons, List.map_nil, bwS, List.set_cons_zero, List.set_cons_succ]
      rw [eBin_eq (d := .int (cf p i)) (e := .int (cf q i)) (by rw [eAll2 (d := d) (e := nD i) rfl rfl]; exact coefficient_ok K hd i) (by rw [eAll2 (d := e) (e := nD i) rfl rfl]; exact coefficient_ok K he i)]
      rfl⟩]
    simp only [R.bind_ok, ND.d]
    rw [ints_all]
  refine ret_ok ?_
  rw [eAll1 e2, trimmed_ok K (SqD.l _) (by simp; omega)]
  rfl
theorem negated_ok (K : PySem.W.Frag) {d : D} {p : List Int} (hd : SqD d p) (hp : p.length ≤ 100000) : f_negated K [d] = .ok (pt (negP p)) := by
  refine runD_of ?_
  show b_negated K [.sh d, .un] = _
  unfold b_negated
  refine ret_ok ?_
  have e2 : eN (nLc (iSeq (eVar 0)) (gN 1) tYesF (eUn opNeg (bVar 1)) [1]) [.sh d, .un] = .ok (pl (negP p)) := by
    unfold eN
    rw [nLc_all p D.int (fun a => .int (-a)) (by unfold iSeq; simp only [eVar, List.getElem?_cons_zero, R.bind_ok]; exact hd.seq) (by omega) fun i hi => ⟨_, rfl, rfl, by
      simp only [wipeS, blkS, List.map_cons, List.map_nil, bwS, List.set_cons_zero, List.set_cons_succ]
      rfl⟩]
    simp only [R.bind_ok, ND.d]
    rw [ints_all]
    rfl
  rw [eAll1 e2]
  exact (SqD.l _).tup
/-- the sum for one power -/
theorem summand_ok {fc : List D → R D} {d e : D} {p q : List Int} {k m : Nat} (hc : ∀ i : Nat, fc [e, nD i] = .ok (.int (cf q i))) (hd : SqD d p) (hp : p.length ≤ 100000) (bp : Bd k p) (bq : Bd m q) (hk : k ≤ 400000) (hm : m ≤ 400000) (ds : List D) (j : Nat) (l : Sl) :
    eAll opSum [(eN (nLc (iAll opRange1 [(eAll opLen [(bVar 0)])]) (gN 4) (tVal (eBin opLe (bVar 4) (bVar 3))) (eBin opMul (eBin opIx (bVar 0) (bVar 4)) (eAll fc [(eVar 1), (eBin opSub (bVar 3) (bVar 4))])) [4]))] [.sh d, .sh e, .ol ds, .sh (nD j), l] = .ok (.int (sumAt q p j)) := by
  have e2 : eN (nLc (iAll opRange1 [(eAll opLen [(bVar 0)])]) (gN 4) (tVal (eBin opLe (bVar 4) (bVar 3))) (eBin opMul (eBin opIx (bVar 0) (bVar 4)) (eAll fc [(eVar 1), (eBin opSub (bVar 3) (bVar 4))])) [4]) [.sh d, .sh e, .ol ds, .sh (nD j), l] = .ok (pl (((List.range p.length).filter fun i => decide (i ≤ j)).map fun i => cf p i * cf q (j - i))) := by
    unfold eN
    rw [nLc_fil (List.range p.length) nD (fun i => decide (i ≤ j)) (fun i => .int (cf p i * cf q (j - i))) (iRange1 (by rw [eAll1 (d := d) rfl]; exact hd.len) (by omega)) (by simp; omega) fun i hi => ⟨_, rfl, by
      simp only [wipeS, blkS, List.map_cons, List.map_nil, bwS, List.set_cons_zero, List.set_cons_succ]
      unfold tVal
      rw [eBin_eq (d := nD i) (e := nD j) rfl rfl, opLe_i]
      refine congrArg R.ok (decide_eq_decide.mpr ?_)
      omega, fun hij => by
      have hij : i ≤ j := of_decide_eq_true hij
      have hi : i < p.length := List.mem_range.mp hi
      simp only [wipeS, blkS, List.map_cons, List.map_nil, bwS, List.set_cons_zero, List.set_cons_succ]
      rw [eBin_eq (d := .int (cf p i)) (e := .int (cf q (j - i))) (by rw [eBin_eq (d := d) (e := nD i) rfl rfl]; exact hd.ix hi) (by
        rw [eAll2 (d := e) (e := nD (j - i)) rfl (by
          rw [eBin_eq (d := nD j) (e := nD i) rfl rfl, opSub_i]
          refine congrArg (fun z => R.ok (D.int z)) ?_
          omega)]
        exact hc _)]
      exact opMul_b (bp _) (bq _) hk hm⟩]
    simp only [R.bind_ok, ND.d]
    rw [ints_all]
  rw [eAll1 e2]
  simp only [opSum, intsD_ints]
  rfl
theorem ints_snoc (f : Nat → Int) (j : Nat) : (((List.range j).map f).map D.int) ++ [.int (f j)] = ((List.range (j + 1)).map f).map D.int := by
  rw [List.range_succ, List.map_append, List.map_append]
  rfl
theorem product_loop {fc : List D → R D} {d e : D} {p q : List Int} {k m : Nat} (hc : ∀ i : Nat, fc [e, nD i] = .ok (.int (cf q i))) (hd : SqD d p) (he : SqD e q) (hp : p.length ≤ 100000) (hq : q.length ≤ 100000) (bp : Bd k p) (bq : Bd m q) (hk : k ≤ 400000) (hm : m ≤ 400000) :
    ∃ l1 l2, sFor (iAll opRange1 [(eBin opAdd (eAll opLen [(bVar 0)]) (eAll opLen [(bVar 1)]))]) (gN 3) (sApp 2 (eAll opSum [(eN (nLc (iAll opRange1 [(eAll opLen [(bVar 0)])]) (gN 4) (tVal (eBin opLe (bVar 4) (bVar 3))) (eBin opMul (eBin opIx (bVar 0) (bVar 4)) (eAll fc [(eVar 1), (eBin opSub (bVar 3) (bVar 4))])) [4]))])) [.sh d, .sh e, .ol [], .un, .un] =
      .nx [.sh d, .sh e, .ol (((List.range (p.length + q.length)).map fun k => sumAt q p k).map D.int), l1, l2] := by
  obtain ⟨s', e1, l1, rfl⟩ := sFor_inv (it := iAll opRange1 [(eBin opAdd (eAll opLen [(bVar 0)]) (eAll opLen [(bVar 1)]))]) (g := gN 3) (b := (sApp 2 (eAll opSum [(eN (nLc (iAll opRange1 [(eAll opLen [(bVar 0)])]) (gN 4) (tVal (eBin opLe (bVar 4) (bVar 3))) (eBin opMul (eBin opIx (bVar 0) (bVar 4)) (eAll fc [(eVar 1), (eBin opSub (bVar 3) (bVar 4))])) [4]))])))
    (ds := (List.range (p.length + q.length)).map nD) (s := [.sh d, .sh e, .ol [], .un, .un]) (iRange1 (n := p.length + q.length) (by
      rw [eBin_eq (d := nD p.length) (e := nD q.length) (by rw [eAll1 (d := d) rfl]; exact hd.len) (by rw [eAll1 (d := e) rfl]; exact he.len), opAdd_i]
      refine congrArg (fun z => R.ok (D.int z)) ?_
      omega) (by omega))
    (fun j s => ∃ l1 : Sl, s = [.sh d, .sh e, .ol (((List.range j).map fun k => sumAt q p k).map D.int), l1, .un])
    ⟨.un, rfl⟩ (by
      rintro j dd s hj ⟨l1, rfl⟩
      rw [List.getElem?_map, Option.map_eq_some_iff] at hj
      obtain ⟨c, hc1, rfl⟩ := hj
      obtain ⟨hj, ec⟩ := List.getElem?_eq_some_iff.mp hc1
      have hj2 : j < p.length + q.length := by simpa using hj
      have : c = j := by rw [← ec]; simp
      subst this
      refine ⟨_, [.sh d, .sh e, .ol (((List.range (c + 1)).map fun k => sumAt q p k).map D.int), .sh (nD c), .un], rfl, .inl ?_, _, rfl⟩
      simp only [List.set_cons_zero, List.set_cons_succ]
      rw [app_ok (ds := ((List.range c).map fun k => sumAt q p k).map D.int) (d := .int (sumAt q p c)) rfl (summand_ok hc hd hp bp bq hk hm _ _ _) (by rw [szl]; simp; omega), ints_snoc (fun k => sumAt q p k) c]
      rfl)
  rw [List.length_map, List.length_range] at e1
  exact ⟨_, _, e1⟩
theorem product_ok (K : PySem.W.Frag) {d e : D} {p q : List Int} {k m : Nat} (hd : SqD d p) (he : SqD e q) (hp : p.length ≤ 100000) (hq : q.length ≤ 100000) (bp : Bd k p) (bq : Bd m q) (hk : k ≤ 400000) (hm : m ≤ 400000) : f_product K [d, e] = .ok (pt (mulP p q)) := by
  refine runD_of ?_
  show b_product K [.sh d, .sh e, .un, .un, .un] = _
  unfold b_product
  rw [seq_nx (setN_ok (n := .nl []) rfl)]
  simp only [List.set_cons_zero, List.set_cons_succ, ND.sl]
  obtain ⟨l1, l2, e1⟩ := product_loop (fc := f_coefficient K) (coefficient_ok K he) hd he hp hq bp bq hk hm
  rw [seq_nx e1]
  refine ret_ok ?_
  rw [eAll1 (d := pl ((List.range (p.length + q.length)).map fun k => sumAt q p k)) rfl, trimmed_ok K (SqD.l _) (by simp; omega)]
  rfl
theorem divC_ok {idx : Nat} {e : EF} {g : GF} {el : EF} {s : SD} {d : D} {p : List Int} {c : Int} (he : e s = .ok d) (hd : SqD d p) (hp : p.length ≤ 100000)
    (h : ∀ a, ∃ s1, g (.int a) (wipeS (blkS s) [idx]) = some s1 ∧ el s1 = .ok (.int (a.fdiv c))) : eAll opTuple [(eN (nLc (iSeq e) g tYesF el [idx]))] s = .ok (pt (divC c p)) := by
  have e2 : eN (nLc (iSeq e) g tYesF el [idx]) s = .ok (pl (divC c p)) := by
    unfold eN
    rw [nLc_all p D.int (fun a => .int (a.fdiv c)) (by unfold iSeq; rw [he, R.bind_ok]; exact hd.seq) (by omega) fun a ha => by
      obtain ⟨s1, h1, h2⟩ := h a
      exact ⟨s1, h1, rfl, h2⟩]
    simp only [R.bind_ok, ND.d]
    rw [ints_all]
    rfl
  rw [eAll1 e2]
  exact (SqD.l _).tup
theorem cont_lt {p : List Int} {k : Nat} (hb : Bd k p) : (cont p).natAbs < 2 ^ k := by
  by_cases h : ∃ i, cf p i ≠ 0
  · obtain ⟨i, hi⟩ := h
    exact Nat.lt_of_le_of_lt (Nat.le_of_dvd (Int.natAbs_pos.mpr hi) (Int.natAbs_dvd_natAbs.mpr (cont_cf p i))) (hb i)
  · have hz : ∀ i, cf p i = 0 := fun i => Classical.byContradiction fun z => h ⟨i, z⟩
    have h1 : (0 : Int) ∣ cont p := cont_great fun i => by rw [hz i]; exact Int.dvd_refl _
    rw [Int.zero_dvd.mp h1]
    exact Nat.pow_pos (by decide)
theorem primitive_ok (K : PySem.W.Frag) {p : List Int} {k : Nat} (ht : Tr p) (hp : p.length ≤ 100000) (hb : Bd k p) (hk : k ≤ 9000) : f_primitive K [pt p] = .ok (pt (primP p)) := by
  refine runD_of ?_
  show b_primitive K [.sh (pt p), .un, .un] = _
  unfold b_primitive
  have e0 : tVal (eBin opEq (bVar 0) (eAll opTup [])) [.sh (pt p), .un, .un] = .ok (decide (p = [])) := by
    unfold tVal
    rw [eBin_eq (d := pt p) (e := pt []) rfl (eTup0 _), opEq_tups]
    rfl
  by_cases h0 : p = []
  · rw [seq_rt (d := pt p)]
    · unfold primP
      rw [if_pos h0, h0]
    · rw [if_t (by rw [e0, decide_eq_true h0])]
      exact ret_ok rfl
  · rw [seq_nx (by rw [if_f (by rw [e0, decide_eq_false h0])])]
    rw [seq_nx (set_ok (d := .int (cont p)) (by rw [eAll1 (d := pt p) rfl]; exact content_ok K (SqD.t p) hb hk))]
    simp only [List.set_cons_zero, List.set_cons_succ]
    have hl : eBin opIx (bVar 0) (eUn opNeg (eC (.int 1))) [.sh (pt p), .sh (.int (cont p)), .un] = .ok (.int (lastP p)) := by
      rw [eBin_eq (d := pt p) (e := .int (-1)) rfl rfl]
      exact (SqD.t p).last h0
    have ht1 : tVal (eBin opLt (eBin opIx (bVar 0) (eUn opNeg (eC (.int 1)))) (eC (.int 0))) [.sh (pt p), .sh (.int (cont p)), .un] = .ok (decide (lastP p < 0)) := by
      unfold tVal
      rw [eBin_eq (d := .int (lastP p)) (e := .int 0) hl rfl]
      rfl
    have e1 : sIf (tVal (eBin opLt (eBin opIx (bVar 0) (eUn opNeg (eC (.int 1)))) (eC (.int 0)))) (sSet 1 (eUn opNeg (bVar 1))) .nx [.sh (pt p), .sh (.int (cont p)), .un] = .nx [.sh (pt p), .sh (.int (sgC p)), .un] := by
      unfold sgC
      by_cases hn : lastP p < 0
      · rw [if_t (by rw [ht1, decide_eq_true hn]), if_pos hn]
        exact set_ok (d := .int (- cont p)) rfl
      · rw [if_f (by rw [ht1, decide_eq_false hn]), if_neg hn]
    rw [seq_nx e1]
    refine ret_ok ?_
    have hs := sgC_ne ht h0
    have hsb : (sgC p).natAbs < 2 ^ k := by
      have := cont_lt hb
      unfold sgC
      split <;> omega
    unfold primP
    rw [if_neg h0]
    refine divC_ok (d := pt p) rfl (SqD.t p) hp fun a => ⟨_, rfl, ?_⟩
    simp only [wipeS, blkS, List.map_cons, List.map_nil, bwS, List.set_cons_zero, List.set_cons_succ]
    rw [eBin_eq (d := .int a) (e := .int (sgC p)) rfl rfl]
    exact opFdiv_b hs hsb hk
end KK
set_option Elab.async false
set_option linter.all false
set_option maxRecDepth 100000
set_option maxHeartbeats 4000000
namespace KK
open PySem L2 DS PQ
theorem rep_zero : ∀ n : Nat, (List.replicate n [D.int 0]).flatten = (List.replicate n (0 : Int)).map D.int
  | 0 => rfl
  | n + 1 => by rw [List.replicate_succ, List.flatten_cons, rep_zero n, List.replicate_succ, List.map_cons]; rfl
theorem mulT_ok {s : Nat} (hs : s ≤ 1000) : opMulT (.tup [.int 0]) (nD s) = .ok (pt (List.replicate s 0)) := by
  unfold opMulT
  dsimp only
  by_cases h : s ≤ 1
  · rw [if_pos (by omega)]
    unfold opRepS
    dsimp only
    rw [if_pos ⟨by simp, by omega, by omega⟩]
    simp only [Int.toNat_natCast, rep_zero]
  · rw [if_neg (by omega)]
    unfold opMul
    dsimp only
    rw [if_pos ⟨by simp, by omega, by omega, by simp⟩]
    simp only [Int.toNat_natCast, rep_zero]
theorem addT_ok {p q : List Int} (hp : p.length ≤ 1000000) (hq : q.length ≤ 1000000) : opAdd (pt p) (pt q) = .ok (pt (p ++ q)) := by
  unfold opAdd
  dsimp only
  rw [if_pos (by simp only [List.length_map]; rw [szl]; omega)]
  simp
theorem last_cut {p : List Int} (hp : p ≠ []) : opSlice (pt p) (some (-1)) none = .ok (pt [lastP p]) := by
  have hl : 0 < p.length := List.length_pos_iff.mpr hp
  unfold opSlice
  dsimp only
  have e : cutD (p.map D.int) (some (-1)) none = ([lastP p] : List Int).map D.int := by
    unfold cutD
    have e1 : HT.sIx (p.map D.int).length 0 (some (-1)) = p.length - 1 := by
      show (if (-1 : Int) < 0 then ((-1 : Int) + ((p.map D.int).length : Int)).toNat else min (-1 : Int).toNat (p.map D.int).length) = _
      rw [if_pos (by decide), List.length_map]
      omega
    have e2 : HT.sIx (p.map D.int).length (p.map D.int).length none = p.length := by
      show (p.map D.int).length = _
      rw [List.length_map]
    rw [e1, e2, ← List.map_drop, ← List.map_take]
    congr 1
    have e3 : p.drop (p.length - 1) = [lastP p] := by
      rw [List.drop_eq_getElem_cons (by omega), List.drop_eq_nil_of_le (by omega)]
      unfold lastP
      rw [cf_get (by omega)]
    rw [e3, show p.length - (p.length - 1) = 1 by omega]
    rfl
  rw [e]
theorem sh_len (s : Nat) (q : List Int) : (sh s q).length = s + q.length := by unfold sh; simp
theorem Bd_sh {k s : Nat} {q : List Int} (h : Bd k q) : Bd k (sh s q) := fun i => by
  rw [cf_sh]
  split
  · exact Nat.pow_pos (by decide)
  · exact h _
theorem Bd_one {k : Nat} {c : Int} (h : c.natAbs < 2 ^ k) : Bd k [c] := Bd.of fun x hx => by
  simp only [List.mem_singleton] at hx
  rw [hx]; exact h
theorem mulP_len (p q : List Int) : (mulP p q).length ≤ p.length + q.length := by
  unfold mulP
  exact Nat.le_trans (tr_len _) (by simp)
theorem negP_len (p : List Int) : (negP p).length = p.length := by unfold negP; simp
theorem addP_len (p q : List Int) : (addP p q).length ≤ max p.length q.length := by
  unfold addP
  exact Nat.le_trans (tr_len _) (by simp)
theorem shift_ok {e1 e2 : EF} {s : SD} {n : Nat} {q : List Int} (h1 : e1 s = .ok (nD n)) (h2 : e2 s = .ok (pt q)) (hn : n ≤ 1000) (hq : q.length ≤ 1000) : eBin opAdd (eBin opMulT (eAll opTup [(eC (.int 0))]) e1) e2 s = .ok (pt (sh n q)) := by
  rw [eBin_eq (d := pt (List.replicate n 0)) (e := pt q) (by rw [eBin_eq (d := .tup [.int 0]) (e := nD n) rfl h1]; exact mulT_ok hn) h2]
  exact addT_ok (by simp; omega) (by omega)
/-- one - two by a number, shifted -/
theorem rest_of_ok (K : PySem.W.Frag) {a b : List Int} {k : Nat} (ga : Good a) (gb : Good b) (hb : b ≠ []) (ba : Bd k a) (bb : Bd k b) (hB : (a.length - b.length + 2) * (k + 1) ≤ 8990) (la : a.length ≤ 500) (lb : b.length ≤ 500) :
    ∃ s one, f_rest_of K [pt a, pt b] = .ok (pt one) ∧ Re a b k s one ∧ Steps b s a one ∧ one.length < b.length := by
  suffices h : ∃ s one, b_rest_of K [.sh (pt a), .sh (pt b), .un] = .rt (pt one) ∧ Re a b k s one ∧ Steps b s a one ∧ one.length < b.length by
    obtain ⟨s, one, h1, h2⟩ := h
    exact ⟨s, one, runD_of h1, h2⟩
  unfold b_rest_of
  obtain ⟨s', e, one, s, l, rfl, hr, hst, hl⟩ := sWhile_inv (t := (tVal (eBin opGe (eAll opLen [(bVar 0)]) (eAll opLen [(bVar 1)])))) (b := (sSeq (sSet 2 (eBin opMulT (eAll opTup [(eC (.int 0))]) (eBin opSub (eAll opLen [(bVar 0)]) (eAll opLen [(bVar 1)])))) (sSeq (sSet 0 (eAll (f_added K) [(eAll (f_product K) [(eVar 0), (eSlice (bVar 1) (fun s => ((eUn opNeg (eC (.int 1))) s).bind asInt) (fun _ => .ok none))]), (eAll (f_negated K) [(eAll (f_product K) [(eBin opAdd (bVar 2) (bVar 1)), (eSlice (bVar 0) (fun s => ((eUn opNeg (eC (.int 1))) s).bind asInt) (fun _ => .ok none))])])])) (sSet 0 (eAll (f_primitive K) [(eVar 0)])))))
    (fun m s => ∃ (one : List Int) (n : Nat) (l : Sl), s = [.sh (pt one), .sh (pt b), l] ∧ m = one.length ∧ Re a b k n one ∧ Steps b n a one) (fun s => ∃ (one : List Int) (n : Nat) (l : Sl), s = [.sh (pt one), .sh (pt b), l] ∧ Re a b k n one ∧ Steps b n a one ∧ one.length < b.length) (by
      rintro m s ⟨one, n, l, rfl, rfl, hr, hst⟩
      have ht : tVal (eBin opGe (eAll opLen [(bVar 0)]) (eAll opLen [(bVar 1)])) [.sh (pt one), .sh (pt b), l] = .ok (decide (b.length ≤ one.length)) := by
        unfold tVal
        rw [eBin_eq (d := nD one.length) (e := nD b.length) (by rw [eAll1 (d := pt one) rfl]; exact (SqD.t one).len) (by rw [eAll1 (d := pt b) rfl]; exact (SqD.t b).len), opGe_i]
        exact congrArg R.ok (decide_eq_decide.mpr (by omega))
      by_cases hle : b.length ≤ one.length
      · right
        have hpos : 0 < b.length := List.length_pos_iff.mpr hb
        have hone : one ≠ [] := fun z => by rw [z, List.length_nil] at hle; omega
        have hls := hr.ls
        have lo : one.length ≤ 500 := by omega
        have hn1 : n + 2 ≤ a.length - b.length + 2 := by omega
        have hbits : k + n * (k + 1) + k + 1 ≤ 8990 := by
          have h1 : (n + 2) * (k + 1) ≤ 8990 := Nat.le_trans (Nat.mul_le_mul_right (k + 1) hn1) hB
          have h2 : (n + 2) * (k + 1) = n * (k + 1) + 2 * (k + 1) := Nat.add_mul _ _ _
          omega
        have bo := hr.bd
        refine ⟨by rw [ht, decide_eq_true hle], [.sh (pt (primP (stepP one b))), .sh (pt b), .sh (pt (List.replicate (one.length - b.length) 0))], (primP (stepP one b)).length, ?_, .inl ?_, _, n + 1, _, rfl, rfl, hr.step gb hb bb hle, hst.snoc hle hone hr.go⟩
        · rw [primP_len]
          exact stepP_len hb hle
        · have e1 : eBin opSub (eAll opLen [(bVar 0)]) (eAll opLen [(bVar 1)]) [.sh (pt one), .sh (pt b), l] = .ok (nD (one.length - b.length)) := by
            rw [eBin_eq (d := nD one.length) (e := nD b.length) (by rw [eAll1 (d := pt one) rfl]; exact (SqD.t one).len) (by rw [eAll1 (d := pt b) rfl]; exact (SqD.t b).len), opSub_i]
            refine congrArg (fun z => R.ok (D.int z)) ?_
            omega
          rw [seq_nx (set_ok (d := pt (List.replicate (one.length - b.length) 0)) (by rw [eBin_eq (d := .tup [.int 0]) (e := nD (one.length - b.length)) rfl e1]; exact mulT_ok (by omega)))]
          simp only [List.set_cons_zero, List.set_cons_succ]
          have e2 : eSlice (bVar 1) (fun s => ((eUn opNeg (eC (.int 1))) s).bind asInt) (fun _ => .ok none) [.sh (pt one), .sh (pt b), .sh (pt (List.replicate (one.length - b.length) 0))] = .ok (pt [lastP b]) := last_cut hb
          have e3 : eSlice (bVar 0) (fun s => ((eUn opNeg (eC (.int 1))) s).bind asInt) (fun _ => .ok none) [.sh (pt one), .sh (pt b), .sh (pt (List.replicate (one.length - b.length) 0))] = .ok (pt [lastP one]) := last_cut hone
          have e4 : eBin opAdd (bVar 2) (bVar 1) [.sh (pt one), .sh (pt b), .sh (pt (List.replicate (one.length - b.length) 0))] = .ok (pt (sh (one.length - b.length) b)) := by
            rw [eBin_eq (d := pt (List.replicate (one.length - b.length) 0)) (e := pt b) rfl rfl]
            exact addT_ok (by simp; omega) (by omega)
          have hm1 := mulP_len one [lastP b]
          have hm2 := mulP_len (sh (one.length - b.length) b) [lastP one]
          have hs := sh_len (one.length - b.length) b
          simp only [List.length_singleton] at hm1 hm2
          have e5 : eAll (f_product K) [(eVar 0), (eSlice (bVar 1) (fun s => ((eUn opNeg (eC (.int 1))) s).bind asInt) (fun _ => .ok none))] [.sh (pt one), .sh (pt b), .sh (pt (List.replicate (one.length - b.length) 0))] = .ok (pt (mulP one [lastP b])) := by
            rw [eAll2 (d := pt one) (e := pt [lastP b]) rfl e2]
            exact product_ok K (SqD.t _) (SqD.t _) (by omega) (by simp) bo (Bd_one (bb _)) (by omega) (by omega)
          have e6 : eAll (f_product K) [(eBin opAdd (bVar 2) (bVar 1)), (eSlice (bVar 0) (fun s => ((eUn opNeg (eC (.int 1))) s).bind asInt) (fun _ => .ok none))] [.sh (pt one), .sh (pt b), .sh (pt (List.replicate (one.length - b.length) 0))] = .ok (pt (mulP (sh (one.length - b.length) b) [lastP one])) := by
            rw [eAll2 (d := pt (sh (one.length - b.length) b)) (e := pt [lastP one]) e4 e3]
            exact product_ok K (SqD.t _) (SqD.t _) (by omega) (by simp) (Bd_sh bb) (Bd_one (bo _)) (by omega) (by omega)
          have e7 : eAll (f_added K) [(eAll (f_product K) [(eVar 0), (eSlice (bVar 1) (fun s => ((eUn opNeg (eC (.int 1))) s).bind asInt) (fun _ => .ok none))]), (eAll (f_negated K) [(eAll (f_product K) [(eBin opAdd (bVar 2) (bVar 1)), (eSlice (bVar 0) (fun s => ((eUn opNeg (eC (.int 1))) s).bind asInt) (fun _ => .ok none))])])] [.sh (pt one), .sh (pt b), .sh (pt (List.replicate (one.length - b.length) 0))] = .ok (pt (stepP one b)) := by
            rw [eAll2 (d := pt (mulP one [lastP b])) (e := pt (negP (mulP (sh (one.length - b.length) b) [lastP one]))) e5 (by
              rw [eAll1 e6]
              exact negated_ok K (SqD.t _) (by omega))]
            exact added_ok K (SqD.t _) (SqD.t _) (by omega) (by rw [negP_len]; omega)
          rw [seq_nx (set_ok e7)]
          simp only [List.set_cons_zero, List.set_cons_succ]
          have hsl := stepP_len hb hle
          rw [set_ok (d := pt (primP (stepP one b))) (by
            rw [eAll1 (d := pt (stepP one b)) rfl]
            exact primitive_ok K (stepP_Tr _ _) (by omega) (stepP_Bd bo bb) (by omega))]
          simp only [List.set_cons_zero, List.set_cons_succ]
      · left
        exact ⟨by rw [ht, decide_eq_false hle], one, n, l, rfl, hr, hst, by omega⟩)
    a.length _ ⟨a, 0, .un, rfl, rfl, Re.init ga ba, .nil a⟩
  rw [seq_nx e]
  exact ⟨s, one, ret_ok rfl, hr, hst, hl⟩
theorem shared_ok (K : PySem.W.Frag) {p q : List Int} {k l L : Nat} (tp : Tr p) (tq : Tr q) (hq : q ≠ []) (bp : Bd k p) (bq : Bd k q) (lp : p.length ≤ L) (lq : q.length ≤ L) (hL : L ≤ 500) (hl2 : 2 * L ≤ 2 ^ l) (hB : (k + l + 1) * ((L + 2) * (L + 2)) + 2 * (L + 2) ≤ 17980) :
    ∃ g, f_shared K [pt p, pt q] = .ok (pt g) ∧ Tr g ∧ g ≠ [] ∧ Prim g ∧ 0 < lastP g ∧ Dv g p ∧ Dv g q ∧ Bd ((k + l + 1) * (2 * L)) g ∧ g.length ≤ L ∧ Cmb p q g := by
  suffices h : ∃ g, b_shared K [.sh (pt p), .sh (pt q)] = .rt (pt g) ∧ Tr g ∧ g ≠ [] ∧ Prim g ∧ 0 < lastP g ∧ Dv g p ∧ Dv g q ∧ Bd ((k + l + 1) * (2 * L)) g ∧ g.length ≤ L ∧ Cmb p q g by
    obtain ⟨g, h1, h2⟩ := h
    exact ⟨g, runD_of h1, h2⟩
  have hk9 : k ≤ 9000 := by
    have : (k + l + 1) * (2 * 2) ≤ (k + l + 1) * ((L + 2) * (L + 2)) := Nat.mul_le_mul_left _ (Nat.mul_le_mul (by omega) (by omega))
    omega
  unfold b_shared
  rw [seq_nx (set_ok (d := pt (primP p)) (by rw [eAll1 (d := pt p) rfl]; exact primitive_ok K tp (by omega) bp (by omega)))]
  simp only [List.set_cons_zero, List.set_cons_succ]
  rw [seq_nx (set_ok (d := pt (primP q)) (by
    rw [eAll1 (d := pt q) rfl]
    exact primitive_ok K tq (by omega) bq (by omega)))]
  simp only [List.set_cons_zero, List.set_cons_succ]
  obtain ⟨s', e, g, rfl, hS⟩ := sWhile_inv (t := (tVal (eBin opNe (bVar 1) (eAll opTup [])))) (b := (sPar 0 1 (eVar 1) (eAll (f_rest_of K) [(eVar 0), (eVar 1)])))
    (fun m s => ∃ (a b : List Int), s = [.sh (pt a), .sh (pt b)] ∧ (m = b.length) ∧ Sh2 p q k (k + l + 1) L a b) (fun s => ∃ (a : List Int), s = [.sh (pt a), .sh (pt [])] ∧ Sh2 p q k (k + l + 1) L a []) (by
      rintro m s ⟨a, b, rfl, rfl, hS⟩
      have ht : tVal (eBin opNe (bVar 1) (eAll opTup [])) [.sh (pt a), .sh (pt b)] = .ok (!decide (b = [])) := by
        unfold tVal
        rw [eBin_eq (d := pt b) (e := pt []) rfl (eTup0 _), opNe_tups]
        rfl
      by_cases h0 : b = []
      · left
        refine ⟨by rw [ht, decide_eq_true h0]; rfl, a, ?_, ?_⟩
        · rw [h0]
        · rw [← h0]; exact hS
      · right
        obtain ⟨k', ba, bb, hk'⟩ := hS.bd
        have hr := Sh2.room hS.la (by omega : k < k + l + 1) hB h0 hk' (p0 := p) (q0 := q)
        have hla := hS.la
        have hlb := hS.lb
        obtain ⟨n, one, e1, r1, st1, hl⟩ := rest_of_ok K hS.ga hS.gb h0 ba bb hr (by omega) (by omega)
        refine ⟨by rw [ht, decide_eq_false h0]; rfl, [.sh (pt b), .sh (pt one)], one.length, hl, .inl (par_ok (d := pt b) (d2 := pt one) rfl (by rw [eAll2 (d := pt a) (e := pt b) rfl rfl]; exact e1)), b, one, rfl, rfl, Sh2.done tp tq bp bq lp lq hl2 hS h0 r1 st1 hl⟩)
    (primP q).length _ ⟨_, _, rfl, rfl, Sh2.init tp tq hq bp bq lp lq⟩
  have hg : g ≠ [] := hS.ne.resolve_right fun z => z rfl
  have hpos : 0 < g.length := List.length_pos_iff.mpr hg
  obtain ⟨hP, hlast⟩ := hS.ga.ok hg
  obtain ⟨d1, d2⟩ := hS.dv g hP (Dv.self g) (Dv.nil fun i => by simp)
  rw [seq_nx e]
  refine ⟨g, ret_ok rfl, hS.ga.tr, hg, hP, hlast, d1, d2, ?_, hS.la, hS.ca⟩
  obtain ⟨k', ba, _, hk'⟩ := hS.bd
  have hla := hS.la
  refine ba.mono ?_
  rcases hk' with h | ⟨_, h⟩
  · exact Nat.le_trans h (Nat.le_trans (by omega : k ≤ (k + l + 1) * 1) (Nat.mul_le_mul_left _ (by omega)))
  · exact Nat.le_trans h (Nat.mul_le_mul_left _ (by omega))
end KK
set_option Elab.async false
set_option linter.all false
set_option maxRecDepth 100000
set_option maxHeartbeats 4000000
namespace KK
open PySem L2 DS PQ
theorem down_ok {e1 : EF} {s : SD} {x : Int} (h : e1 s = .ok (.int x)) (hx : x.natAbs ≤ 1000) : iAll opRange3 [e1, (eUn opNeg (eC (.int 1))), (eUn opNeg (eC (.int 1)))] s = .ok (((List.range (x + 1).toNat).map fun i : Nat => (x - (i : Int))).map D.int) := by
  unfold iAll
  have e0 : evalL [e1, (eUn opNeg (eC (.int 1))), (eUn opNeg (eC (.int 1)))] s = .ok [.int x, .int (-1), .int (-1)] := by
    simp only [evalL, h, R.bind_ok]
    rfl
  rw [e0, R.bind_ok]
  unfold opRange3
  dsimp only
  have hs : Builtin.Range.rangeSize x (-1) (-1) = ((x + 1).toNat : Int) := by
    unfold Builtin.Range.rangeSize
    rw [if_neg (by decide)]
    split
    · have : (x - -1 - 1) / (- -1) = x := by
        rw [show (- -1 : Int) = 1 by decide, Int.ediv_one]; omega
      rw [this]; omega
    · omega
  rw [if_pos ⟨by decide, by decide, by
    have fl : ∀ y : Int, y.natAbs ≤ 2000 → Builtin.Range.rangeFitsLong y = true := fun y hy => by
      unfold Builtin.Range.rangeFitsLong
      rw [Bool.and_eq_true, decide_eq_true_eq, decide_eq_true_eq]
      omega
    unfold Builtin.Range.small
    rw [fl x (by omega), fl (-1) (by decide), hs, fl _ (by omega), if_neg (by decide), fl (-1 + (-1 + 1)) (by decide)]
    simp, by rw [hs]; omega⟩, hs]
  simp only [Int.toNat_natCast, List.map_map]
  congr 1
  refine List.map_congr_left fun i _ => ?_
  show D.int (x + (i : Int) * -1) = D.int (x - (i : Int))
  congr 1
  omega
theorem take_rev (h : List Int) (n : Nat) (hn : h.length = n + 1) : (((List.range (n + 1)).map fun i => cf h (n - i))).reverse = h := by
  apply List.ext_getElem
  · simp [hn]
  · intro i h1 h2
    rw [List.getElem_reverse, List.getElem_map, List.getElem_range]
    simp only [List.length_map, List.length_range]
    rw [cf_get (by omega)]
    congr 1
    simp only [List.length_reverse, List.length_map, List.length_range] at h1
    omega
theorem divided_ok (K : PySem.W.Frag) {p g h : List Int} {k m : Nat} (tp : Tr p) (tg : Tr g) (hg : g ≠ []) (th : Tr h) (e : ∀ i, cf p i = M g h i) (hl : p ≠ [] → h ≠ [] ∧ p.length + 1 = g.length + h.length) (h0 : p = [] → h = []) (bp : Bd k p) (bg : Bd m g)
    (hm9 : m ≤ 9000) (hB : k + (h.length + 1) * (m + 1) ≤ 380000) (lp : p.length ≤ 400) (lg : g.length ≤ 400) : f_divided K [pt p, pt g] = .ok (pt h) := by
  refine runD_of ?_
  show b_divided K [.sh (pt p), .sh (pt g), .un, .un, .un] = _
  unfold b_divided
  rw [seq_nx (setN_ok (n := .nl []) rfl)]
  simp only [List.set_cons_zero, List.set_cons_succ, ND.sl]
  have hpos : 0 < g.length := List.length_pos_iff.mpr hg
  have hmm : m + 1 ≤ (h.length + 1) * (m + 1) := Nat.le_mul_of_pos_left _ (by omega)
  have el : ∀ l1 l2 l3 : Sl, eBin opSub (eAll opLen [(bVar 0)]) (eAll opLen [(bVar 1)]) [.sh (pt p), .sh (pt g), l1, l2, l3] = .ok (.int ((p.length : Int) - g.length)) := fun l1 l2 l3 => by
    rw [eBin_eq (d := nD p.length) (e := nD g.length) (by rw [eAll1 (d := pt p) rfl]; exact (SqD.t p).len) (by rw [eAll1 (d := pt g) rfl]; exact (SqD.t g).len), opSub_i]
  by_cases hp : p = []
  · have hh := h0 hp
    subst hp
    obtain ⟨s', e1, l1, l2, rfl⟩ := sFor_inv (it := (iAll opRange3 [(eBin opSub (eAll opLen [(bVar 0)]) (eAll opLen [(bVar 1)])), (eUn opNeg (eC (.int 1))), (eUn opNeg (eC (.int 1)))])) (g := gN 3) (b := (sSeq (sSet 4 (eBin opFdiv (eAll (f_coefficient K) [(eVar 0), (eBin opSub (eBin opAdd (bVar 3) (eAll opLen [(bVar 1)])) (eC (.int 1)))]) (eBin opIx (bVar 1) (eUn opNeg (eC (.int 1)))))) (sSeq (sSet 0 (eAll (f_added K) [(eVar 0), (eAll (f_negated K) [(eAll (f_product K) [(eBin opAdd (eBin opMulT (eAll opTup [(eC (.int 0))]) (bVar 3)) (bVar 1)), (eAll opTup [(eVar 4)])])])])) (sApp 2 (eVar 4)))))
      (s := [.sh (pt []), .sh (pt g), .ol [], .un, .un]) (down_ok (el _ _ _) (by simp; omega)) (fun j s => ∃ l1 l2, s = [.sh (pt []), .sh (pt g), .ol [], l1, l2]) ⟨_, _, rfl⟩ (by
        rintro j dd s hj ⟨l1, l2, rfl⟩
        exfalso
        have e3 : (((([] : List Int).length : Int) - g.length) + 1).toNat = 0 := by simp only [List.length_nil]; omega
        rw [e3] at hj
        simp at hj)
    rw [seq_nx e1, hh]
    refine ret_ok ?_
    rw [eAll1 (d := pl []) rfl, trimmed_ok K (SqD.l _) (by simp)]
    rfl
  · obtain ⟨hne, hlen⟩ := hl hp
    have hhpos : 0 < h.length := List.length_pos_iff.mpr hne
    obtain ⟨n, hn⟩ : ∃ n, h.length = n + 1 := ⟨h.length - 1, by omega⟩
    obtain ⟨s', e1, one, l1, l2, rfl, _⟩ := sFor_inv (it := (iAll opRange3 [(eBin opSub (eAll opLen [(bVar 0)]) (eAll opLen [(bVar 1)])), (eUn opNeg (eC (.int 1))), (eUn opNeg (eC (.int 1)))])) (g := gN 3) (b := (sSeq (sSet 4 (eBin opFdiv (eAll (f_coefficient K) [(eVar 0), (eBin opSub (eBin opAdd (bVar 3) (eAll opLen [(bVar 1)])) (eC (.int 1)))]) (eBin opIx (bVar 1) (eUn opNeg (eC (.int 1)))))) (sSeq (sSet 0 (eAll (f_added K) [(eVar 0), (eAll (f_negated K) [(eAll (f_product K) [(eBin opAdd (eBin opMulT (eAll opTup [(eC (.int 0))]) (bVar 3)) (bVar 1)), (eAll opTup [(eVar 4)])])])])) (sApp 2 (eVar 4)))))
      (s := [.sh (pt p), .sh (pt g), .ol [], .un, .un]) (down_ok (el _ _ _) (by omega))
      (fun j s => ∃ (one : List Int) (l1 l2 : Sl), s = [.sh (pt one), .sh (pt g), .ol (((List.range j).map fun i => cf h (n - i)).map D.int), l1, l2] ∧ (∀ i, cf one i = M g (h.take (n + 1 - j)) i) ∧ Bd (k + j * (m + 1)) one ∧ one.length ≤ 1000)
      ⟨p, .un, .un, rfl, fun i => by rw [e, List.take_of_length_le (by omega)], by simpa using bp, by omega⟩ (by
        rintro j dd s hj ⟨one, l1, l2, rfl, ho, bo, lo⟩
        rw [List.getElem?_map, Option.map_eq_some_iff] at hj
        obtain ⟨c, hc, rfl⟩ := hj
        rw [List.getElem?_map, Option.map_eq_some_iff] at hc
        obtain ⟨c2, hc2, rfl⟩ := hc
        obtain ⟨hj, ec⟩ := List.getElem?_eq_some_iff.mp hc2
        have hj2 : j < n + 1 := by
          have : j < (((p.length : Int) - g.length) + 1).toNat := by simpa using hj
          omega
        have : c2 = j := by rw [← ec]; simp
        subst this
        have ev_ : ((p.length : Int) - g.length) - (c2 : Int) = ((n - c2 : Nat) : Int) := by omega
        rw [ev_]
        have hbits : k + c2 * (m + 1) + m + 1 ≤ 380000 := by
          have h1 : (c2 + 1) * (m + 1) ≤ (h.length + 1) * (m + 1) := Nat.mul_le_mul_right _ (by omega)
          rw [Nat.add_mul] at h1
          omega
        have htl : (h.take (n + 1 - c2)).length ≤ (n - c2) + 1 := by rw [List.length_take]; omega
        have hcf : cf (h.take (n + 1 - c2)) (n - c2) = cf h (n - c2) := by rw [cf_take, if_pos (by omega)]
        have hnum := div_num hg tg ho htl
        rw [hcf] at hnum
        have hnew : ∀ i, cf (addP one (negP (mulP (sh (n - c2) g) [cf h (n - c2)]))) i = M g (h.take (n + 1 - (c2 + 1))) i := fun i => by
          have := div_new ho htl i
          rw [hcf] at this
          rw [this, List.take_take]
          congr 2
          omega
        have hnb : (cf h (n - c2)).natAbs < 2 ^ (k + c2 * (m + 1)) := by
          have := div_le hg tg ho htl bo
          rwa [hcf] at this
        have hbd := div_Bd (t := n - c2) bo bg hnb
        refine ⟨_, [.sh (pt (addP one (negP (mulP (sh (n - c2) g) [cf h (n - c2)])))), .sh (pt g), .ol (((List.range (c2 + 1)).map fun i => cf h (n - i)).map D.int), .sh (nD (n - c2)), .sh (.int (cf h (n - c2)))], rfl, .inl ?_, _, _, _, rfl, hnew, hbd.mono (by rw [Nat.succ_mul]; omega), ?_⟩
        · simp only [List.set_cons_zero, List.set_cons_succ]
          have e2 : eBin opSub (eBin opAdd (bVar 3) (eAll opLen [(bVar 1)])) (eC (.int 1)) [.sh (pt one), .sh (pt g), .ol (((List.range c2).map fun i => cf h (n - i)).map D.int), .sh (nD (n - c2)), l2] = .ok (nD (n - c2 + g.length - 1)) := by
            rw [eBin_eq (d := nD (n - c2 + g.length)) (e := .int 1) (by
              rw [eBin_eq (d := nD (n - c2)) (e := nD g.length) rfl (by rw [eAll1 (d := pt g) rfl]; exact (SqD.t g).len), opAdd_i]
              refine congrArg (fun z => R.ok (D.int z)) ?_
              omega) rfl, opSub_i]
            refine congrArg (fun z => R.ok (D.int z)) ?_
            omega
          have e3 : eBin opIx (bVar 1) (eUn opNeg (eC (.int 1))) [.sh (pt one), .sh (pt g), .ol (((List.range c2).map fun i => cf h (n - i)).map D.int), .sh (nD (n - c2)), l2] = .ok (.int (lastP g)) := by
            rw [eBin_eq (d := pt g) (e := .int (-1)) rfl rfl]
            exact (SqD.t g).last hg
          rw [seq_nx (set_ok (d := .int (cf h (n - c2))) (by
            rw [eBin_eq (d := .int (cf one (n - c2 + g.length - 1))) (e := .int (lastP g)) (by rw [eAll2 (d := pt one) (e := nD (n - c2 + g.length - 1)) rfl e2]; exact coefficient_ok K (SqD.t _) _) e3, opFdiv_b (b := lastP g) (tg.last_cf hg) (bg _) (by omega), hnum]))]
          simp only [List.set_cons_zero, List.set_cons_succ]
          have hs := sh_len (n - c2) g
          have hm2 := mulP_len (sh (n - c2) g) [cf h (n - c2)]
          simp only [List.length_singleton] at hm2
          have e4 : eAll (f_product K) [(eBin opAdd (eBin opMulT (eAll opTup [(eC (.int 0))]) (bVar 3)) (bVar 1)), (eAll opTup [(eVar 4)])] [.sh (pt one), .sh (pt g), .ol (((List.range c2).map fun i => cf h (n - i)).map D.int), .sh (nD (n - c2)), .sh (.int (cf h (n - c2)))] = .ok (pt (mulP (sh (n - c2) g) [cf h (n - c2)])) := by
            rw [eAll2 (d := pt (sh (n - c2) g)) (e := pt [cf h (n - c2)]) (shift_ok rfl rfl (by omega) (by omega)) rfl]
            exact product_ok K (SqD.t _) (SqD.t _) (by omega) (by simp) (Bd_sh bg) (Bd_one hnb) (by omega) (by omega)
          rw [seq_nx (set_ok (d := pt (addP one (negP (mulP (sh (n - c2) g) [cf h (n - c2)])))) (by
            rw [eAll2 (d := pt one) (e := pt (negP (mulP (sh (n - c2) g) [cf h (n - c2)]))) rfl (by rw [eAll1 e4]; exact negated_ok K (SqD.t _) (by omega))]
            exact added_ok K (SqD.t _) (SqD.t _) (by omega) (by rw [negP_len]; omega)))]
          simp only [List.set_cons_zero, List.set_cons_succ]
          rw [app_ok (ds := ((List.range c2).map fun i => cf h (n - i)).map D.int) (d := .int (cf h (n - c2))) rfl rfl (by rw [szl]; simp; omega), ints_snoc (fun i => cf h (n - i)) c2]
          rfl
        · have h1 := addP_len one (negP (mulP (sh (n - c2) g) [cf h (n - c2)]))
          have h2 := mulP_len (sh (n - c2) g) [cf h (n - c2)]
          have h3 := sh_len (n - c2) g
          rw [negP_len] at h1
          simp only [List.length_singleton] at h2
          omega)
    rw [seq_nx e1]
    refine ret_ok ?_
    have e9 : (((p.length : Int) - g.length) + 1).toNat = n + 1 := by omega
    have e8 : eUn opBack (bVar 2) [.sh (pt one), .sh (pt g), .ol (((List.range (((List.range (((p.length : Int) - g.length) + 1).toNat).map fun i : Nat => (((p.length : Int) - g.length) - (i : Int))).map D.int).length).map fun i => cf h (n - i)).map D.int), l1, l2] = .ok (pl h) := by
      simp only [List.length_map, List.length_range, e9]
      rw [eUn_eq (d := pl ((List.range (n + 1)).map fun i => cf h (n - i))) rfl]
      unfold opBack
      dsimp only
      rw [← List.map_reverse, take_rev h n hn]
    rw [eAll1 e8, trimmed_ok K (SqD.l _) (by omega), tr_id th]
end KK
set_option Elab.async false
set_option linter.all false
set_option maxRecDepth 100000
set_option maxHeartbeats 4000000
namespace KK
open PySem L2 DS PQ
abbrev qflds (t b : List Int) : List (Str × D) := [("top", pt t), ("bottom", pt b)]
abbrev quotD (K : PySem.W.Frag) (t b : List Int) : D := .ins (He.ga K "Quot") (qflds t b)
theorem put1 (d : D) : putFD "top" d [] = ([("top", d)] : List (Str × D)) := rfl
theorem put2 (d e : D) : putFD "bottom" e ([("top", d)] : List (Str × D)) = ([("top", d), ("bottom", e)] : List (Str × D)) := by
  unfold putFD
  rw [if_neg (by decide)]
  rfl
theorem init_ok (K : PySem.W.Frag) {u v : D} {p q : List Int} {k l L : Nat} (hu : TsD K u p) (hv : TsD K v q) (nq : tr q ≠ []) (bp : Bd k p) (bq : Bd k q) (lp : (tr p).length ≤ L) (lq : (tr q).length ≤ L) (lp4 : p.length ≤ 400) (lq4 : q.length ≤ 400) (hL : L ≤ 40) (hl2 : 2 * L ≤ 2 ^ l)
    (hB : (k + l + 1) * ((L + 2) * (L + 2)) + 2 * (L + 2) ≤ 17980) : ∃ t b, f_Quot_init K [u, v] = .ok (qflds t b) ∧ Quo p q t b ((k + l + 1) * (2 * L)) := by
  have hk9 : k + (k + l + 1) * (2 * L) ≤ 9000 ∧ (k + l + 1) * (2 * L) ≤ 9000 := by
    have h1 : (L + 2) * (L + 2) = L * L + 4 * L + 4 := by grind
    have h2 : (k + l + 1) * (2 * (2 * L)) ≤ (k + l + 1) * (L * L + 4 * L) := Nat.mul_le_mul_left _ (by omega)
    have h3 : (k + l + 1) * (L * L + 4 * L + 4) = (k + l + 1) * (L * L + 4 * L) + 4 * (k + l + 1) := by grind
    have h4 : (k + l + 1) * (2 * (2 * L)) = 2 * ((k + l + 1) * (2 * L)) := by grind
    rw [h1, h3] at hB
    omega
  have tp := tr_Tr p
  have tq := tr_Tr q
  have bp' : Bd k (tr p) := fun i => by rw [cf_tr]; exact bp i
  have bq' : Bd k (tr q) := fun i => by rw [cf_tr]; exact bq i
  obtain ⟨g, eg, tg, hg, hP, hlast, d1, d2, bg, lg, hcm⟩ := shared_ok K tp tq nq bp' bq' lp lq (by omega) hl2 hB
  obtain ⟨h1, t1, e1, a1, z1⟩ := quot_of d1 tg hg tp
  obtain ⟨h2, t2, e2, a2, z2⟩ := quot_of d2 tg hg tq
  have n2 := (a2 nq).1
  have hpos : 0 < g.length := List.length_pos_iff.mpr hg
  have l1 : h1.length ≤ (tr p).length := by
    by_cases z : tr p = []
    · rw [z1 z]; exact Nat.zero_le _
    · have := (a1 z).2; omega
  have l2 : h2.length ≤ (tr q).length := by have := (a2 nq).2; omega
  have mono : ∀ {n : Nat}, n ≤ L → k + n * ((k + l + 1) * (2 * L) + 1) ≤ k + (L + 1) * ((k + l + 1) * (2 * L) + 1) := fun hn => Nat.add_le_add_left (Nat.mul_le_mul_right _ (by omega)) _
  have b1' : Bd (k + (L + 1) * ((k + l + 1) * (2 * L) + 1)) h1 := (quot_Bd hg tg bg h1.length h1 _ k (Nat.le_refl _) e1 bp').mono (mono (by omega))
  have b2' : Bd (k + (L + 1) * ((k + l + 1) * (2 * L) + 1)) h2 := (quot_Bd hg tg bg h2.length h2 _ k (Nat.le_refl _) e2 bq').mono (mono (by omega))
  have Q := quo_of (N := k + (L + 1) * ((k + l + 1) * (2 * L) + 1)) hP hg tg t1 t2 n2 e1 e2 b1' b2' l1 l2 hcm
  have hlt := Q.lt
  have hll := Q.ll
  obtain ⟨QB1, QB2⟩ := Q.bits bp' bq' (l := l) (by omega)
  have QB1 := QB1.mono (Nat.mul_le_mul_left (k + l + 1) (by omega) : _ ≤ (k + l + 1) * (2 * L))
  have QB2 := QB2.mono (Nat.mul_le_mul_left (k + l + 1) (by omega) : _ ≤ (k + l + 1) * (2 * L))
  have lq0 : 0 < (tr q).length := List.length_pos_iff.mpr nq
  have hs := sgD_ne (s := h1) t2 n2
  have hsk : (sgD h1 h2).natAbs < 2 ^ k := by
    obtain ⟨w, hw⟩ : sgD h1 h2 ∣ cf (tr q) ((tr q).length - 1) := by
      rw [e2, M_sum]
      have : ∀ l : List Nat, sgD h1 h2 ∣ (l.map fun j => cf h2 j * cf g ((tr q).length - 1 - j)).sum := fun l => by
        induction l with
        | nil => exact Int.dvd_zero _
        | cons a l ih => rw [List.map_cons, List.sum_cons]; exact Int.dvd_add (Int.dvd_trans (sgD_dvd h1 h2 a).2 (Int.dvd_mul_right _ _)) ih
      exact this _
    have h0 := tq.last_cf nq
    exact Nat.lt_of_le_of_lt (Nat.le_of_dvd (Int.natAbs_pos.mpr h0) (Int.natAbs_dvd_natAbs.mpr ⟨w, hw⟩)) (bq' _)
  have b1 : Bd (k + (k + l + 1) * (2 * L)) h1 := fun i => by
    rw [divC_cf hs (fun i => (sgD_dvd h1 h2 i).1) i]
    exact mul_lt hsk (QB1 i)
  have b2 : Bd (k + (k + l + 1) * (2 * L)) h2 := fun i => by
    rw [divC_cf hs (fun i => (sgD_dvd h1 h2 i).2) i]
    exact mul_lt hsk (QB2 i)
  have Q2 : Quo p q (divC (sgD h1 h2) h1) (divC (sgD h1 h2) h2) ((k + l + 1) * (2 * L)) := by
    obtain ⟨g', d', x1, x2, x3, x4, x5, x6⟩ := Q.ex
    refine ⟨Q.tt, Q.tb, Q.nb, Q.lb, ⟨g', d', x1, x2, x3, x4, fun i => by rw [← x5, cf_tr], fun i => by rw [← x6, cf_tr]⟩, Q.co, QB1, QB2, Nat.le_trans Q.lt (tr_len p), Nat.le_trans Q.ll (tr_len q), ?_⟩
    obtain ⟨g', d', x1, x2, x3, x4, x5, U, V, c, y1, y2, y3, y4⟩ := Q.cm
    exact ⟨g', d', x1, x2, x3, fun i => by rw [← x4, cf_tr], fun i => by rw [← x5, cf_tr], U, V, c, y1, y2, y3, fun n => by rw [y4, ev_congr (cf_tr p), ev_congr (cf_tr q)]⟩
  have hm : ∀ n, n ≤ L → k + (n + 1) * ((k + l + 1) * (2 * L) + 1) ≤ 380000 := fun n hn => by
    have : (n + 1) * ((k + l + 1) * (2 * L) + 1) ≤ 41 * 9001 := Nat.mul_le_mul (by omega) (by omega)
    omega
  have ed1 := divided_ok K tp tg hg t1 e1 a1 z1 bp' bg (by omega) (hm _ (by omega)) (by omega) (by omega)
  have ed2 := divided_ok K tq tg hg t2 e2 a2 z2 bq' bg (by omega) (hm _ (by omega)) (by omega) (by omega)
  refine ⟨_, _, ?_, Q2⟩
  have main : b_Quot_init K [.oi (He.ga K "Quot") [], .bw u, .bw v, .un, .un, .un, .un, .un] = .nx [.oi (He.ga K "Quot") (qflds (divC (sgD h1 h2) h1) (divC (sgD h1 h2) h2)), .bw u, .bw v, .sh (pt h1), .sh (pt h2), .sh (pt g), .sh (.int (sgD h1 h2)), .un] := by
    unfold b_Quot_init
    rw [seq_nx (set_ok (d := pt (tr p)) (by rw [eAll1 (d := u) rfl]; exact trimmed_okT K hu (by omega)))]
    simp only [List.set_cons_zero, List.set_cons_succ]
    rw [seq_nx (set_ok (d := pt (tr q)) (by rw [eAll1 (d := v) rfl]; exact trimmed_okT K hv (by omega)))]
    simp only [List.set_cons_zero, List.set_cons_succ]
    rw [seq_nx (if_f (by
      unfold tVal
      rw [eBin_eq (d := pt (tr q)) (e := pt []) rfl (eTup0 _), opEq_tups, decide_eq_false nq]
      rfl))]
    rw [seq_nx (set_ok (d := pt g) (by rw [eAll2 (d := pt (tr p)) (e := pt (tr q)) rfl rfl]; exact eg))]
    simp only [List.set_cons_zero, List.set_cons_succ]
    rw [seq_nx (set_ok (d := pt h1) (by rw [eAll2 (d := pt (tr p)) (e := pt g) rfl rfl]; exact ed1))]
    simp only [List.set_cons_zero, List.set_cons_succ]
    rw [seq_nx (set_ok (d := pt h2) (by rw [eAll2 (d := pt (tr q)) (e := pt g) rfl rfl]; exact ed2))]
    simp only [List.set_cons_zero, List.set_cons_succ]
    rw [seq_nx (set_ok (d := .int (Int.gcd (cont h1) (cont h2))) (by
      rw [eAll2 (d := .int (cont h1)) (e := .int (cont h2)) (by rw [eAll1 (d := pt h1) rfl]; exact content_ok K (SqD.t _) b1 (by omega)) (by rw [eAll1 (d := pt h2) rfl]; exact content_ok K (SqD.t _) b2 (by omega))]
      exact common_ok K (cont_lt b1) (cont_lt b2) (by omega)))]
    simp only [List.set_cons_zero, List.set_cons_succ]
    have hl : tVal (eBin opLt (eBin opIx (bVar 4) (eUn opNeg (eC (.int 1)))) (eC (.int 0))) [.oi (He.ga K "Quot") [], .bw u, .bw v, .sh (pt h1), .sh (pt h2), .sh (pt g), .sh (.int (Int.gcd (cont h1) (cont h2))), .un] = .ok (decide (lastP h2 < 0)) := by
      unfold tVal
      rw [eBin_eq (d := .int (lastP h2)) (e := .int 0) (by rw [eBin_eq (d := pt h2) (e := .int (-1)) rfl rfl]; exact (SqD.t h2).last n2) rfl]
      rfl
    have es : sIf (tVal (eBin opLt (eBin opIx (bVar 4) (eUn opNeg (eC (.int 1)))) (eC (.int 0)))) (sSet 6 (eUn opNeg (bVar 6))) .nx [.oi (He.ga K "Quot") [], .bw u, .bw v, .sh (pt h1), .sh (pt h2), .sh (pt g), .sh (.int (Int.gcd (cont h1) (cont h2))), .un] =
        .nx [.oi (He.ga K "Quot") [], .bw u, .bw v, .sh (pt h1), .sh (pt h2), .sh (pt g), .sh (.int (sgD h1 h2)), .un] := by
      unfold sgD
      by_cases hn : lastP h2 < 0
      · rw [if_t (by rw [hl, decide_eq_true hn]), if_pos hn]
        exact set_ok (d := .int (- (Int.gcd (cont h1) (cont h2) : Int))) rfl
      · rw [if_f (by rw [hl, decide_eq_false hn]), if_neg hn]
    rw [seq_nx es]
    have hsb : (sgD h1 h2).natAbs < 2 ^ (k + (k + l + 1) * (2 * L)) := by
      have h3 : (sgD h1 h2).natAbs ≤ (cf h2 (h2.length - 1)).natAbs := Nat.le_of_dvd (Int.natAbs_pos.mpr (t2.last_cf n2)) (Int.natAbs_dvd_natAbs.mpr (sgD_dvd h1 h2 _).2)
      exact Nat.lt_of_le_of_lt h3 (b2 _)
    rw [seq_nx (fld_ok (fs := []) (d := pt (divC (sgD h1 h2) h1)) (divC_ok (d := pt h1) rfl (SqD.t _) (by omega) fun a => ⟨_, rfl, by
      simp only [wipeS, blkS, List.map_cons, List.map_nil, bwS, List.set_cons_zero, List.set_cons_succ]
      rw [eBin_eq (d := .int a) (e := .int (sgD h1 h2)) rfl rfl]
      exact opFdiv_b hs hsb (by omega)⟩) rfl (by decide))]
    simp only [List.set_cons_zero, List.set_cons_succ]
    rw [put1]
    rw [fld_ok (fs := [("top", pt (divC (sgD h1 h2) h1))]) (d := pt (divC (sgD h1 h2) h2)) (divC_ok (d := pt h2) rfl (SqD.t _) (by omega) fun a => ⟨_, rfl, by
      simp only [wipeS, blkS, List.map_cons, List.map_nil, bwS, List.set_cons_zero, List.set_cons_succ]
      rw [eBin_eq (d := .int a) (e := .int (sgD h1 h2)) rfl rfl]
      exact opFdiv_b hs hsb (by omega)⟩) rfl (by simp)]
    simp only [List.set_cons_zero, List.set_cons_succ]
    rw [put2]
  unfold f_Quot_init runIB
  show retI _ (b_Quot_init K [.oi (He.ga K "Quot") [], .bw u, .bw v, .un, .un, .un, .un, .un]) = _
  rw [main]
  unfold retI
  simp
theorem fld_top (K : PySem.W.Frag) (t b : List Int) : opFld [He.ga K "Quot"] "top" (quotD K t b) = .ok (pt t) := by
  unfold opFld quotD
  dsimp only
  rw [if_pos (List.mem_singleton.mpr rfl)]
  rfl
theorem fld_bottom (K : PySem.W.Frag) (t b : List Int) : opFld [He.ga K "Quot"] "bottom" (quotD K t b) = .ok (pt b) := by
  unfold opFld quotD
  dsimp only
  rw [if_pos (List.mem_singleton.mpr rfl)]
  rfl
theorem is_quot (K : PySem.W.Frag) (t b : List Int) (m : Str) (h1 : (m == ("top" : Str)) = false) (h2 : (m == ("bottom" : Str)) = false) : isIns (He.ga K "Quot") m (quotD K t b) = true := by
  unfold isIns quotD qflds
  simp [List.lookup, h1, h2]
end KK
set_option Elab.async false
set_option linter.all false
set_option maxRecDepth 100000
set_option maxHeartbeats 4000000
namespace KK
open PySem L2 DS PQ
theorem cell_ok (K : PySem.W.Frag) (ns : List Int) (k : Nat) : ∃ c : Int, f__law_cell K [.scr ns, nD k] = .ok (.int c) := by
  by_cases h : k < ns.length
  · refine ⟨ns[k], runD_of ?_⟩
    show b__law_cell K [.sh (.scr ns), .sh (nD k)] = _
    unfold b__law_cell
    rw [seq_rt (d := .int ns[k])]
    rw [if_t (by
      simp only [tVal, eBin, eAll, evalL, bVar, List.getElem?_cons_zero, List.getElem?_cons_succ, R.bind_ok, opLen, opLt_i, asB]
      exact congrArg R.ok (decide_eq_true (by omega)))]
    refine ret_ok ?_
    simp only [eBin, bVar, List.getElem?_cons_zero, List.getElem?_cons_succ, R.bind_ok]
    unfold opIx
    dsimp only
    rw [atI_nat h]
  · refine ⟨0, runD_of ?_⟩
    show b__law_cell K [.sh (.scr ns), .sh (nD k)] = _
    unfold b__law_cell
    rw [seq_nx (if_f (by
      simp only [tVal, eBin, eAll, evalL, bVar, List.getElem?_cons_zero, List.getElem?_cons_succ, R.bind_ok, opLen, opLt_i, asB]
      exact congrArg R.ok (decide_eq_false (by omega))))]
    exact ret_ok rfl
theorem opNe_lists (l m : List Int) : opNe (pl l) (pl m) = .ok (.bl (!decide (l = m))) := by simp only [opNe, pl, eqD_ints]
theorem tr_take_last {p : List Int} {m : Nat} (hm : m + 1 ≤ p.length) : p.take (m + 1) = p.take m ++ [cf p m] := by rw [List.take_succ_eq_append_getElem (by omega), cf_get (by omega)]
theorem ltrim_ok (K : PySem.W.Frag) {d : D} {p : List Int} (hd : SqD d p) : f__law_trim K [d] = .ok (pl (tr p)) := by
  refine runD_of ?_
  show b__law_trim K [.sh d, .un] = _
  unfold b__law_trim
  rw [seq_nx (setN_ok (n := .nl (p.map D.int)) (by
    unfold nAll
    simp only [evalL, bVar, List.getElem?_cons_zero, R.bind_ok]
    rcases hd with rfl | rfl <;> rfl))]
  simp only [List.set_cons_zero, List.set_cons_succ, ND.sl]
  obtain ⟨s', e, rfl⟩ := sWhile_inv (t := (tAndF (tVal (eBin opNe (bVar 1) (eN (nAll nLst [])))) (tVal (eBin opEq (eBin opIx (bVar 1) (eUn opNeg (eC (.int 1)))) (eC (.int 0)))))) (b := sPop 1)
    (fun m s => s = [.sh d, .ol ((p.take m).map D.int)] ∧ m ≤ p.length ∧ tr (p.take m) = tr p) (fun s => s = [.sh d, .ol ((tr p).map D.int)]) (by
      rintro m s ⟨rfl, hm, ht⟩
      have e1 : tVal (eBin opNe (bVar 1) (eN (nAll nLst []))) [.sh d, .ol ((p.take m).map D.int)] = .ok (!decide (p.take m = [])) := by
        unfold tVal
        rw [eBin_eq (d := pl (p.take m)) (e := pl []) rfl rfl, opNe_lists]
        rfl
      cases m with
      | zero =>
        left
        refine ⟨by unfold tAndF; rw [e1]; rfl, ?_⟩
        rw [← ht]
        rfl
      | succ m =>
        have hne : p.take (m + 1) ≠ [] := fun z => by
          have := congrArg List.length z
          simp only [List.length_take, List.length_nil] at this
          omega
        have hlast : lastP (p.take (m + 1)) = cf p m := by
          unfold lastP
          rw [cf_take, if_pos (by rw [List.length_take]; omega)]
          congr 1
          rw [List.length_take]; omega
        have e2 : tVal (eBin opEq (eBin opIx (bVar 1) (eUn opNeg (eC (.int 1)))) (eC (.int 0))) [.sh d, .ol ((p.take (m + 1)).map D.int)] = .ok (decide (cf p m = 0)) := by
          unfold tVal
          rw [eBin_eq (d := .int (cf p m)) (e := .int 0) (by
            rw [eBin_eq (d := pl (p.take (m + 1))) (e := .int (-1)) rfl rfl, (SqD.l _).last hne, hlast]) rfl, opEq_int]
          rfl
        have e3 : tAndF (tVal (eBin opNe (bVar 1) (eN (nAll nLst [])))) (tVal (eBin opEq (eBin opIx (bVar 1) (eUn opNeg (eC (.int 1)))) (eC (.int 0)))) [.sh d, .ol ((p.take (m + 1)).map D.int)] = .ok (decide (cf p m = 0)) := by
          unfold tAndF
          rw [e1, decide_eq_false hne]
          exact e2
        by_cases h0 : cf p m = 0
        · right
          refine ⟨by rw [e3, decide_eq_true h0], [.sh d, .ol ((p.take m).map D.int)], m, Nat.lt_succ_self m, .inl ?_, rfl, by omega, ?_⟩
          · unfold sPop
            simp only [List.getElem?_cons_succ, List.getElem?_cons_zero]
            rw [if_neg (by simpa using hne)]
            simp only [List.set_cons_zero, List.set_cons_succ]
            rw [← List.map_dropLast, tr_take_last hm, List.dropLast_concat]
          · rw [← ht, tr_take_last hm, h0, tr_snoc0]
        · left
          refine ⟨by rw [e3, decide_eq_false h0], ?_⟩
          have : p.take (m + 1) = tr p := by
            rw [← ht]
            refine (tr_id fun h2 => ?_).symm
            simp only [tr_take_last hm]
            rw [List.getLast_append_of_ne_nil (by simp) (by simp)]
            exact h0
          rw [this])
    p.length _ ⟨by rw [List.take_length], Nat.le_refl _, by rw [List.take_length]⟩
  rw [seq_nx e]
  exact ret_ok rfl
theorem lat_ok (K : PySem.W.Frag) {d : D} {p : List Int} (hd : SqD d p) (i : Nat) : f__law_at_power K [d, nD i] = .ok (.int (cf p i)) := by
  refine runD_of ?_
  show b__law_at_power K [.sh d, .sh (nD i)] = _
  unfold b__law_at_power
  have hl : tVal (eBin opLt (bVar 1) (eAll opLen [(bVar 0)])) [.sh d, .sh (nD i)] = .ok (decide (i < p.length)) := by
    unfold tVal
    rw [eBin_eq (d := nD i) (e := nD p.length) rfl (by rw [eAll1 (d := d) rfl]; exact hd.len), opLt_i]
    exact congrArg R.ok (decide_eq_decide.mpr (by omega))
  by_cases h : i < p.length
  · rw [seq_rt (d := .int (cf p i))]
    rw [if_t (by rw [hl, decide_eq_true h])]
    refine ret_ok ?_
    rw [eBin_eq (d := d) (e := nD i) rfl rfl]
    exact hd.ix h
  · rw [seq_nx (if_f (by rw [hl, decide_eq_false h])), cf_out (by omega)]
    exact ret_ok rfl
theorem ltimes_ok (K : PySem.W.Frag) {d e : D} {p q : List Int} {k m : Nat} (hd : SqD d p) (he : SqD e q) (hp : p.length ≤ 100000) (hq : q.length ≤ 100000) (bp : Bd k p) (bq : Bd m q) (hk : k ≤ 400000) (hm : m ≤ 400000) : f__law_times K [d, e] = .ok (pl (mulP p q)) := by
  refine runD_of ?_
  show b__law_times K [.sh d, .sh e, .un, .un, .un] = _
  unfold b__law_times
  rw [seq_nx (setN_ok (n := .nl []) rfl)]
  simp only [List.set_cons_zero, List.set_cons_succ, ND.sl]
  obtain ⟨l1, l2, e1⟩ := product_loop (fc := f__law_at_power K) (lat_ok K he) hd he hp hq bp bq hk hm
  rw [seq_nx e1]
  refine ret_ok ?_
  rw [eAll1 (d := pl ((List.range (p.length + q.length)).map fun k => sumAt q p k)) rfl]
  exact ltrim_ok K (SqD.l _)
/-! ### drawn polynomials -/
theorem nat_fm {r : Nat} : (D.int (r : Int)) = nD r := rfl
theorem cat_ok {fa fb : EF} {s : SD} {a b : List Nat} (h1 : fa s = .ok (nL a)) (h2 : fb s = .ok (nL b)) (hl : a.length + b.length ≤ 100000) : eN (nBin opCatN fa fb) s = .ok (nL (a ++ b)) := by
  unfold eN nBin
  rw [h1, R.bind_ok, h2, R.bind_ok]
  unfold opCatN
  dsimp only
  rw [if_pos (by simp only [List.length_map]; rw [szl]; omega)]
  simp only [R.bind_ok, ND.d]
  rw [nL, List.map_append]
theorem rep_ok {fa fb : EF} {s : SD} {a n : Nat} (h1 : fa s = .ok (nL [a])) (h2 : fb s = .ok (nD n)) (hl : n ≤ 100000) : eN (nBin opRepN fa fb) s = .ok (nL (List.replicate n a)) := by
  unfold eN nBin
  rw [h1, R.bind_ok, h2, R.bind_ok]
  unfold opRepN
  dsimp only
  rw [if_pos ⟨by omega, by simp only [List.length_map, List.length_singleton]; rw [szl]; omega⟩]
  simp only [R.bind_ok, ND.d, Int.toNat_natCast]
  congr 1
  have : ∀ n : Nat, (List.replicate n [nD a]).flatten = (List.replicate n a).map nD := fun n => by
    induction n with
    | zero => rfl
    | succ n ih => rw [List.replicate_succ, List.flatten_cons, ih]; rfl
  exact congrArg D.lst (this n)
theorem slice_nat {e : EF} {s : SD} {fl fh : SD → R (Option Int)} {p : List Nat} {i j : Nat} (he : e s = .ok (nL p)) (h1 : fl s = .ok (some (i : Int))) (h2 : fh s = .ok (some (j : Int))) (hj : j ≤ p.length) (hij : i ≤ j) : eSlice e fl fh s = .ok (nL ((p.drop i).take (j - i))) := by
  unfold eSlice
  rw [he, R.bind_ok, h1, R.bind_ok, h2, R.bind_ok]
  unfold opSlice
  dsimp only
  unfold cutD
  rw [HT.sIx_nat, HT.sIx_nat, List.length_map, Nat.min_eq_left (Nat.le_trans hij hj), Nat.min_eq_left hj, ← List.map_drop, ← List.map_take]
theorem drawn_ok (K : PySem.W.Frag) {rs : List Nat} {m : Nat} (hl : rs.length = m + 1) (hm : m ≤ 1000) (h0 : rs[0]! < m) (h : ∀ r ∈ rs, r < 9) : ∃ p, f__law_drawn_poly K [nL rs] = .ok (pl p) ∧ Bd 3 p ∧ p.length ≤ m ∧ ∀ c ∈ p, -4 ≤ c ∧ c ≤ 4 := by
  obtain ⟨r0, r, rfl⟩ : ∃ r0 r, rs = r0 :: r := by
    cases rs with
    | nil => simp at hl
    | cons r0 r => exact ⟨r0, r, rfl⟩
  have hr0 : r0 < m := h0
  have hr : r.length = m := by simpa using hl
  have e1 : eSlice (bVar 0) (fun s => ((eC (.int 1)) s).bind asInt) (fun s => ((eBin opAdd (eC (.int 2)) (eBin opIx (bVar 0) (eC (.int 0)))) s).bind asInt) [.sh (nL (r0 :: r)), .un] = .ok (nL (r.take (1 + r0))) := by
    have := slice_nat (e := bVar 0) (s := [.sh (nL (r0 :: r)), .un]) (p := r0 :: r) (i := 1) (j := 2 + r0) (fl := fun s => ((eC (.int 1)) s).bind asInt) (fh := fun s => ((eBin opAdd (eC (.int 2)) (eBin opIx (bVar 0) (eC (.int 0)))) s).bind asInt) rfl rfl (by
      show (eBin opAdd (eC (.int 2)) (eBin opIx (bVar 0) (eC (.int 0))) [.sh (nL (r0 :: r)), .un]).bind asInt = _
      rw [eBin_eq (d := .int 2) (e := nD r0) rfl (by
        rw [eBin_eq (d := nL (r0 :: r)) (e := nD 0) rfl rfl]
        exact opIx_nl (l := r0 :: r) (i := 0) (by simp)), opAdd_i]
      show R.ok (some ((2 : Int) + (r0 : Int))) = _
      congr 2) (by simp; omega) (by omega)
    rw [this]
    have e2 : 2 + r0 - 1 = 1 + r0 := by omega
    rw [e2]
    rfl
  have mem : ∀ c ∈ ((r.take (1 + r0)).map fun r : Nat => (r : Int) - 4), -4 ≤ c ∧ c ≤ 4 := fun c hc => by
    obtain ⟨x, hx, rfl⟩ := List.mem_map.mp hc
    have := h x (List.mem_cons_of_mem _ (List.mem_of_mem_take hx))
    omega
  refine ⟨(r.take (1 + r0)).map fun r : Nat => (r : Int) - 4, runD_of ?_, Bd.of fun c hc => ?_, ?_, mem⟩
  · show b__law_drawn_poly K [.sh (nL (r0 :: r)), .un] = _
    unfold b__law_drawn_poly
    refine ret_ok ?_
    unfold eN
    rw [nLc_all (r.take (1 + r0)) nD (fun r => .int ((r : Int) - 4)) (by unfold iSeq; rw [e1]; rfl) (by simp; omega) fun i hi => ⟨_, rfl, rfl, by
      simp only [wipeS, blkS, List.map_cons, List.map_nil, bwS, List.set_cons_zero, List.set_cons_succ]
      rw [eBin_eq (d := nD i) (e := .int 4) rfl rfl, opSub_i]⟩]
    simp only [R.bind_ok, ND.d]
    rw [ints_all]
  · have := mem c hc
    show c.natAbs < 8
    omega
  · rw [List.length_map, List.length_take]
    omega
theorem some_ok (K : PySem.W.Frag) {rs : List Nat} {m : Nat} (hl : rs.length = m + 1) (hm : m ≤ 6) (hm2 : 2 ≤ m) (h0 : rs[0]! < m) (h : ∀ r ∈ rs, r < 9) : ∃ p, f__law_some_poly K [nL rs] = .ok (pl p) ∧ Bd 3 p ∧ p.length ≤ m ∧ Tr p ∧ p ≠ [] ∧ ∀ i, (cf p i).natAbs ≤ max 4 m := by
  obtain ⟨p, e, b, l, m'⟩ := drawn_ok K hl (by omega) h0 h
  have et : eAll (f__law_trim K) [(eAll (f__law_drawn_poly K) [(eVar 0)])] [.sh (nL rs), .un] = .ok (pl (tr p)) := by
    rw [eAll1 (d := pl p) (by rw [eAll1 (d := nL rs) rfl]; exact e)]
    exact ltrim_ok K (SqD.l _)
  have ht : tVal (eBin opEq (bVar 1) (eN (nAll nLst []))) [.sh (nL rs), .sh (pl (tr p))] = .ok (decide (tr p = [])) := by
    unfold tVal
    rw [eBin_eq (d := pl (tr p)) (e := pl []) rfl rfl, opEq_ints]
    rfl
  by_cases hz : tr p = []
  · refine ⟨[1 + (rs[0]! : Int), 1], runD_of ?_, Bd.of fun c hc => ?_, by simp; omega, fun _ => by simp, by simp, fun i => ?_⟩
    · show b__law_some_poly K [.sh (nL rs), .un] = _
      unfold b__law_some_poly
      rw [seq_nx (set_ok et)]
      simp only [List.set_cons_zero, List.set_cons_succ]
      rw [seq_rt (d := pl [1 + (rs[0]! : Int), 1])]
      rw [if_t (by rw [ht, decide_eq_true hz])]
      refine ret_ok ?_
      have e0 : eBin opIx (bVar 0) (eC (.int 0)) [.sh (nL rs), .sh (pl (tr p))] = .ok (nD rs[0]!) := by
        rw [eBin_eq (d := nL rs) (e := nD 0) rfl rfl, opIx_nl (by omega : 0 < rs.length)]
        rw [getElem!_pos rs 0 (by omega)]
      unfold eN nAll
      simp only [evalL, R.bind_ok, eC]
      rw [eBin_eq (d := .int 1) (e := nD rs[0]!) rfl e0]
      rfl
    · simp only [List.mem_cons, List.not_mem_nil, or_false] at hc
      show c.natAbs < 8
      rcases hc with rfl | rfl <;> omega
    · by_cases hi : cf [1 + (rs[0]! : Int), 1] i = 0
      · rw [hi]; simp
      · have := cf_mem hi
        simp only [List.mem_cons, List.not_mem_nil, or_false] at this
        rcases this with h1 | h1 <;> (rw [h1]; omega)
  · refine ⟨tr p, runD_of ?_, fun i => by rw [cf_tr]; exact b i, Nat.le_trans (tr_len p) l, tr_Tr p, hz, fun i => ?_⟩
    · show b__law_some_poly K [.sh (nL rs), .un] = _
      unfold b__law_some_poly
      rw [seq_nx (set_ok et)]
      simp only [List.set_cons_zero, List.set_cons_succ]
      rw [seq_nx (if_f (by rw [ht, decide_eq_false hz]))]
      exact ret_ok rfl
    · by_cases hi : cf (tr p) i = 0
      · rw [hi]; simp
      · have := m' _ (tr_mem (cf_mem hi))
        omega
end KK
set_option Elab.async false
set_option linter.all false
set_option maxRecDepth 100000
set_option maxHeartbeats 4000000
namespace KK
open PySem L2 DS PQ
theorem M_le {q : List Int} {A B : Nat} (hq : ∀ i, (cf q i).natAbs ≤ B) : ∀ (p : List Int) (i : Nat), (∀ i, (cf p i).natAbs ≤ A) → (M q p i).natAbs ≤ p.length * (A * B)
  | [], i, _ => by simp [M]
  | c :: p, i, hp => by
    have hc : c.natAbs ≤ A := by simpa using hp 0
    have hm : ∀ j, (c * cf q j).natAbs ≤ A * B := fun j => by rw [Int.natAbs_mul]; exact Nat.mul_le_mul hc (hq j)
    rw [List.length_cons, Nat.add_mul, Nat.one_mul]
    cases i with
    | zero => have := hm 0; simp only [M]; omega
    | succ j =>
      have ih := M_le hq p j fun i => by simpa using hp (i + 1)
      have := hm (j + 1)
      simp only [M]
      omega
theorem mulP_le {p q : List Int} {A B L : Nat} (hp : ∀ i, (cf p i).natAbs ≤ A) (hq : ∀ i, (cf q i).natAbs ≤ B) (hl : p.length ≤ L) (i : Nat) : (cf (mulP p q) i).natAbs ≤ L * (A * B) := by
  rw [cf_mulP]
  exact Nat.le_trans (M_le hq p i hp) (Nat.mul_le_mul_right _ hl)
theorem one_le {c : Int} {A : Nat} (h : c.natAbs ≤ A) (i : Nat) : (cf [c] i).natAbs ≤ A := by
  cases i with
  | zero => simpa using h
  | succ i => simp
theorem Bd_le {p : List Int} {A k : Nat} (h : ∀ i, (cf p i).natAbs ≤ A) (hk : A < 2 ^ k) : Bd k p := fun i => Nat.lt_of_le_of_lt (h i) hk
theorem mulP_len2 (p q : List Int) : (mulP p q).length ≤ q.length + p.length - 1 := by
  have e : tr (mulP p q) = mulP p q := tr_id (tr_Tr _)
  rw [← e]
  refine cf_ge_of fun i hi => ?_
  rw [cf_mulP, M_out _ _ _ (by omega)]
theorem mulP_ne {p q : List Int} (tp : Tr p) (hp : p ≠ []) (tq : Tr q) (hq : q ≠ []) : mulP p q ≠ [] := fun z => by
  have hpos : 0 < p.length := List.length_pos_iff.mpr hp
  have h1 := div_top (g := q) (h := p) (t := p.length - 1) hq (by omega)
  rw [← cf_mulP, z] at h1
  have h2 : (0 : Int) = lastP q * cf p (p.length - 1) := by rw [← h1]; simp
  rcases Int.mul_eq_zero.mp h2.symm with y | y
  · exact tq.last_cf hq y
  · exact tp.last_cf hp y
theorem catI_ok {fa fb : EF} {s : SD} {a b : List Int} (h1 : fa s = .ok (pl a)) (h2 : fb s = .ok (pl b)) (hl : a.length + b.length ≤ 100000) : eN (nBin opCatN fa fb) s = .ok (pl (a ++ b)) := by
  unfold eN nBin
  rw [h1, R.bind_ok, h2, R.bind_ok]
  unfold opCatN
  dsimp only
  rw [if_pos (by simp only [List.length_map]; rw [szl]; omega)]
  simp only [R.bind_ok, ND.d]
  rw [pl, List.map_append]
theorem opNe_bl (a b : Bool) : opNe (.bl a) (.bl b) = .ok (.bl (!(a == b))) := by simp only [opNe, eqD_bl]
theorem opEq_bl (a b : Bool) : opEq (.bl a) (.bl b) = .ok (.bl (a == b)) := by simp only [opEq, eqD_bl]
theorem mul_eq_iff {p q r s : List Int} : mulP p q = mulP r s ↔ ∀ n, evP n p * evP n q = evP n r * evP n s := by
  have e : ∀ (u v : List Int) (n : Int), evP n (mulP u v) = evP n v * evP n u := fun u v n => ev_M (g := v) (h := u) (cf_mulP u v)
  constructor
  · intro h n
    have := congrArg (evP n) h
    rw [e, e] at this
    rw [Int.mul_comm, this, Int.mul_comm]
  · intro h
    refine Tr_ext (tr_Tr _) (tr_Tr _) (ev_ext fun n => ?_)
    rw [e, e, Int.mul_comm, h n, Int.mul_comm]
theorem zip_ints : ∀ (a b : List Int), zipL (a.map D.int) (b.map D.int) = (a.zip b).map fun x => .tup [.int x.1, .int x.2]
  | [], b => by cases b <;> rfl
  | a :: as, [] => rfl
  | a :: as, b :: bs => by
    simp only [List.map_cons, zipL, List.zip_cons_cons, zip_ints as bs]
end KK
set_option Elab.async false
set_option linter.all false
set_option maxRecDepth 100000
set_option maxHeartbeats 4000000
namespace KK
open PySem L2 DS PQ
theorem ltrim_l (K : PySem.W.Frag) (p : List Int) : f__law_trim K [.lst (p.map D.int)] = .ok (pl (tr p)) := ltrim_ok K (SqD.l p)
theorem lgcd1_ok (K : PySem.W.Frag) {a b : Int} {k : Nat} (ha : a.natAbs < 2 ^ k) (hb : b.natAbs < 2 ^ k) (hk : k ≤ 9000) : f__law_gcd K [.int a, .int b] = .ok (.int (Int.gcd a b)) := runD_of (gcdB_ok ha hb hk)
theorem lgcdof_ok (K : PySem.W.Frag) {d : D} {p : List Int} {k : Nat} (hd : SqD d p) (hb : Bd k p) (hk : k ≤ 9000) : f__law_gcd_of K [d] = .ok (.int (cont p)) := by
  refine runD_of ?_
  show b__law_gcd_of K [.sh d, .un, .un] = _
  unfold b__law_gcd_of
  rw [seq_nx (set_ok (d := .int 0) rfl)]
  simp only [List.set_cons_zero, List.set_cons_succ]
  obtain ⟨s', e, x, l, rfl, hx, _⟩ := sFor_inv (it := (iSeq (eVar 0))) (g := (gN 2)) (b := (sSet 1 (eAll (f__law_gcd K) [(eVar 1), (eVar 2)]))) (ds := p.map D.int) (s := [.sh d, .sh (.int 0), .un]) (by
      unfold iSeq
      simp only [eVar, List.getElem?_cons_zero, R.bind_ok]
      exact hd.seq)
    (fun j s => ∃ (x : Int) (l : Sl), s = [.sh d, .sh (.int x), l] ∧ x = contF 0 (p.take j) ∧ x.natAbs < 2 ^ k) ⟨0, .un, rfl, rfl, Nat.pow_pos (by decide)⟩ (by
      rintro j dd s hj ⟨x, l, rfl, hx, hb1⟩
      rw [List.getElem?_map, Option.map_eq_some_iff] at hj
      obtain ⟨c, hc, rfl⟩ := hj
      obtain ⟨hj, ec⟩ := List.getElem?_eq_some_iff.mp hc
      have hcb : c.natAbs < 2 ^ k := by rw [← ec]; exact hb.mem (List.getElem_mem hj)
      refine ⟨[.sh d, .sh (.int x), .sh (.int c)], [.sh d, .sh (.int (Int.gcd x c)), .sh (.int c)], rfl, .inl ?_, _, _, rfl, ?_, ?_⟩
      · rw [set_ok (d := .int (Int.gcd x c)) (by rw [eAll2 (d := .int x) (e := .int c) rfl rfl]; exact lgcd1_ok K hb1 hcb hk)]
        rfl
      · rw [List.take_succ_eq_append_getElem hj, ec, hx]
        unfold contF
        rw [List.foldl_append]
        rfl
      · rw [Int.natAbs_natCast]
        by_cases z : c = 0
        · subst z
          rw [Int.gcd_zero_right]
          exact hb1
        · exact Nat.lt_of_le_of_lt (Int.gcd_le_natAbs_right _ z) hcb)
  rw [seq_nx e]
  refine ret_ok ?_
  show R.ok (D.int x) = _
  rw [hx, List.length_map, List.take_length]
  rfl
/-- a list made of p by a whole number -/
def thin (p : List Int) : List Int := if cont p = 0 then [] else divC (cont p) p
theorem thinned_ok (K : PySem.W.Frag) {p : List Int} {k : Nat} (hb : Bd k p) (hk : k ≤ 9000) (hl : p.length ≤ 100000) : f__law_thinned K [pl p] = .ok (pl (thin p)) := by
  refine runD_of ?_
  show b__law_thinned K [.sh (pl p), .un, .un] = _
  unfold b__law_thinned
  rw [seq_nx (set_ok (d := .int (cont p)) (by rw [eAll1 (d := pl p) rfl]; exact lgcdof_ok K (SqD.l p) hb hk))]
  simp only [List.set_cons_zero, List.set_cons_succ]
  have ht : tVal (eBin opEq (bVar 1) (eC (.int 0))) [.sh (pl p), .sh (.int (cont p)), .un] = .ok (decide (cont p = 0)) := by
    unfold tVal
    rw [eBin_eq (d := .int (cont p)) (e := .int 0) rfl rfl, opEq_int]
    rfl
  unfold thin
  by_cases hz : cont p = 0
  · rw [seq_rt (d := pl []) (by rw [if_t (by rw [ht, decide_eq_true hz])]; rfl), if_pos hz]
  · rw [seq_nx (if_f (by rw [ht, decide_eq_false hz])), if_neg hz]
    refine ret_ok ?_
    unfold eN
    rw [nLc_all p D.int (fun a => .int (a.fdiv (cont p))) rfl (by omega) fun i hi => ⟨_, rfl, rfl, by
      simp only [wipeS, blkS, List.map_cons, List.map_nil, bwS, List.set_cons_zero, List.set_cons_succ]
      rw [eBin_eq (d := .int i) (e := .int (cont p)) rfl rfl]
      exact opFdiv_b hz (cont_lt hb) hk⟩]
    simp only [R.bind_ok, ND.d]
    rw [ints_all]
    rfl
theorem plus_ok (K : PySem.W.Frag) {p q : List Int} (hp : p.length ≤ 100000) (hq : q.length ≤ 100000) : f__law_plus K [pl p, pl q] = .ok (pl (addP p q)) := by
  refine runD_of ?_
  show b__law_plus K [.sh (pl p), .sh (pl q), .un] = _
  unfold b__law_plus
  refine ret_ok ?_
  have e1 : eAll opMax [(eN (nAll nLst [(eAll opLen [(bVar 0)]), (eAll opLen [(bVar 1)])]))] [.sh (pl p), .sh (pl q), .un] = .ok (nD (max p.length q.length)) := by
    rw [eAll1 (d := .lst [nD p.length, nD q.length]) (by
      unfold eN nAll
      simp only [evalL, eAll, bVar, List.getElem?_cons_zero, List.getElem?_cons_succ, R.bind_ok, (SqD.l p).len, (SqD.l q).len]
      rfl)]
    exact maxI_two _ _
  have e2 : eN (nLc (iAll opRange1 [(eAll opMax [(eN (nAll nLst [(eAll opLen [(bVar 0)]), (eAll opLen [(bVar 1)])]))])]) (gN 2) tYesF (eBin opAdd (eAll (f__law_at_power K) [(eVar 0), (eVar 2)]) (eAll (f__law_at_power K) [(eVar 1), (eVar 2)])) [2]) [.sh (pl p), .sh (pl q), .un] = .ok (pl ((List.range (max p.length q.length)).map fun i => cf p i + cf q i)) := by
    rw [x_eN]
    rw [nLc_all (List.range (max p.length q.length)) nD (fun i => .int (cf p i + cf q i)) (iRange1 e1 (by omega)) (by simp; omega) fun i hi => ⟨_, rfl, rfl, by
      simp only [wipeS, blkS, List.map_cons, List.map_nil, bwS, List.set_cons_zero, List.set_cons_succ]
      rw [eBin_eq (d := .int (cf p i)) (e := .int (cf q i)) (by rw [eAll2 (d := pl p) (e := nD i) rfl rfl]; exact lat_ok K (SqD.l p) i) (by rw [eAll2 (d := pl q) (e := nD i) rfl rfl]; exact lat_ok K (SqD.l q) i)]
      rfl⟩]
    simp only [R.bind_ok, ND.d]
    rw [ints_all]
  rw [eAll1 e2]
  exact ltrim_ok K (SqD.l _)
theorem isint_ok (K : PySem.W.Frag) (x : Int) : f__law_is_int K [.int x] = .ok (.bl true) := rfl
theorem isrow_ok (K : PySem.W.Frag) {p : List Int} (hl : p.length ≤ 100000) : f__law_is_row K [pt p] = .ok (.bl true) := by
  refine runD_of ?_
  show b__law_is_row K [.sh (pt p), .un] = _
  unfold b__law_is_row
  have e1 : nLc (iSeq (eVar 0)) (gN 1) (tNotF (tTru (eAll (f__law_is_int K) [(eVar 1)]))) (eVar 1) [1] [.sh (pt p), .un] = .ok (.nl ((p.filter fun _ => false).map D.int)) := by
    refine nLc_fil p D.int (fun _ => false) D.int rfl (by omega) fun x hx => ⟨_, rfl, ?_, fun h => by cases h⟩
    simp only [wipeS, blkS, List.map_cons, List.map_nil, bwS, List.set_cons_zero, List.set_cons_succ]
    unfold tNotF tTru
    rw [eAll1 (d := .int x) rfl, isint_ok]
    rfl
  have e2 : p.filter (fun _ => false) = [] := by simp
  rw [e2] at e1
  have e3 : opIsi (isiT K tb_tuple) (pt p) = .ok (.bl true) := rfl
  simp (disch := first | omega | (simp only [List.length_cons, List.length_nil, List.length_map, List.length_append, List.length_replicate]; omega) | decide) only [x_seq, x_nx, x_rt, x_rn, x_ex, x_bk, x_ct, x_ok, x_okN, x_okL, x_exS, x_t, x_f, x_rt', x_rf', x_set, x_ret, x_expr, x_setN, x_if, x_par, x_bin, x_un, x_all, x_nil, x_cons, x_nAll, x_nBin, x_eN, x_tVal, x_tTru, x_tNot, x_tAnd, x_tOr, x_eIf, x_eAnd, x_eOr, x_eNot, x_asB, x_truB, x_eC, eVar, bVar, R.bind_ok, R.bind_ex, R.bind_no, x_dl, x_dk, x_sl, x_sk, fz, frz, gN, gTupD, gCons', gNil', List.getElem?_cons_zero, List.getElem?_cons_succ, List.set_cons_zero, List.set_cons_succ, List.map_cons, List.map_nil, List.cons_append, List.nil_append, List.length_nil, List.length_cons, List.length_map, if_true, if_false, Option.bind_some, Bool.false_eq_true, Bool.not_true, Bool.not_false, Nat.reduceAdd, Nat.zero_le, opInt_i, opEq_int, opNe_int, opAdd_i, opLt_i, opLe_i, opGt_i, opGe_i, opSub_i, opLen_l, decide_true, decide_false, x_nLst, x_opTup, x_app, x_aS, x_clear, x_cS, x_try, x_tnx, x_trt, x_slice, x_asInt, x_opLst, x_raiseN, x_raiseT, x_raise, e1, e3]
  have := opEq_ints [] []
  simp only [List.map_nil] at this
  rw [this]
  rfl
end KK
namespace KK
open PySem L2 DS PQ
theorem len_smul {A a : List Int} {c : Int} (tA : Tr A) (ta : Tr a) (e : ∀ i, cf A i = c * cf a i) (hc : c ≠ 0) : A.length = a.length := by
  have h1 : A.length ≤ a.length := by
    rw [← tr_id tA]
    exact cf_ge_of fun i hi => by rw [e, cf_out hi, Int.mul_zero]
  have h2 : a.length ≤ A.length := by
    rw [← tr_id ta]
    exact cf_ge_of fun i hi => by
      have := e i
      rw [cf_out hi] at this
      exact (Int.mul_eq_zero.mp this.symm).resolve_left hc
  omega
theorem thin_step {T p : List Int} {k : Int} (tT : Tr T) (tp : Tr p) (e : ∀ i, cf T i = k * cf p i) (hk : k ≠ 0) : ∃ m : Int, m.natAbs = 1 ∧ (∀ i, cf (thin T) i = m * cf (primP p) i) ∧ Tr (thin T) := by
  by_cases hp : p = []
  · have hT : T = [] := tT.nil_of fun i => by rw [e, hp]; simp
    subst hp; subst hT
    exact ⟨1, rfl, fun i => by simp [thin, primP, cont, contF], fun h => absurd rfl h⟩
  · have hl := tp.last_cf hp
    have hT : cf T (p.length - 1) ≠ 0 := fun z => by
      rw [e] at z
      exact (Int.mul_eq_zero.mp z).elim hk hl
    have hc := cont_pos hT
    have ht : thin T = divC (cont T) T := by unfold thin; rw [if_neg (by omega)]
    have h1 := divC_cf (d := cont T) (p := T) (by omega) (cont_cf T)
    have hP := ((primP_good tp).ok (fun z => hp (by
      have := primP_len p
      rw [z] at this
      exact List.eq_nil_of_length_eq_zero this.symm))).1
    obtain ⟨m, hm, em⟩ := prim_div hP (δ := cont T) (c := k * sgC p) (R := thin T) (by omega) (fun z => (Int.mul_eq_zero.mp z).elim hk (sgC_ne tp hp)) fun i => by
      rw [ht, ← h1, e, primP_cf tp hp, Int.mul_assoc]
    refine ⟨m, ?_, em, by rw [ht]; exact divC_Tr (by omega) (cont_cf T) tT⟩
    obtain ⟨w, hw⟩ : m * cont T ∣ cont T := cont_great fun i => by
      rw [h1 i, ← ht, em i]
      exact ⟨cf (primP p) i, by grind⟩
    have h2 : cont T * (m * w) = cont T * 1 := by grind
    have h3 := Int.eq_of_mul_eq_mul_left (by omega) h2
    exact Nat.dvd_one.mp (Int.natAbs_dvd_natAbs.mpr (⟨w, h3.symm⟩ : m ∣ 1))
theorem thin_Bd {T : List Int} {k : Nat} (h : Bd k T) : Bd k (thin T) := by
  unfold thin
  by_cases hz : cont T = 0
  · rw [if_pos hz]; intro i; rw [cf_nil]; exact Nat.pow_pos (by decide)
  · rw [if_neg hz]; exact fun i => Nat.lt_of_le_of_lt (divC_le hz (cont_cf T) i) (h i)
theorem zip_cf {p q : List Int} (hl : p.length = q.length) (f : Int → Int → Int) (h0 : f 0 0 = 0) (i : Nat) : cf ((p.zip q).map fun x => f x.1 x.2) i = f (cf p i) (cf q i) := by
  by_cases h : i < p.length
  · rw [cf_get (by simp; omega), cf_get h, cf_get (by omega)]
    simp
  · rw [cf_out (by simp; omega), cf_out (by omega), cf_out (by omega), h0]
theorem lrest_ok (K : PySem.W.Frag) {A B a b : List Int} {c d : Int} {m : Nat} (hA : ∀ i, cf A i = c * cf a i) (hc : c ≠ 0) (hB : ∀ i, cf B i = d * cf b i) (hd : d ≠ 0) (tA : Tr A) (tB : Tr B) (ga : Good a) (gb : Good b) (hb : b ≠ []) (bA : Bd m A) (bB : Bd m B)
    (hbits : (a.length - b.length + 2) * (m + 1) ≤ 8990) (la : a.length ≤ 500) (lb : b.length ≤ 500) :
    ∃ s one One c', f__law_rest K [pl A, pl B] = .ok (pl One) ∧ Re a b m s one ∧ Steps b s a one ∧ one.length < b.length ∧ (∀ i, cf One i = c' * cf one i) ∧ c' ≠ 0 ∧ Tr One ∧ (One = A ∧ one = a ∨ c'.natAbs = 1) ∧ Bd (m + s * (m + 1)) One := by
  have lA := len_smul tA ga.tr hA hc
  have lB := len_smul tB gb.tr hB hd
  have ba : Bd m a := Bd.of_mul hc hA bA
  have bb : Bd m b := Bd.of_mul hd hB bB
  have hbl : 0 < b.length := List.length_pos_iff.mpr hb
  have hBne : B ≠ [] := fun z => by rw [z] at lB; simp at lB; omega
  suffices h : ∃ s one One c', b__law_rest K [.sh (pl A), .sh (pl B), .un, .un, .un, .un] = .rt (pl One) ∧ Re a b m s one ∧ Steps b s a one ∧ one.length < b.length ∧ (∀ i, cf One i = c' * cf one i) ∧ c' ≠ 0 ∧ Tr One ∧ (One = A ∧ one = a ∨ c'.natAbs = 1) ∧ Bd (m + s * (m + 1)) One by
    obtain ⟨s, one, One, c', h1, h2⟩ := h
    exact ⟨s, one, One, c', runD_of h1, h2⟩
  unfold b__law_rest
  obtain ⟨s', e, one, One, c', s, l2, l3, l4, l5, rfl, hr, hst, hO, hc', tO, hu, bO, hl⟩ := sWhile_inv (t := (tVal (eBin opGe (eAll opLen [(bVar 0)]) (eAll opLen [(bVar 1)])))) (b := (sSeq (sSet 2 (eBin opIx (bVar 0) (eUn opNeg (eC (.int 1))))) (sSeq (sSet 3 (eN (nBin opCatN (eN (nBin opRepN (eN (nAll nLst [(eC (.int 0))])) (eBin opSub (eAll opLen [(bVar 0)]) (eAll opLen [(bVar 1)])))) (bVar 1)))) (sSeq (sSet 0 (eAll (f__law_trim K) [(eN (nLc (iAll opZip [(eVar 0), (eVar 3)]) (gTupD 2 (gCons' (gN 4) (gCons' (gN 5) gNil'))) tYesF (eBin opSub (eBin opMul (eBin opIx (bVar 1) (eUn opNeg (eC (.int 1)))) (bVar 4)) (eBin opMul (bVar 2) (bVar 5))) [4, 5]))])) (sSet 0 (eAll (f__law_thinned K) [(eVar 0)]))))))
    (fun w s => ∃ (one One : List Int) (c' : Int) (n : Nat) (l2 l3 l4 l5 : Sl), s = [.sh (pl One), .sh (pl B), l2, l3, l4, l5] ∧ w = one.length ∧ Re a b m n one ∧ Steps b n a one ∧ (∀ i, cf One i = c' * cf one i) ∧ c' ≠ 0 ∧ Tr One ∧ (One = A ∧ one = a ∨ c'.natAbs = 1) ∧ Bd (m + n * (m + 1)) One)
    (fun s => ∃ (one One : List Int) (c' : Int) (n : Nat) (l2 l3 l4 l5 : Sl), s = [.sh (pl One), .sh (pl B), l2, l3, l4, l5] ∧ Re a b m n one ∧ Steps b n a one ∧ (∀ i, cf One i = c' * cf one i) ∧ c' ≠ 0 ∧ Tr One ∧ (One = A ∧ one = a ∨ c'.natAbs = 1) ∧ Bd (m + n * (m + 1)) One ∧ one.length < b.length) (by
      rintro w s ⟨one, One, c', n, l2, l3, l4, l5, rfl, rfl, hr, hst, hO, hc', tO, hu, bO⟩
      have lO := len_smul tO hr.go.tr hO hc'
      have ht : tVal (eBin opGe (eAll opLen [(bVar 0)]) (eAll opLen [(bVar 1)])) [.sh (pl One), .sh (pl B), l2, l3, l4, l5] = .ok (decide (b.length ≤ one.length)) := by
        unfold tVal
        rw [eBin_eq (d := nD One.length) (e := nD B.length) (by rw [eAll1 (d := pl One) rfl]; exact (SqD.l One).len) (by rw [eAll1 (d := pl B) rfl]; exact (SqD.l B).len), opGe_i]
        exact congrArg R.ok (decide_eq_decide.mpr (by omega))
      by_cases hle : b.length ≤ one.length
      · right
        have hone : one ≠ [] := fun z => by rw [z, List.length_nil] at hle; omega
        have hOne : One ≠ [] := fun z => by rw [z, List.length_nil] at lO; omega
        have hls := hr.ls
        have hn1 : n + 2 ≤ a.length - b.length + 2 := by omega
        have hbits2 : m + n * (m + 1) + m + 1 ≤ 8990 := by
          have h1 : (n + 2) * (m + 1) ≤ 8990 := Nat.le_trans (Nat.mul_le_mul_right (m + 1) hn1) hbits
          have h2 : (n + 2) * (m + 1) = n * (m + 1) + 2 * (m + 1) := Nat.add_mul _ _ _
          omega
        -- the new list
        have hlow : (sh (One.length - B.length) B).length = One.length := by rw [sh_len]; omega
        obtain ⟨T0, hT0⟩ : ∃ T0, T0 = (One.zip (sh (One.length - B.length) B)).map fun x => lastP B * x.1 - lastP One * x.2 := ⟨_, rfl⟩
        have cT0 : ∀ i, cf T0 i = lastP B * cf One i - lastP One * cf (sh (One.length - B.length) B) i := fun i => by
          rw [hT0]
          exact zip_cf hlow.symm (fun x y => lastP B * x - lastP One * y) (by simp) i
        have lPB : lastP B = d * lastP b := by unfold lastP; rw [lB, hB]
        have lPO : lastP One = c' * lastP one := by unfold lastP; rw [lO, hO]
        have cT : ∀ i, cf (tr T0) i = (d * c') * cf (stepP one b) i := fun i => by
          rw [cf_tr, cT0, cf_stepP, lPB, lPO, hO, cf_sh, cf_sh, lO, lB]
          split
          · grind
          · rw [hB]; grind
        have bT : Bd (m + n * (m + 1) + m + 1) (tr T0) := fun i => by
          rw [cf_tr, cT0]
          have h1 : (lastP B * cf One i).natAbs < 2 ^ (m + (m + n * (m + 1))) := mul_lt (bB _) (bO i)
          have h2 : (lastP One * cf (sh (One.length - B.length) B) i).natAbs < 2 ^ (m + n * (m + 1) + m) := mul_lt (bO _) (Bd_sh bB i)
          rw [Nat.add_comm m (m + n * (m + 1))] at h1
          rw [Nat.pow_succ]
          omega
        obtain ⟨k, hk, ek, tk⟩ := thin_step (tr_Tr T0) (stepP_Tr one b) cT (fun z => (Int.mul_eq_zero.mp z).elim hd hc')
        have hT0l : T0.length = One.length := by rw [hT0, List.length_map, List.length_zip, hlow, Nat.min_self]
        refine ⟨by rw [ht, decide_eq_true hle], [.sh (pl (thin (tr T0))), .sh (pl B), .sh (.int (lastP One)), .sh (pl (sh (One.length - B.length) B)), l4, l5], (primP (stepP one b)).length, ?_, .inl ?_, _, _, k, n + 1, _, _, _, _, rfl, rfl, hr.step gb hb bb hle, hst.snoc hle hone hr.go, ek, fun z => (by rw [z] at hk; cases hk), tk, .inr hk, ?_⟩
        · rw [primP_len]
          exact stepP_len hb hle
        · rw [seq_nx (set_ok (d := .int (lastP One)) (by rw [eBin_eq (d := pl One) (e := .int (-1)) rfl rfl]; exact (SqD.l One).last hOne))]
          simp only [List.set_cons_zero, List.set_cons_succ]
          have e1 : eBin opSub (eAll opLen [(bVar 0)]) (eAll opLen [(bVar 1)]) [.sh (pl One), .sh (pl B), .sh (.int (lastP One)), l3, l4, l5] = .ok (nD (One.length - B.length)) := by
            rw [eBin_eq (d := nD One.length) (e := nD B.length) (by rw [eAll1 (d := pl One) rfl]; exact (SqD.l One).len) (by rw [eAll1 (d := pl B) rfl]; exact (SqD.l B).len), opSub_i]
            exact congrArg (fun z => R.ok (D.int z)) (by omega)
          have e2 : eN (nBin opRepN (eN (nAll nLst [(eC (.int 0))])) (eBin opSub (eAll opLen [(bVar 0)]) (eAll opLen [(bVar 1)]))) [.sh (pl One), .sh (pl B), .sh (.int (lastP One)), l3, l4, l5] = .ok (pl (List.replicate (One.length - B.length) 0)) := by
            have := rep_ok (fa := eN (nAll nLst [(eC (.int 0))])) (a := 0) (n := One.length - B.length) (s := [.sh (pl One), .sh (pl B), .sh (.int (lastP One)), l3, l4, l5]) rfl e1 (by omega)
            rw [this]
            simp [nL, pl, nD]
          rw [seq_nx (set_ok (d := pl (sh (One.length - B.length) B)) (catI_ok e2 rfl (by simp; omega)))]
          simp only [List.set_cons_zero, List.set_cons_succ]
          have e3 : eN (nLc (iAll opZip [(eVar 0), (eVar 3)]) (gTupD 2 (gCons' (gN 4) (gCons' (gN 5) gNil'))) tYesF (eBin opSub (eBin opMul (eBin opIx (bVar 1) (eUn opNeg (eC (.int 1)))) (bVar 4)) (eBin opMul (bVar 2) (bVar 5))) [4, 5]) [.sh (pl One), .sh (pl B), .sh (.int (lastP One)), .sh (pl (sh (One.length - B.length) B)), l4, l5] = .ok (pl T0) := by
            rw [x_eN]
            rw [nLc_all (One.zip (sh (One.length - B.length) B)) (fun x => .tup [.int x.1, .int x.2]) (fun x => .int (lastP B * x.1 - lastP One * x.2)) (by
              unfold iAll
              simp only [evalL, eVar, List.getElem?_cons_zero, List.getElem?_cons_succ, R.bind_ok]
              exact congrArg R.ok (zip_ints _ _)) (by rw [List.length_zip]; omega) fun x hx => ⟨_, rfl, rfl, by
              simp only [wipeS, blkS, List.map_cons, List.map_nil, bwS, List.set_cons_zero, List.set_cons_succ]
              have m1 : x.1 ∈ One := (List.of_mem_zip hx).1
              have m2 : x.2 ∈ sh (One.length - B.length) B := (List.of_mem_zip hx).2
              rw [eBin_eq (d := .int (lastP B * x.1)) (e := .int (lastP One * x.2)) (by
                rw [eBin_eq (d := .int (lastP B)) (e := .int x.1) (by rw [eBin_eq (d := pl B) (e := .int (-1)) rfl rfl]; exact (SqD.l B).last hBne) rfl]
                exact opMul_b (bB _) (bO.mem m1) (by omega) (by omega)) (by
                rw [eBin_eq (d := .int (lastP One)) (e := .int x.2) rfl rfl]
                exact opMul_b (bO _) ((Bd_sh bB).mem m2) (by omega) (by omega)), opSub_i]⟩]
            simp only [R.bind_ok, ND.d]
            rw [ints_all, hT0]
          rw [seq_nx (set_ok (d := pl (tr T0)) (by rw [eAll1 e3]; exact ltrim_ok K (SqD.l _)))]
          simp only [List.set_cons_zero, List.set_cons_succ]
          have hlt := tr_len T0
          rw [set_ok (d := pl (thin (tr T0))) (by rw [eAll1 (d := pl (tr T0)) rfl]; exact thinned_ok K bT (by omega) (by omega))]
          rfl
        · have := thin_Bd bT
          rw [Nat.succ_mul]
          rw [Nat.add_assoc] at this
          rw [← Nat.add_assoc]
          rw [← Nat.add_assoc] at this
          exact this
      · left
        exact ⟨by rw [ht, decide_eq_false hle], one, One, c', n, l2, l3, l4, l5, rfl, hr, hst, hO, hc', tO, hu, bO, by omega⟩)
    a.length _ ⟨a, A, c, 0, .un, .un, .un, .un, rfl, rfl, Re.init ga ba, .nil a, hA, hc, tA, .inl ⟨rfl, rfl⟩, by simpa using bA⟩
  rw [seq_nx e]
  exact ⟨s, one, One, c', ret_ok rfl, hr, hst, hl, hO, hc', tO, hu, bO⟩
end KK
set_option Elab.async false
set_option linter.all false
set_option maxRecDepth 100000
set_option maxHeartbeats 4000000
namespace KK
open PySem L2 DS PQ
theorem isi_i (K : PySem.W.Frag) (x : Int) : opIsi (isiT K tb_int) (.int x) = .ok (.bl true) := rfl
theorem isi_bi (K : PySem.W.Frag) (x : Int) : opIsi (isiT K tb_bool) (.int x) = .ok (.bl false) := rfl
theorem isi_q (K : PySem.W.Frag) (t b : List Int) : opIsi (isiT K tb_Quot) (quotD K t b) = .ok (.bl true) := by
  unfold opIsi
  have e : (isiT K tb_Quot).lookup (tagD (quotD K t b)) = some true := by
    simp [isiT, tb_Quot, TagN.t, tagD, List.lookup]
    rfl
  rw [e]
theorem isi_iq (K : PySem.W.Frag) (t b : List Int) : opIsi (isiT K tb_int) (quotD K t b) = .ok (.bl false) := by
  unfold opIsi
  have e : (isiT K tb_int).lookup (tagD (quotD K t b)) = some false := by
    simp [isiT, tb_int, TagN.t, tagD, List.lookup]
    rfl
  rw [e]
theorem eqQ_ok (K : PySem.W.Frag) (t b t2 b2 : List Int) : f_Quot_eq K [quotD K t b, quotD K t2 b2] = .ok (.bl (decide (t = t2 ∧ b = b2))) := by
  refine runD_of ?_
  show b_Quot_eq K [.sh (quotD K t b), .sh (quotD K t2 b2)] = _
  unfold b_Quot_eq
  rw [seq_nx (if_f (by
    unfold tAndF tTru
    rw [eUn_eq (d := quotD K t2 b2) rfl, isi_iq]
    rfl))]
  refine ret_ok ?_
  unfold eAnd
  rw [eUn_eq (d := quotD K t2 b2) rfl, isi_q]
  simp only [R.bind_ok, asB, if_true]
  rw [eBin_eq (d := pt t) (e := pt t2) (by rw [eUn_eq (d := quotD K t b) rfl]; exact fld_top K t b) (by rw [eUn_eq (d := quotD K t2 b2) rfl]; exact fld_top K t2 b2), opEq_tups]
  by_cases h1 : t = t2
  · simp only [decide_eq_true h1, R.bind_ok, asB, if_true]
    rw [eBin_eq (d := pt b) (e := pt b2) (by rw [eUn_eq (d := quotD K t b) rfl]; exact fld_bottom K t b) (by rw [eUn_eq (d := quotD K t2 b2) rfl]; exact fld_bottom K t2 b2), opEq_tups]
    congr 2
    simp [h1]
  · simp only [decide_eq_false h1, R.bind_ok, asB, Bool.false_eq_true, if_false]
    congr 2
    simp [h1]
theorem opEqO_ok {K : PySem.W.Frag} {t b : List Int} {d : D} {r : R D} (h : f_Quot_eq K [quotD K t b, d] = r) (ht : tagD d ∈ kTs K kt_Quot) : opEqO (He.ga K "Quot") (kTs K kt_Quot) (f_Quot_eq K) (quotD K t b) d = r := by
  unfold opEqO quotD
  dsimp only
  rw [if_pos ⟨rfl, ht⟩]
  exact h
theorem opNeO_ok {K : PySem.W.Frag} {t b : List Int} {d : D} {x : Bool} (h : f_Quot_eq K [quotD K t b, d] = .ok (.bl x)) (ht : tagD d ∈ kTs K kt_Quot) : opNeO (He.ga K "Quot") (kTs K kt_Quot) (f_Quot_eq K) (quotD K t b) d = .ok (.bl (!x)) := by
  unfold opNeO
  rw [opEqO_ok h ht]
  rfl
theorem eq_iff {a b c d t1 b1 t2 b2 : List Int} {N1 N2 : Nat} (Q1 : Quo a b t1 b1 N1) (Q2 : Quo c d t2 b2 N2) (nb : tr b ≠ []) (nd : tr d ≠ []) : (t1 = t2 ∧ b1 = b2) ↔ mulP a d = mulP c b := by
  rw [mul_eq_iff]
  have x1 := Q1.cross
  have x2 := Q2.cross
  constructor
  · rintro ⟨rfl, rfl⟩ n
    have hz := cancel (g := b1) (f := addP (mulP a d) (negP (mulP c b))) (Q1.tb.last_cf Q1.nb) (fun n => by
      rw [ev_add (cf_addP _ _), ev_neg, ev_M (g := d) (h := a) (cf_mulP a d), ev_M (g := b) (h := c) (cf_mulP c b)]
      have k1 := x1 n
      have k2 := x2 n
      have k3 : evP n b1 * (evP n d * evP n a) = evP n b1 * (evP n b * evP n c) := by
        calc evP n b1 * (evP n d * evP n a) = evP n d * (evP n a * evP n b1) := by simp only [Int.mul_assoc, Int.mul_comm, Int.mul_left_comm]
          _ = evP n d * (evP n t1 * evP n b) := by rw [k1]
          _ = evP n b * (evP n t1 * evP n d) := by simp only [Int.mul_assoc, Int.mul_comm, Int.mul_left_comm]
          _ = evP n b * (evP n c * evP n b1) := by rw [k2]
          _ = evP n b1 * (evP n b * evP n c) := by simp only [Int.mul_assoc, Int.mul_comm, Int.mul_left_comm]
      rw [Int.mul_add, Int.mul_neg, k3]
      omega)
    have h1 := ev_zero (n := n) hz
    rw [ev_add (cf_addP _ _), ev_neg, ev_M (g := d) (h := a) (cf_mulP a d), ev_M (g := b) (h := c) (cf_mulP c b)] at h1
    rw [Int.mul_comm (evP n a), Int.mul_comm (evP n c)]
    omega
  · intro h
    refine Q1.unique Q2 fun n => ?_
    have hb : cf b ((tr b).length - 1) ≠ 0 := by have := (tr_Tr b).last_cf nb; rwa [cf_tr] at this
    have hd : cf d ((tr d).length - 1) ≠ 0 := by have := (tr_Tr d).last_cf nd; rwa [cf_tr] at this
    have hz := cancel (g := b) (f := addP (mulP t1 b2) (negP (mulP t2 b1))) hb (fun n => by
      have hz2 := cancel (g := d) (f := mulP b (addP (mulP t1 b2) (negP (mulP t2 b1)))) hd (fun n => by
        rw [ev_M (g := addP (mulP t1 b2) (negP (mulP t2 b1))) (h := b) (cf_mulP b _), ev_add (cf_addP _ _), ev_neg, ev_M (g := b2) (h := t1) (cf_mulP t1 b2), ev_M (g := b1) (h := t2) (cf_mulP t2 b1)]
        have k1 := x1 n
        have k2 := x2 n
        have k3 := h n
        have k4 : evP n d * (evP n b2 * evP n t1 * evP n b) = evP n d * (evP n b1 * evP n t2 * evP n b) := by
          calc evP n d * (evP n b2 * evP n t1 * evP n b) = evP n d * evP n b2 * (evP n t1 * evP n b) := by simp only [Int.mul_assoc, Int.mul_comm, Int.mul_left_comm]
            _ = evP n d * evP n b2 * (evP n a * evP n b1) := by rw [k1]
            _ = evP n b2 * evP n b1 * (evP n a * evP n d) := by simp only [Int.mul_assoc, Int.mul_comm, Int.mul_left_comm]
            _ = evP n b2 * evP n b1 * (evP n c * evP n b) := by rw [k3]
            _ = evP n b1 * evP n b * (evP n c * evP n b2) := by simp only [Int.mul_assoc, Int.mul_comm, Int.mul_left_comm]
            _ = evP n b1 * evP n b * (evP n t2 * evP n d) := by rw [k2]
            _ = evP n d * (evP n b1 * evP n t2 * evP n b) := by simp only [Int.mul_assoc, Int.mul_comm, Int.mul_left_comm]
        rw [Int.add_mul, Int.neg_mul, Int.mul_add, Int.mul_neg, k4]
        omega)
      have := ev_zero (n := n) hz2
      rw [ev_M (g := addP (mulP t1 b2) (negP (mulP t2 b1))) (h := b) (cf_mulP b _)] at this
      rw [Int.mul_comm]
      exact this)
    have h1 := ev_zero (n := n) hz
    rw [ev_add (cf_addP _ _), ev_neg, ev_M (g := b2) (h := t1) (cf_mulP t1 b2), ev_M (g := b1) (h := t2) (cf_mulP t2 b1)] at h1
    rw [Int.mul_comm (evP n t1), Int.mul_comm (evP n t2)]
    omega
end KK
set_option Elab.async false
set_option linter.all false
set_option maxRecDepth 100000
set_option maxHeartbeats 4000000
namespace KK
open PySem L2 DS PQ
def Ax (k : Nat) (A a : List Int) : Prop := (∀ i, (cf A i).natAbs = (cf a i).natAbs) ∨ Bd k A
theorem Ax.bd {k m : Nat} {A a : List Int} (h : Ax k A a) (hm : Bd m a) (hk : k ≤ m) : Bd m A := by
  rcases h with h | h
  · exact fun i => by rw [h]; exact hm i
  · exact h.mono hk
theorem lapart_ok (K : PySem.W.Frag) {t b : List Int} {k l L : Nat} (tt : Tr t) (tb : Tr b) (nb : b ≠ []) (hz : Bez t b) (bt : Bd k t) (bb : Bd k b) (lt : t.length ≤ L) (lb : b.length ≤ L) (hL : L ≤ 500) (hl2 : 2 * L ≤ 2 ^ l)
    (hBB : (k + l + 1) * ((L + 2) * (L + 2)) + 2 * (L + 2) ≤ 17980) : f__law_is_apart K [pl t, pl b] = .ok (.bl true) := by
  refine runD_of ?_
  show b__law_is_apart K [.sh (pl t), .sh (pl b)] = _
  unfold b__law_is_apart
  obtain ⟨s', e, A, a, c, rfl, hA, hc, tA, hS⟩ := sWhile_inv (t := (tVal (eBin opNe (bVar 1) (eN (nAll nLst []))))) (b := (sPar 0 1 (eVar 1) (eAll (f__law_rest K) [(eVar 0), (eVar 1)])))
    (fun w s => ∃ (A B a b' : List Int) (c d : Int), s = [.sh (pl A), .sh (pl B)] ∧ w = b'.length ∧ (∀ i, cf A i = c * cf a i) ∧ c ≠ 0 ∧ Tr A ∧ Ax k A a ∧ (∀ i, cf B i = d * cf b' i) ∧ d ≠ 0 ∧ Tr B ∧ Ax k B b' ∧ Sh2 t b k (k + l + 1) L a b')
    (fun s => ∃ (A a : List Int) (c : Int), s = [.sh (pl A), .sh (pl [])] ∧ (∀ i, cf A i = c * cf a i) ∧ c ≠ 0 ∧ Tr A ∧ Sh2 t b k (k + l + 1) L a []) (by
      rintro w s ⟨A, B, a, b', c, d, rfl, rfl, hA, hc, tA, xA, hB, hd, tB, xB, hS⟩
      have lB := len_smul tB hS.gb.tr hB hd
      have ht : tVal (eBin opNe (bVar 1) (eN (nAll nLst []))) [.sh (pl A), .sh (pl B)] = .ok (!decide (B = [])) := by
        unfold tVal
        rw [eBin_eq (d := pl B) (e := pl []) rfl rfl, opNe_lists]
        rfl
      by_cases h0 : B = []
      · left
        have h1 : b' = [] := List.eq_nil_of_length_eq_zero (by rw [← lB, h0]; rfl)
        refine ⟨by rw [ht, decide_eq_true h0]; rfl, A, a, c, by rw [h0], hA, hc, tA, ?_⟩
        rw [← h1]; exact hS
      · right
        have h1 : b' ≠ [] := fun z => h0 (List.eq_nil_of_length_eq_zero (by rw [lB, z]; rfl))
        have hla := hS.la
        have hlb := hS.lb
        obtain ⟨m', ba, bb', hm'⟩ := hS.bd
        have hm : ∃ m, k ≤ m ∧ m' ≤ m ∧ (m ≤ k ∨ (b'.length < a.length ∧ m ≤ (k + l + 1) * (2 * L + 2 - 2 * a.length))) := by
          rcases hm' with h | ⟨h2, h3⟩
          · exact ⟨k, Nat.le_refl _, h, .inl (Nat.le_refl _)⟩
          · have : (k + l + 1) * 1 ≤ (k + l + 1) * (2 * L + 2 - 2 * a.length) := Nat.mul_le_mul_left _ (by omega)
            exact ⟨(k + l + 1) * (2 * L + 2 - 2 * a.length), by omega, h3, .inr ⟨h2, Nat.le_refl _⟩⟩
        obtain ⟨m, hkm, hmm, hm⟩ := hm
        have hroom := Sh2.room hla (by omega : k < k + l + 1) hBB h1 hm (p0 := t) (q0 := b)
        obtain ⟨s, one, One, c', e1, r1, st1, hl1, hO, hc', tO, hu, _⟩ := lrest_ok K hA hc hB hd tA tB hS.ga hS.gb h1 (xA.bd (ba.mono hmm) hkm) (xB.bd (bb'.mono hmm) hkm) hroom (by omega) (by omega)
        refine ⟨by rw [ht, decide_eq_false h0]; rfl, [.sh (pl B), .sh (pl One)], one.length, hl1, .inl (par_ok (d := pl B) (d2 := pl One) rfl (by rw [eAll2 (d := pl A) (e := pl B) rfl rfl]; exact e1)), B, One, b', one, d, c', rfl, rfl, hB, hd, tB, xB, hO, hc', tO, ?_, Sh2.done tt tb bt bb lt lb hl2 hS h1 r1 st1 hl1⟩
        rcases hu with ⟨rfl, rfl⟩ | hu
        · exact xA
        · exact .inl fun i => by rw [hO, Int.natAbs_mul, hu, Nat.one_mul])
    (primP b).length _ ⟨t, b, primP t, primP b, if t = [] then 1 else sgC t, sgC b, rfl, rfl, fun i => by
        split
        · rename_i h; rw [h]; simp [primP]
        · rename_i h; exact primP_cf tt h i, by
        split
        · decide
        · rename_i h; exact sgC_ne tt h, tt, .inr bt, primP_cf tb nb, sgC_ne tb nb, tb, .inr bb, Sh2.init tt tb nb bt bb lt lb⟩
  rw [seq_nx e]
  refine ret_ok ?_
  rw [eBin_eq (d := nD A.length) (e := .int 1) (by rw [eAll1 (d := pl A) rfl]; exact (SqD.l A).len) rfl, opEq_int]
  have hg : a ≠ [] := hS.ne.resolve_right fun z => z rfl
  have lA := len_smul tA hS.ga.tr hA hc
  obtain ⟨d1, d2⟩ := hS.dv a (hS.ga.ok hg).1 (Dv.self a) (Dv.nil fun i => by simp)
  have : a.length = 1 := by
    obtain ⟨h1, e1⟩ := d1
    obtain ⟨h2, e2⟩ := d2
    obtain ⟨U, V, c0, ⟨u, hu⟩, ⟨v, hv⟩, hc0, ez⟩ := hz
    have hap : 0 < a.length := List.length_pos_iff.mpr hg
    obtain ⟨f, hf⟩ : ∃ f, f = addP (mkM u h1) (mkM v h2) := ⟨_, rfl⟩
    have ef : ∀ i, cf [c0] i = M a (tr f) i := fun i => by
      rw [← cf_mulP]
      refine ev_ext (fun n => ?_) i
      rw [ev_M (g := a) (h := tr f) (cf_mulP (tr f) a), ev_tr, hf, ev_add (cf_addP _ _), ev_mkM, ev_mkM]
      have k1 := ez n
      have k2 := ev_M (n := n) e1
      have k3 := ev_M (n := n) e2
      rw [← hu, ← hv, k2, k3] at k1
      have k4 : evP n [c0] = c0 := by simp [evP]
      rw [k4, k1]
      grind
    have hfne : tr f ≠ [] := fun z => by
      have := ef 0
      rw [z] at this
      exact hc0 (by simpa [M] using this)
    have hfp : 0 < (tr f).length := List.length_pos_iff.mpr hfne
    apply Classical.byContradiction
    intro hne
    have h7 := ef ((tr f).length - 1 + a.length - 1)
    rw [div_top hg (by omega), cf_out (by simp; omega)] at h7
    rcases Int.mul_eq_zero.mp h7.symm with z | z
    · exact hS.ga.tr.last_cf hg z
    · exact (tr_Tr f).last_cf hfne z
  have e1 : ((A.length : Int) = 1) := by omega
  rw [decide_eq_true e1]
theorem quo_zero {top bot b : List Int} {N : Nat} (Q : Quo top bot [] b N) : tr top = [] ∧ b = [1] := by
  constructor
  · refine (tr_Tr top).nil_of fun i => ?_
    obtain ⟨g, d, _, _, _, _, e1, _⟩ := Q.ex
    rw [cf_tr, e1]
    simp [M]
  · obtain ⟨U, V, c0, _, ⟨v, hv⟩, hc0, ez⟩ := Q.bez
    have ef : ∀ i, cf [c0] i = M b (tr v) i := fun i => by
      rw [← cf_mulP]
      refine ev_ext (fun n => ?_) i
      rw [ev_M (g := b) (h := tr v) (cf_mulP (tr v) b), ev_tr, hv]
      have k1 := ez n
      have k4 : evP n [c0] = c0 := by simp [evP]
      have k5 : evP n [] = 0 := rfl
      rw [k5] at k1
      rw [k4, k1]
      grind
    have hfne : tr v ≠ [] := fun z => by
      have := ef 0
      rw [z] at this
      exact hc0 (by simpa [M] using this)
    have hfp : 0 < (tr v).length := List.length_pos_iff.mpr hfne
    have hbp : 0 < b.length := List.length_pos_iff.mpr Q.nb
    have hl : b.length = 1 := by
      apply Classical.byContradiction
      intro hne
      have h7 := ef ((tr v).length - 1 + b.length - 1)
      rw [div_top Q.nb (by omega), cf_out (by simp; omega)] at h7
      rcases Int.mul_eq_zero.mp h7.symm with z | z
      · exact Q.tb.last_cf Q.nb z
      · exact (tr_Tr v).last_cf hfne z
    obtain ⟨o, rfl⟩ : ∃ o, b = [o] := by
      match b, hl with
      | [o], _ => exact ⟨o, rfl⟩
    have h1 := Q.co o (fun i => by simp) fun i => by
      cases i with
      | zero => simp
      | succ i => simp
    have h2 := Q.lb
    have h3 : lastP [o] = o := rfl
    rw [h3] at h2
    congr 1
    omega
theorem cont_append (p q : List Int) (h : ∀ e : Int, (∀ i, e ∣ cf p i) → (∀ i, e ∣ cf q i) → e.natAbs = 1) : cont (p ++ q) = 1 := by
  have h1 : ∀ i, cont (p ++ q) ∣ cf p i := fun i => by
    by_cases z : cf p i = 0
    · rw [z]; exact Int.dvd_zero _
    · exact (contF_dvd (p ++ q) 0).2 _ (List.mem_append_left _ (cf_mem z))
  have h2 : ∀ i, cont (p ++ q) ∣ cf q i := fun i => by
    by_cases z : cf q i = 0
    · rw [z]; exact Int.dvd_zero _
    · exact (contF_dvd (p ++ q) 0).2 _ (List.mem_append_right _ (cf_mem z))
  have h3 := h _ h1 h2
  have h4 := cont_nonneg (p ++ q)
  omega
theorem bd_append {k : Nat} {p q : List Int} (h1 : Bd k p) (h2 : Bd k q) : Bd k (p ++ q) := Bd.of fun c hc => (List.mem_append.mp hc).elim h1.mem h2.mem
theorem lnlist_ok (K : PySem.W.Frag) (p : List Int) : nList [pt p] = .ok (.nl (p.map D.int)) := rfl
/-- the law's look at a quotient -/
theorem isquot_ok (K : PySem.W.Frag) {top bot t b : List Int} {k l L N : Nat} (Q : Quo top bot t b N) (nb : tr bot ≠ []) (bt : Bd k t) (bb : Bd k b) (lt : t.length ≤ L) (lb : b.length ≤ L) (hL : L ≤ 500) (hl2 : 2 * L ≤ 2 ^ l)
    (hBB : (k + l + 1) * ((L + 2) * (L + 2)) + 2 * (L + 2) ≤ 17980) (l1 : top.length ≤ 100000) (l2 : bot.length ≤ 100000) (b1 : Bd 400000 top) (b2 : Bd 400000 bot) : f__law_is_quot K [quotD K t b, pl top, pl bot] = .ok (.bl true) := by
  have hk9 : k ≤ 9000 := by
    have : (k + l + 1) * (2 * 2) ≤ (k + l + 1) * ((L + 2) * (L + 2)) := Nat.mul_le_mul_left _ (Nat.mul_le_mul (by omega) (by omega))
    omega
  refine runD_of ?_
  show b__law_is_quot K [.sh (quotD K t b), .sh (pl top), .sh (pl bot), .un, .un] = _
  unfold b__law_is_quot
  have hr1 := isrow_ok K (p := t) (by omega)
  have hr2 := isrow_ok K (p := b) (by omega)
  have f1 := fld_top K t b
  have f2 := fld_bottom K t b
  have i1 := isi_q K t b
  have hlast := (SqD.l b).last Q.nb
  have q1 : decide (b = []) = false := decide_eq_false Q.nb
  have q2 : decide (lastP b ≤ 0) = false := decide_eq_false (by have := Q.lb; omega)
  have ee1 := opEq_ints b []
  have ee2 := opEq_ints t []
  simp only [List.map_nil] at ee1 ee2
  have en1 := opNe_lists t (tr t)
  have en2 := opNe_lists b (tr b)
  rw [tr_id Q.tt] at en1
  rw [tr_id Q.tb] at en2
  have e3 : f__law_trim K [pl t] = .ok (pl t) := by rw [ltrim_l, tr_id Q.tt]
  have e4 : f__law_trim K [pl b] = .ok (pl b) := by rw [ltrim_l, tr_id Q.tb]
  have e5 := ltrim_l K top
  have eN1 : opNeg (.int 1) = .ok (.int (-1)) := rfl
  simp (disch := first | omega | (simp only [List.length_cons, List.length_nil, List.length_map, List.length_append, List.length_replicate]; omega) | decide) only [x_seq, x_nx, x_rt, x_rn, x_ex, x_bk, x_ct, x_ok, x_okN, x_okL, x_exS, x_t, x_f, x_rt', x_rf', x_set, x_ret, x_expr, x_setN, x_if, x_par, x_bin, x_un, x_all, x_nil, x_cons, x_nAll, x_nBin, x_eN, x_tVal, x_tTru, x_tNot, x_tAnd, x_tOr, x_eIf, x_eAnd, x_eOr, x_eNot, x_asB, x_truB, x_eC, eVar, bVar, R.bind_ok, R.bind_ex, R.bind_no, x_dl, x_dk, x_sl, x_sk, fz, frz, gN, gTupD, gCons', gNil', List.getElem?_cons_zero, List.getElem?_cons_succ, List.set_cons_zero, List.set_cons_succ, List.map_cons, List.map_nil, List.cons_append, List.nil_append, List.length_nil, List.length_cons, List.length_map, if_true, if_false, Option.bind_some, Bool.false_eq_true, Bool.not_true, Bool.not_false, Nat.reduceAdd, Nat.zero_le, opInt_i, opEq_int, opNe_int, opAdd_i, opLt_i, opLe_i, opGt_i, opGe_i, opSub_i, opLen_l, decide_true, decide_false, x_nLst, x_opTup, x_app, x_aS, x_clear, x_cS, x_try, x_tnx, x_trt, x_slice, x_asInt, x_opLst, x_raiseN, x_raiseT, x_raise, hr1, hr2, f1, f2, i1, hlast, q1, q2, ee1, ee2, en1, en2, e3, e4, lnlist_ok K, eN1]
  by_cases ht : t = []
  · subst ht
    obtain ⟨z1, rfl⟩ := quo_zero Q
    rw [z1] at e5
    simp only [pl, List.map_nil] at e5
    have e6 : opEq (.lst []) (.lst []) = .ok (.bl true) := by have := opEq_ints [] []; simpa using this
    have e7 : opEq (.lst [.int 1]) (.lst [.int 1]) = .ok (.bl true) := by have := opEq_ints [1] [1]; simpa using this
    simp (disch := first | omega | (simp only [List.length_cons, List.length_nil, List.length_map, List.length_append, List.length_replicate]; omega) | decide) only [x_seq, x_nx, x_rt, x_rn, x_ex, x_bk, x_ct, x_ok, x_okN, x_okL, x_exS, x_t, x_f, x_rt', x_rf', x_set, x_ret, x_expr, x_setN, x_if, x_par, x_bin, x_un, x_all, x_nil, x_cons, x_nAll, x_nBin, x_eN, x_tVal, x_tTru, x_tNot, x_tAnd, x_tOr, x_eIf, x_eAnd, x_eOr, x_eNot, x_asB, x_truB, x_eC, eVar, bVar, R.bind_ok, R.bind_ex, R.bind_no, x_dl, x_dk, x_sl, x_sk, fz, frz, gN, gTupD, gCons', gNil', List.getElem?_cons_zero, List.getElem?_cons_succ, List.set_cons_zero, List.set_cons_succ, List.map_cons, List.map_nil, List.cons_append, List.nil_append, List.length_nil, List.length_cons, List.length_map, if_true, if_false, Option.bind_some, Bool.false_eq_true, Bool.not_true, Bool.not_false, Nat.reduceAdd, Nat.zero_le, opInt_i, opEq_int, opNe_int, opAdd_i, opLt_i, opLe_i, opGt_i, opGe_i, opSub_i, opLen_l, decide_true, decide_false, x_nLst, x_opTup, x_app, x_aS, x_clear, x_cS, x_try, x_tnx, x_trt, x_slice, x_asInt, x_opLst, x_raiseN, x_raiseT, x_raise, e5, e6, e7, pl]
  · have c1 : f__law_gcd_of K [.lst (t.map D.int ++ b.map D.int)] = .ok (.int 1) := by
      have := lgcdof_ok K (SqD.l (t ++ b)) (bd_append bt bb) hk9
      rw [cont_append t b Q.co, pl, List.map_append] at this
      exact this
    have c2 : opAdd (.lst (t.map D.int)) (.lst (b.map D.int)) = .ok (.lst (t.map D.int ++ b.map D.int)) := by
      unfold opAdd
      dsimp only
      rw [if_pos (by simp only [List.length_map]; rw [szl]; omega)]
    have c3 := lapart_ok K Q.tt Q.tb Q.nb Q.bez bt bb lt lb hL hl2 hBB
    have c4 := ltimes_ok K (SqD.l t) (SqD.l bot) (by omega) l2 bt b2 (by omega) (by decide)
    have c5 := ltimes_ok K (SqD.l b) (SqD.l top) (by omega) l1 bb b1 (by omega) (by decide)
    have c6 : mulP t bot = mulP b top := mul_eq_iff.mpr fun n => by have := Q.cross n; rw [Int.mul_comm (evP n b)]; exact this.symm
    have c7 := opEq_ints (mulP t bot) (mulP b top)
    rw [decide_eq_true c6] at c7
    rw [decide_eq_false ht]
    simp (disch := first | omega | (simp only [List.length_cons, List.length_nil, List.length_map, List.length_append, List.length_replicate]; omega) | decide) only [x_seq, x_nx, x_rt, x_rn, x_ex, x_bk, x_ct, x_ok, x_okN, x_okL, x_exS, x_t, x_f, x_rt', x_rf', x_set, x_ret, x_expr, x_setN, x_if, x_par, x_bin, x_un, x_all, x_nil, x_cons, x_nAll, x_nBin, x_eN, x_tVal, x_tTru, x_tNot, x_tAnd, x_tOr, x_eIf, x_eAnd, x_eOr, x_eNot, x_asB, x_truB, x_eC, eVar, bVar, R.bind_ok, R.bind_ex, R.bind_no, x_dl, x_dk, x_sl, x_sk, fz, frz, gN, gTupD, gCons', gNil', List.getElem?_cons_zero, List.getElem?_cons_succ, List.set_cons_zero, List.set_cons_succ, List.map_cons, List.map_nil, List.cons_append, List.nil_append, List.length_nil, List.length_cons, List.length_map, if_true, if_false, Option.bind_some, Bool.false_eq_true, Bool.not_true, Bool.not_false, Nat.reduceAdd, Nat.zero_le, opInt_i, opEq_int, opNe_int, opAdd_i, opLt_i, opLe_i, opGt_i, opGe_i, opSub_i, opLen_l, decide_true, decide_false, x_nLst, x_opTup, x_app, x_aS, x_clear, x_cS, x_try, x_tnx, x_trt, x_slice, x_asInt, x_opLst, x_raiseN, x_raiseT, x_raise, c1, c2, c3, c4, c5, c7]
end KK
set_option Elab.async false
set_option linter.all false
set_option maxRecDepth 100000
set_option maxHeartbeats 4000000
namespace KK
open PySem L2 DS PQ
/-- the lower one is 0 -/
theorem init_ex (K : PySem.W.Frag) {u v : D} {p q : List Int} (hu : TsD K u p) (hv : TsD K v q) (nq : tr q = []) (lp : p.length ≤ 400) (lq : q.length ≤ 400) : f_Quot_init K [u, v] = .ex "NoQuot" [] := by
  unfold f_Quot_init runIB
  show retI _ (b_Quot_init K [.oi (He.ga K "Quot") [], .bw u, .bw v, .un, .un, .un, .un, .un]) = _
  unfold b_Quot_init
  have h1 := trimmed_okT K hu (by omega)
  have h2 := trimmed_okT K hv (by omega)
  rw [nq] at h2
  have h3 := opEq_tups [] []
  simp only [List.map_nil, decide_true] at h3
  simp (disch := first | omega | (simp only [List.length_cons, List.length_nil, List.length_map, List.length_append, List.length_replicate]; omega) | decide) only [x_seq, x_nx, x_rt, x_rn, x_ex, x_bk, x_ct, x_ok, x_okN, x_okL, x_exS, x_t, x_f, x_rt', x_rf', x_set, x_ret, x_expr, x_setN, x_if, x_par, x_bin, x_un, x_all, x_nil, x_cons, x_nAll, x_nBin, x_eN, x_tVal, x_tTru, x_tNot, x_tAnd, x_tOr, x_eIf, x_eAnd, x_eOr, x_eNot, x_asB, x_truB, x_eC, eVar, bVar, R.bind_ok, R.bind_ex, R.bind_no, x_dl, x_dk, x_sl, x_sk, fz, frz, gN, gTupD, gCons', gNil', List.getElem?_cons_zero, List.getElem?_cons_succ, List.set_cons_zero, List.set_cons_succ, List.map_cons, List.map_nil, List.cons_append, List.nil_append, List.length_nil, List.length_cons, List.length_map, if_true, if_false, Option.bind_some, Bool.false_eq_true, Bool.not_true, Bool.not_false, Nat.reduceAdd, Nat.zero_le, opInt_i, opEq_int, opNe_int, opAdd_i, opLt_i, opLe_i, opGt_i, opGe_i, opSub_i, opLen_l, decide_true, decide_false, x_nLst, x_opTup, x_app, x_aS, x_clear, x_cS, x_try, x_tnx, x_trt, x_slice, x_asInt, x_opLst, x_raiseN, x_raiseT, x_raise, h1, h2, h3]
  rfl
theorem kt_ts (K : PySem.W.Frag) : TsD K (.kt ((He.dflAt ("Quot", some "__init__") 0) K) [1]) [1] := by
  refine ⟨?_, fun i hi => ?_⟩
  · unfold opLenK
    dsimp only
    rw [if_pos ⟨rfl, rfl⟩]
  · have : i = 0 := by simp at hi; exact hi
    subst this
    unfold opIxK
    dsimp only
    rw [if_pos ⟨rfl, rfl⟩]
    rfl
theorem some_ok2 (K : PySem.W.Frag) {rs : List Nat} {m : Nat} (hl : rs.length = m + 1) (hm : m ≤ 14) (hm2 : 2 ≤ m) (h0 : rs[0]! < m) (h : ∀ r ∈ rs, r < 9) : ∃ p, f__law_some_poly K [nL rs] = .ok (pl p) ∧ p.length ≤ m ∧ Tr p ∧ p ≠ [] ∧ ∀ i, (cf p i).natAbs ≤ max 4 m := by
  obtain ⟨p, e, b, l, m'⟩ := drawn_ok K hl (by omega) h0 h
  have et := ltrim_l K p
  have e0 : opIx (nL rs) (.int 0) = .ok (.int (rs[0]! : Int)) := by
    have := opIx_nl (l := rs) (i := 0) (by omega)
    rw [← getElem!_pos rs 0 (by omega)] at this
    exact this
  have e1 := opEq_ints (tr p) []
  simp only [List.map_nil] at e1
  by_cases hz : tr p = []
  · refine ⟨[1 + (rs[0]! : Int), 1], runD_of ?_, by simp; omega, fun _ => by simp, by simp, fun i => ?_⟩
    · show b__law_some_poly K [.sh (nL rs), .un] = _
      unfold b__law_some_poly
      rw [decide_eq_true hz] at e1
      simp (disch := first | omega | (simp only [List.length_cons, List.length_nil, List.length_map, List.length_append, List.length_replicate]; omega) | decide) only [x_seq, x_nx, x_rt, x_rn, x_ex, x_bk, x_ct, x_ok, x_okN, x_okL, x_exS, x_t, x_f, x_rt', x_rf', x_set, x_ret, x_expr, x_setN, x_if, x_par, x_bin, x_un, x_all, x_nil, x_cons, x_nAll, x_nBin, x_eN, x_tVal, x_tTru, x_tNot, x_tAnd, x_tOr, x_eIf, x_eAnd, x_eOr, x_eNot, x_asB, x_truB, x_eC, eVar, bVar, R.bind_ok, R.bind_ex, R.bind_no, x_dl, x_dk, x_sl, x_sk, fz, frz, gN, gTupD, gCons', gNil', List.getElem?_cons_zero, List.getElem?_cons_succ, List.set_cons_zero, List.set_cons_succ, List.map_cons, List.map_nil, List.cons_append, List.nil_append, List.length_nil, List.length_cons, List.length_map, if_true, if_false, Option.bind_some, Bool.false_eq_true, Bool.not_true, Bool.not_false, Nat.reduceAdd, Nat.zero_le, opInt_i, opEq_int, opNe_int, opAdd_i, opLt_i, opLe_i, opGt_i, opGe_i, opSub_i, opLen_l, decide_true, decide_false, x_nLst, x_opTup, x_app, x_aS, x_clear, x_cS, x_try, x_tnx, x_trt, x_slice, x_asInt, x_opLst, x_raiseN, x_raiseT, x_raise, e, et, e0, e1, pl]
      rfl
    · by_cases hi : cf [1 + (rs[0]! : Int), 1] i = 0
      · rw [hi]; simp
      · have := cf_mem hi
        simp only [List.mem_cons, List.not_mem_nil, or_false] at this
        rcases this with h1 | h1 <;> (rw [h1]; omega)
  · refine ⟨tr p, runD_of ?_, Nat.le_trans (tr_len p) l, tr_Tr p, hz, fun i => ?_⟩
    · show b__law_some_poly K [.sh (nL rs), .un] = _
      unfold b__law_some_poly
      rw [decide_eq_false hz] at e1
      simp (disch := first | omega | (simp only [List.length_cons, List.length_nil, List.length_map, List.length_append, List.length_replicate]; omega) | decide) only [x_seq, x_nx, x_rt, x_rn, x_ex, x_bk, x_ct, x_ok, x_okN, x_okL, x_exS, x_t, x_f, x_rt', x_rf', x_set, x_ret, x_expr, x_setN, x_if, x_par, x_bin, x_un, x_all, x_nil, x_cons, x_nAll, x_nBin, x_eN, x_tVal, x_tTru, x_tNot, x_tAnd, x_tOr, x_eIf, x_eAnd, x_eOr, x_eNot, x_asB, x_truB, x_eC, eVar, bVar, R.bind_ok, R.bind_ex, R.bind_no, x_dl, x_dk, x_sl, x_sk, fz, frz, gN, gTupD, gCons', gNil', List.getElem?_cons_zero, List.getElem?_cons_succ, List.set_cons_zero, List.set_cons_succ, List.map_cons, List.map_nil, List.cons_append, List.nil_append, List.length_nil, List.length_cons, List.length_map, if_true, if_false, Option.bind_some, Bool.false_eq_true, Bool.not_true, Bool.not_false, Nat.reduceAdd, Nat.zero_le, opInt_i, opEq_int, opNe_int, opAdd_i, opLt_i, opLe_i, opGt_i, opGe_i, opSub_i, opLen_l, decide_true, decide_false, x_nLst, x_opTup, x_app, x_aS, x_clear, x_cS, x_try, x_tnx, x_trt, x_slice, x_asInt, x_opLst, x_raiseN, x_raiseT, x_raise, e, et, e0, e1, pl]
    · by_cases hi : cf (tr p) i = 0
      · rw [hi]; simp
      · have := m' _ (tr_mem (cf_mem hi))
        omega
end KK
set_option Elab.async false
set_option linter.all false
set_option maxRecDepth 100000
set_option maxHeartbeats 4000000
namespace KK
open PySem L2 DS PQ
theorem ix_lit {rs : List Nat} {n i : Nat} (hl : rs.length = n) (hi : i < n) : opIx (nL rs) (nD i) = .ok (nD (rs.getD i 0)) := by
  have := opIx_nl (l := rs) (i := i) (by omega)
  rw [this]
  simp [List.getD_eq_getElem?_getD, List.getElem?_eq_getElem (show i < rs.length by omega)]
theorem sl_lit {p : List Nat} {i j : Nat} (hj : j ≤ p.length) (hij : i ≤ j) : opSlice (nL p) (some (i : Int)) (some (j : Int)) = .ok (nL ((p.drop i).take (j - i))) := by
  unfold opSlice
  dsimp only
  unfold cutD
  rw [HT.sIx_nat, HT.sIx_nat, List.length_map, Nat.min_eq_left (Nat.le_trans hij hj), Nat.min_eq_left hj, ← List.map_drop, ← List.map_take]
theorem catN {a b : List Nat} (hl : a.length + b.length ≤ 100000) : opCatN (nL a) (nL b) = .ok (.nl ((a ++ b).map nD)) := by
  unfold opCatN
  dsimp only
  rw [if_pos (by simp only [List.length_map]; rw [szl]; omega), List.map_append]
theorem repN {a n : Nat} (hl : n ≤ 100000) : opRepN (.lst [nD a]) (nD n) = .ok (.nl ((List.replicate n a).map nD)) := by
  unfold opRepN
  dsimp only
  rw [if_pos ⟨by omega, by simp only [List.length_singleton]; rw [szl]; omega⟩]
  simp only [Int.toNat_natCast]
  congr 2
  have : ∀ n : Nat, (List.replicate n [nD a]).flatten = (List.replicate n a).map nD := fun n => by
    induction n with
    | zero => rfl
    | succ n ih => rw [List.replicate_succ, List.flatten_cons, ih]; rfl
  exact this n
theorem catP {a b : List Int} (hl : a.length + b.length ≤ 100000) : opCatN (pl a) (pl b) = .ok (.nl ((a ++ b).map D.int)) := by
  unfold opCatN
  dsimp only
  rw [if_pos (by simp only [List.length_map]; rw [szl]; omega), List.map_append]
theorem opNe_pair (a b : List Int) : opNe (.lst [.lst (a.map D.int), .lst (b.map D.int)]) (.lst [.lst (a.map D.int), .lst (b.map D.int)]) = .ok (.bl false) := by
  simp [opNe, eqD, toPy, toPyL, toPyL_ints, SeqAt.shaped, PyData.canLay0, PyData.canLayAll0, canLay_ints, PyData.depth, PyData.depthAll, depth_ints, PyData.eqv, PyData.eqvAll, eqv_ints]
theorem opEq_ttt : opEq (.lst [.bl true, .bl true, .bl true]) (.lst [.bl true, .bl true, .bl true]) = .ok (.bl true) := by
  simp [opEq, eqD, toPy, toPyL, SeqAt.shaped, PyData.canLay0, PyData.canLayAll0, PyData.depth, PyData.depthAll, PyData.eqv, PyData.eqvAll]
theorem law_true (K : PySem.W.Frag) (ns : List Int) : f_law K [.scr ns] = .ok (.bl true) := by
  refine runD_of ?_
  show b_law K [.sh (.scr ns), .un, .un, .un, .un, .un, .un, .un, .un, .un, .un, .un, .un] = _
  unfold b_law
  obtain ⟨c0, ec0⟩ := cell_ok K ns 0
  replace ec0 : f__law_cell K [.scr ns, .int 0] = .ok (.int c0) := ec0
  obtain ⟨rs, er, hl, hr⟩ := row_ok K c0 ([4, 4, 2, 2, 9, 9, 3, 3, 4, 4] ++ List.replicate 30 9) (by decide) (by decide)
  have hl' : rs.length = 40 := hl
  have bd : ∀ j, j < 40 → rs.getD j 0 < ([4, 4, 2, 2, 9, 9, 3, 3, 4, 4] ++ List.replicate 30 9).getD j 0 := fun j hj => by
    have := hr j (by omega) (by simpa using hj)
    simp only [List.getD_eq_getElem?_getD]
    rw [List.getElem?_eq_getElem (by omega), List.getElem?_eq_getElem (by simpa using hj)]
    exact this
  have k1 : opRepN (.lst [.int 9]) (.int 30) = .ok (.nl ((List.replicate 30 9).map nD)) := repN (a := 9) (n := 30) (by decide)
  have k2 : opCatN (.lst [.int 4, .int 4, .int 2, .int 2, .int 9, .int 9, .int 3, .int 3, .int 4, .int 4]) (.lst ((List.replicate 30 9).map nD)) = .ok (.nl (([4, 4, 2, 2, 9, 9, 3, 3, 4, 4] ++ List.replicate 30 9).map nD)) := catN (a := [4, 4, 2, 2, 9, 9, 3, 3, 4, 4]) (b := List.replicate 30 9) (by decide)
  obtain ⟨Z0, hZ0⟩ : ∃ Z0 : List Nat, Z0 = List.replicate 30 9 := ⟨_, rfl⟩
  obtain ⟨Z, hZ⟩ : ∃ Z : List Nat, Z = [4, 4, 2, 2, 9, 9, 3, 3, 4, 4] ++ List.replicate 30 9 := ⟨_, rfl⟩
  rw [← hZ0] at k1 k2
  rw [hZ0, ← hZ] at k2
  rw [← hZ0] at k2
  rw [← hZ] at er
  have r0 : opIx (.lst (rs.map nD)) (.int 0) = .ok (.int (rs.getD 0 0 : Nat)) := ix_lit (i := 0) hl' (by decide)
  have r1 : opIx (.lst (rs.map nD)) (.int 1) = .ok (.int (rs.getD 1 0 : Nat)) := ix_lit (i := 1) hl' (by decide)
  have r2 : opIx (.lst (rs.map nD)) (.int 2) = .ok (.int (rs.getD 2 0 : Nat)) := ix_lit (i := 2) hl' (by decide)
  have r3 : opIx (.lst (rs.map nD)) (.int 3) = .ok (.int (rs.getD 3 0 : Nat)) := ix_lit (i := 3) hl' (by decide)
  have r4 : opIx (.lst (rs.map nD)) (.int 4) = .ok (.int (rs.getD 4 0 : Nat)) := ix_lit (i := 4) hl' (by decide)
  have r5 : opIx (.lst (rs.map nD)) (.int 5) = .ok (.int (rs.getD 5 0 : Nat)) := ix_lit (i := 5) hl' (by decide)
  have r6 : opIx (.lst (rs.map nD)) (.int 6) = .ok (.int (rs.getD 6 0 : Nat)) := ix_lit (i := 6) hl' (by decide)
  have r7 : opIx (.lst (rs.map nD)) (.int 7) = .ok (.int (rs.getD 7 0 : Nat)) := ix_lit (i := 7) hl' (by decide)
  have r8 : opIx (.lst (rs.map nD)) (.int 8) = .ok (.int (rs.getD 8 0 : Nat)) := ix_lit (i := 8) hl' (by decide)
  have r9 : opIx (.lst (rs.map nD)) (.int 9) = .ok (.int (rs.getD 9 0 : Nat)) := ix_lit (i := 9) hl' (by decide)
  have b0 : rs.getD 0 0 < 4 := bd 0 (by decide)
  have b1 : rs.getD 1 0 < 4 := bd 1 (by decide)
  have b2 : rs.getD 2 0 < 2 := bd 2 (by decide)
  have b3 : rs.getD 3 0 < 2 := bd 3 (by decide)
  have b4 : rs.getD 4 0 < 9 := bd 4 (by decide)
  have b5 : rs.getD 5 0 < 9 := bd 5 (by decide)
  have b6 : rs.getD 6 0 < 3 := bd 6 (by decide)
  have b7 : rs.getD 7 0 < 3 := bd 7 (by decide)
  have cut : ∀ i j, 10 ≤ i → i ≤ j → j ≤ 40 → ∀ r ∈ (rs.drop i).take (j - i), r < 9 := fun i j hi hij hj r hr2 => by
    obtain ⟨k, hk, rfl⟩ := List.getElem_of_mem hr2
    rw [List.length_take, List.length_drop] at hk
    have h1 := bd (i + k) (by omega)
    simp only [List.getD_eq_getElem?_getD] at h1
    rw [List.getElem?_eq_getElem (by omega), List.getElem?_append_right (by simp; omega), List.getElem?_replicate, if_pos (by simp; omega)] at h1
    simpa using h1
  have s1 : opSlice (.lst (rs.map nD)) (some 10) (some 18) = .ok (nL ((rs.drop 10).take 8)) := sl_lit (i := 10) (j := 18) (by omega) (by decide)
  have s2 : opSlice (.lst (rs.map nD)) (some 18) (some 26) = .ok (nL ((rs.drop 18).take 8)) := sl_lit (i := 18) (j := 26) (by omega) (by decide)
  have s3 : opSlice (.lst (rs.map nD)) (some 26) (some 29) = .ok (nL ((rs.drop 26).take 3)) := sl_lit (i := 26) (j := 29) (by omega) (by decide)
  have s4 : opSlice (.lst (rs.map nD)) (some 29) (some 32) = .ok (nL ((rs.drop 29).take 3)) := sl_lit (i := 29) (j := 32) (by omega) (by decide)
  have c1 := cut 10 18 (by decide) (by decide) (by decide)
  have c2 := cut 18 26 (by decide) (by decide) (by decide)
  have c3 := cut 26 29 (by decide) (by decide) (by decide)
  have c4 := cut 29 32 (by decide) (by decide) (by decide)
  -- longer
  obtain ⟨g, hg, eg⟩ : ∃ g : Nat, g ≤ 4 ∧ opMul (.int 4) (.int (if decide ((rs.getD 9 0 : Int) = 0) = true then 1 else 0)) = .ok (.int (g : Int)) := by
    by_cases h : (rs.getD 9 0 : Int) = 0
    · exact ⟨4, by decide, by rw [decide_eq_true h]; rfl⟩
    · exact ⟨0, by decide, by rw [decide_eq_false h]; rfl⟩
  -- the polynomials
  have mk : ∀ (x m : Nat) (l : List Nat), l.length = m → x < m → (∀ r ∈ l, r < 9) → m ≤ 8 → ∃ q : List Nat, q.length = m + 1 ∧ q[0]! < m ∧ (∀ r ∈ q, r < 9) ∧ ∀ z : Int, z = (x : Int) → opCatN (.lst [.int z]) (nL l) = .ok (.nl (q.map nD)) := fun x m l h1 h3 h4 h5 => ⟨x :: l, by simp [h1], h3, fun r hr => by
    cases hr with
    | head => omega
    | tail _ h => exact h4 r h, fun z hz => by
    subst hz
    exact catN (a := [x]) (b := l) (by simp; omega)⟩
  obtain ⟨q1, m1, m2, m3, t1⟩ := mk (rs.getD 0 0 + g) 8 ((rs.drop 10).take 8) (by simp; omega) (by omega) c1 (by decide)
  obtain ⟨up0, eup0, _, lup0, mup0⟩ := drawn_ok K (m := 8) m1 (by decide) m2 m3
  obtain ⟨q2, m1, m2, m3, t2⟩ := mk (rs.getD 1 0 + g) 8 ((rs.drop 18).take 8) (by simp; omega) (by omega) c2 (by decide)
  obtain ⟨lw0, elw0, llw0, tlw0, nlw0, mlw0⟩ := some_ok2 K (m := 8) m1 (by decide) (by decide) m2 m3
  obtain ⟨q3, m1, m2, m3, t3⟩ := mk (rs.getD 2 0) 3 ((rs.drop 26).take 3) (by simp; omega) (by omega) c3 (by decide)
  obtain ⟨y1, ey1, ly1, ty1, ny1, my1⟩ := some_ok2 K (m := 3) m1 (by decide) (by decide) m2 m3
  obtain ⟨q4, m1, m2, m3, t4⟩ := mk (rs.getD 3 0) 3 ((rs.drop 29).take 3) (by simp; omega) (by omega) c4 (by decide)
  obtain ⟨y2, ey2, ly2, ty2, ny2, my2⟩ := some_ok2 K (m := 3) m1 (by decide) (by decide) m2 m3
  replace t1 := t1 ((rs.getD 0 0 : Int) + (g : Int)) (by omega)
  replace t2 := t2 ((rs.getD 1 0 : Int) + (g : Int)) (by omega)
  replace t3 := t3 (rs.getD 2 0 : Int) rfl
  replace t4 := t4 (rs.getD 3 0 : Int) rfl
  have et1 := ltrim_l K up0
  -- the lower one
  obtain ⟨lw, elw⟩ : ∃ lw : List Int, lw = if (rs.getD 8 0 : Int) = 0 then [1] else lw0 := ⟨_, rfl⟩
  have llw : lw.length ≤ 8 ∧ Tr lw ∧ lw ≠ [] ∧ ∀ i, (cf lw i).natAbs ≤ 8 := by
    rw [elw]
    split
    · refine ⟨by decide, fun _ => by simp, by simp, fun i => ?_⟩
      cases i with
      | zero => decide
      | succ i => simp
    · exact ⟨llw0, tlw0, nlw0, mlw0⟩
  have sIf1 : ∀ (a0 a1 a2 a3 a4 a6 a7 a8 a9 a10 a11 a12 : Sl), rT (.ok (decide ((rs.getD 8 0 : Int) = 0))) [a0, a1, a2, a3, a4, .sh (pl lw0), a6, a7, a8, a9, a10, a11, a12] (sSet 5 (eN (nAll nLst [(eC (.int 1))]))) .nx = .nx [a0, a1, a2, a3, a4, .sh (pl lw), a6, a7, a8, a9, a10, a11, a12] := fun a0 a1 a2 a3 a4 a6 a7 a8 a9 a10 a11 a12 => by
    by_cases h : (rs.getD 8 0 : Int) = 0
    · rw [decide_eq_true h, elw, if_pos h]
      rfl
    · rw [decide_eq_false h, elw, if_neg h]
      rfl
  -- the factor
  have bnd : ∀ {p : List Int} {A k : Nat}, (∀ i, (cf p i).natAbs ≤ A) → A < 2 ^ k → Bd k p := fun h hk => Bd_le h hk
  have e1 := ltimes_ok K (SqD.l y1) (SqD.l y2) (by omega) (by omega) (bnd my1 (k := 3) (by decide)) (bnd my2 (k := 3) (by decide)) (by decide) (by decide)
  obtain ⟨by1, hby1⟩ : ∃ x, x = mulP y1 y2 := ⟨_, rfl⟩
  have lby1 : by1.length ≤ 5 := by rw [hby1]; have := mulP_len2 y1 y2; omega
  have mby1 : ∀ i, (cf by1 i).natAbs ≤ 48 := fun i => by rw [hby1]; exact Nat.le_trans (mulP_le my1 my2 ly1 i) (by decide)
  have nby1 : by1 ≠ [] := by rw [hby1]; exact mulP_ne ty1 ny1 ty2 ny2
  have tby1 : Tr by1 := by rw [hby1]; exact tr_Tr _
  rw [← hby1] at e1
  obtain ⟨c, hc0, hc9, ec⟩ : ∃ c : Int, c ≠ 0 ∧ c.natAbs ≤ 9 ∧ opIx (.lst [.int ((rs.getD 4 0 : Int) - 9), .int ((rs.getD 4 0 : Int) + 1)]) (.int (if decide ((rs.getD 5 0 : Int) > 4) = true then 1 else 0)) = .ok (.int c) := by
    by_cases h : (rs.getD 5 0 : Int) > 4
    · exact ⟨(rs.getD 4 0 : Int) + 1, by omega, by omega, by rw [decide_eq_true h]; rfl⟩
    · exact ⟨(rs.getD 4 0 : Int) - 9, by omega, by omega, by rw [decide_eq_false h]; rfl⟩
  have e2 := ltimes_ok K (SqD.l by1) (SqD.l [c]) (by omega) (by simp) (bnd mby1 (k := 6) (by decide)) (bnd (one_le hc9) (k := 4) (by decide)) (by decide) (by decide)
  obtain ⟨by2, hby2⟩ : ∃ x, x = mulP by1 [c] := ⟨_, rfl⟩
  have lby2 : by2.length ≤ 5 := by rw [hby2]; have := mulP_len2 by1 [c]; simp only [List.length_singleton] at this; omega
  have mby2 : ∀ i, (cf by2 i).natAbs ≤ 2160 := fun i => by rw [hby2]; exact Nat.le_trans (mulP_le mby1 (one_le hc9) lby1 i) (by decide)
  have nby2 : by2 ≠ [] := by rw [hby2]; exact mulP_ne tby1 nby1 (fun _ => by simpa using hc0) (by simp)
  have tby2 : Tr by2 := by rw [hby2]; exact tr_Tr _
  rw [← hby2] at e2
  simp only [pl, List.map_cons, List.map_nil] at e2
  -- the passed ones
  obtain ⟨up, hup⟩ : ∃ x, x = tr up0 := ⟨_, rfl⟩
  rw [← hup] at et1
  have lup : up.length ≤ 8 := by rw [hup]; exact Nat.le_trans (tr_len _) lup0
  have tup : Tr up := by rw [hup]; exact tr_Tr _
  have mup : ∀ i, (cf up i).natAbs ≤ 4 := fun i => by
    rw [hup]
    by_cases hz : cf (tr up0) i = 0
    · rw [hz]; decide
    · have := mup0 _ (tr_mem (cf_mem hz))
      omega
  obtain ⟨llw, tlw, nlw, mlw⟩ := llw
  have e3 := ltimes_ok K (SqD.l up) (SqD.l by2) (by omega) (by omega) (bnd mup (k := 3) (by decide)) (bnd mby2 (k := 12) (by decide)) (by decide) (by decide)
  have e4 := ltimes_ok K (SqD.l lw) (SqD.l by2) (by omega) (by omega) (bnd mlw (k := 4) (by decide)) (bnd mby2 (k := 12) (by decide)) (by decide) (by decide)
  have zr : ∀ j : Nat, j ≤ 1000 → opRepN (.lst [.int 0]) (.int (j : Int)) = .ok (.nl ((List.replicate j (0 : Int)).map D.int)) := fun j hj => by
    have := repN (a := 0) (n := j) (by omega)
    simpa [nD] using this
  have z1 := zr (rs.getD 6 0) (by omega)
  have z2 := zr (rs.getD 7 0) (by omega)
  have lm1 := mulP_len2 up by2
  have lm2 := mulP_len2 lw by2
  have e5 := catP (a := mulP up by2) (b := List.replicate (rs.getD 6 0) 0) (by rw [List.length_replicate]; omega)
  have e6 := catP (a := mulP lw by2) (b := List.replicate (rs.getD 7 0) 0) (by rw [List.length_replicate]; omega)
  obtain ⟨one, hone⟩ : ∃ x, x = mulP up by2 ++ List.replicate (rs.getD 6 0) 0 := ⟨_, rfl⟩
  obtain ⟨two, htwo⟩ : ∃ x, x = mulP lw by2 ++ List.replicate (rs.getD 7 0) 0 := ⟨_, rfl⟩
  rw [← hone] at e5
  rw [← htwo] at e6
  have cf0 : ∀ (p : List Int) (j i : Nat), cf (p ++ List.replicate j 0) i = cf p i := fun p j i => by
    rw [cf_append]
    split
    · rfl
    · rw [cf_out (p := p) (by omega)]
      by_cases h : i - p.length < j
      · rw [cf_get (by simpa using h)]; simp
      · rw [cf_out (by simp; omega)]
  have cone : ∀ i, cf one i = cf (mulP up by2) i := fun i => by rw [hone, cf0]
  have ctwo : ∀ i, cf two i = cf (mulP lw by2) i := fun i => by rw [htwo, cf0]
  have tone : tr one = mulP up by2 := (tr_congr cone).trans (tr_id (tr_Tr _))
  have ttwo : tr two = mulP lw by2 := (tr_congr ctwo).trans (tr_id (tr_Tr _))
  have lone : one.length ≤ 20 := by rw [hone, List.length_append, List.length_replicate]; omega
  have ltwo : two.length ≤ 20 := by rw [htwo, List.length_append, List.length_replicate]; omega
  have bone : Bd 17 one := fun i => by
    rw [cone]
    exact Nat.lt_of_le_of_lt (mulP_le mup mby2 lup i) (by decide)
  have btwo : Bd 18 two := fun i => by
    rw [ctwo]
    exact Nat.lt_of_le_of_lt (mulP_le mlw mby2 llw i) (by decide)
  have ntwo : tr two ≠ [] := by rw [ttwo]; exact mulP_ne tlw nlw tby2 nby2
  have nlw' : tr lw ≠ [] := by rw [tr_id tlw]; exact nlw
  -- the quotient
  obtain ⟨t, b, ein, Q⟩ := init_ok K (SqD.l up).ts (SqD.l lw).ts nlw' (bnd mup (k := 4) (by decide)) (bnd mlw (k := 4) (by decide)) (Nat.le_trans (tr_len _) lup) (Nat.le_trans (tr_len _) llw) (by omega) (by omega) (by decide) (by decide : 2 * 8 ≤ 2 ^ 4) (by decide)
  have same : ∀ (u v : D), TsD K u one → TsD K v two → f_Quot_init K [u, v] = .ok (qflds t b) := fun u v hu hv => by
    obtain ⟨t2, b2, e2, Q2⟩ := init_ok K hu hv ntwo (bone.mono (by decide : 17 ≤ 18)) btwo (by rw [tone]; omega : (tr one).length ≤ 12) (by rw [ttwo]; omega) (by omega) (by omega) (by decide) (by decide : 2 * 12 ≤ 2 ^ 5) (by decide)
    have := (eq_iff Q2 Q ntwo nlw').mpr (mul_eq_iff.mpr fun n => by
      rw [ev_congr (p := one) (q := mulP up by2) cone, ev_congr (p := two) (q := mulP lw by2) ctwo, ev_M (g := by2) (h := up) (cf_mulP up by2), ev_M (g := by2) (h := lw) (cf_mulP lw by2)]
      generalize evP n by2 = x1
      generalize evP n up = x2
      generalize evP n lw = x3
      grind)
    rw [e2, this.1, this.2]
  have ein1 := same _ _ (SqD.l one).ts (SqD.l two).ts
  have ein2 := same _ _ (SqD.t one).ts (SqD.t two).ts
  have isq := isquot_ok K Q nlw' Q.bt Q.bb (Nat.le_trans Q.lt lup) (Nat.le_trans Q.ll llw) (by decide) (by decide : 2 * 8 ≤ 2 ^ 4) (by decide) (by omega) (by omega) ((bnd mup (k := 3) (by decide)).mono (by decide)) ((bnd mlw (k := 4) (by decide)).mono (by decide))
  have ep := plus_ok K (p := up) (q := by2) (by omega) (by omega)
  obtain ⟨oth, hoth⟩ : ∃ x, x = addP up by2 := ⟨_, rfl⟩
  have moth : ∀ i, (cf oth i).natAbs ≤ 2164 := fun i => by
    rw [hoth, cf_addP]
    have h1 := mup i
    have h2 := mby2 i
    omega
  have loth : oth.length ≤ 8 := by
    rw [hoth]
    have := addP_len up by2
    omega
  rw [← hoth] at ep
  obtain ⟨tt3, bb3, eo, Q3⟩ := init_ok K (SqD.l oth).ts (SqD.l lw).ts nlw' (bnd moth (k := 12) (by decide)) (bnd mlw (k := 12) (by decide)) (Nat.le_trans (tr_len _) loth) (Nat.le_trans (tr_len _) llw) (by omega) (by omega) (by decide) (by decide : 2 * 8 ≤ 2 ^ 4) (by decide)
  have hno : ¬ (tt3 = t ∧ bb3 = b) := fun h => by
    have h1 := mul_eq_iff.mp ((eq_iff Q3 Q nlw' nlw').mp h)
    have h2 : ∀ n, evP n lw * evP n by2 = 0 := fun n => by
      have := h1 n
      rw [hoth, ev_add (cf_addP _ _)] at this
      generalize evP n by2 = x1 at *
      generalize evP n up = x2 at *
      generalize evP n lw = x3 at *
      grind
    exact nby2 (tby2.nil_of fun i => cancel (tlw.last_cf nlw) h2 i)
  have tag : ∀ (t b : List Int), tagD (quotD K t b) ∈ kTs K kt_Quot := fun t b => .head _
  have eq1 := opEqO_ok (eqQ_ok K t b t b) (tag t b)
  have ne1 := opNeO_ok (eqQ_ok K t b t b) (tag t b)
  have eq2 := opEqO_ok (eqQ_ok K tt3 bb3 t b) (tag t b)
  have ne2 := opNeO_ok (eqQ_ok K tt3 bb3 t b) (tag t b)
  rw [decide_eq_true ⟨rfl, rfl⟩] at eq1 ne1
  rw [decide_eq_false hno] at eq2 ne2
  -- the two ways
  have way1 : ∀ (x : Bool) (s : SD), s[7]? = some (.ol (one.map D.int)) → s[8]? = some (.ol (two.map D.int)) → rIf (.ok x) s (eAll (opMake (He.ga K "Quot") (f_Quot_init K)) [(bVar 7), (bVar 8)]) (eAll (opMake (He.ga K "Quot") (f_Quot_init K)) [(eAll opTuple [(bVar 7)]), (eAll opTuple [(bVar 8)])]) = .ok (quotD K t b) := fun x s h7 h8 => by
    have v7 : bVar 7 s = .ok (pl one) := by unfold bVar; rw [h7]
    have v8 : bVar 8 s = .ok (pl two) := by unfold bVar; rw [h8]
    cases x with
    | true =>
      rw [x_rt', eAll2 v7 v8]
      unfold opMake
      rw [ein1]
      rfl
    | false =>
      rw [x_rf', eAll2 (d := pt one) (e := pt two) (by rw [eAll1 v7]; rfl) (by rw [eAll1 v8]; rfl)]
      unfold opMake
      rw [ein2]
      rfl
  have way2 : ∀ (s : SD), s[4]? = some (.sh (pl up)) → s[5]? = some (.sh (pl lw)) → rIf (.ok (decide (lw = [1]))) s (eAll (opMakeD (He.ga K "Quot") (f_Quot_init K) ((He.dflAt ("Quot", some "__init__") 0) K) [1]) [(bVar 4)]) (eAll (opMake (He.ga K "Quot") (f_Quot_init K)) [(bVar 4), (bVar 5)]) = .ok (quotD K t b) := fun s h4 h5 => by
    have v4 : bVar 4 s = .ok (pl up) := by unfold bVar; rw [h4]
    have v5 : bVar 5 s = .ok (pl lw) := by unfold bVar; rw [h5]
    by_cases h1 : lw = [1]
    · rw [decide_eq_true h1, x_rt', eAll1 v4]
      unfold opMakeD
      obtain ⟨t2, b2, e2, Q2⟩ := init_ok K (SqD.l up).ts (kt_ts K) (by decide) (bnd mup (k := 4) (by decide)) (bnd (one_le (c := 1) (A := 1) (by decide)) (k := 4) (by decide)) (Nat.le_trans (tr_len _) lup) (by decide : (tr [1]).length ≤ 8) (by omega) (by decide) (by decide) (by decide : 2 * 8 ≤ 2 ^ 4) (by decide)
      have := (eq_iff Q2 Q (by decide) nlw').mpr (by rw [h1])
      show R.bind (f_Quot_init K [pl up, .kt _ [1]]) _ = _
      rw [e2, this.1, this.2]
      rfl
    · rw [decide_eq_false h1, x_rf', eAll2 v4 v5]
      unfold opMake
      rw [ein]
      rfl
  have met : ∀ (u v : D) (p q : List Int), TsD K u p → TsD K v q → tr q = [] → p.length ≤ 400 → q.length ≤ 400 → f__law_met K [u, v] = .ok (.bl true) := fun u v p q h1 h2 h3 h4 h5 => by
    have e := init_ex K h1 h2 h3 h4 h5
    refine runD_of ?_
    show b__law_met K [.sh u, .sh v] = _
    unfold b__law_met
    simp (disch := first | omega | (simp only [List.length_cons, List.length_nil, List.length_map, List.length_append, List.length_replicate]; omega) | decide) only [x_seq, x_nx, x_rt, x_rn, x_ex, x_bk, x_ct, x_ok, x_okN, x_okL, x_exS, x_t, x_f, x_rt', x_rf', x_set, x_ret, x_expr, x_setN, x_if, x_par, x_bin, x_un, x_all, x_nil, x_cons, x_nAll, x_nBin, x_eN, x_tVal, x_tTru, x_tNot, x_tAnd, x_tOr, x_eIf, x_eAnd, x_eOr, x_eNot, x_asB, x_truB, x_eC, eVar, bVar, R.bind_ok, R.bind_ex, R.bind_no, x_dl, x_dk, x_sl, x_sk, fz, frz, gN, gTupD, gCons', gNil', List.getElem?_cons_zero, List.getElem?_cons_succ, List.set_cons_zero, List.set_cons_succ, List.map_cons, List.map_nil, List.cons_append, List.nil_append, List.length_nil, List.length_cons, List.length_map, if_true, if_false, Option.bind_some, Bool.false_eq_true, Bool.not_true, Bool.not_false, Nat.reduceAdd, Nat.zero_le, opInt_i, opEq_int, opNe_int, opAdd_i, opLt_i, opLe_i, opGt_i, opGe_i, opSub_i, opLen_l, decide_true, decide_false, x_nLst, x_opTup, x_app, x_aS, x_clear, x_cS, x_try, x_tnx, x_trt, x_slice, x_asInt, x_opLst, x_raiseN, x_raiseT, x_raise, opMake, e, tS]
    rfl
  simp (disch := first | omega | (simp only [List.length_cons, List.length_nil, List.length_map, List.length_append, List.length_replicate]; omega) | decide) only [x_seq, x_nx, x_rt, x_rn, x_ex, x_bk, x_ct, x_ok, x_okN, x_okL, x_exS, x_t, x_f, x_rt', x_rf', x_set, x_ret, x_expr, x_setN, x_if, x_par, x_bin, x_un, x_all, x_nil, x_cons, x_nAll, x_nBin, x_eN, x_tVal, x_tTru, x_tNot, x_tAnd, x_tOr, x_eIf, x_eAnd, x_eOr, x_eNot, x_asB, x_truB, x_eC, eVar, bVar, R.bind_ok, R.bind_ex, R.bind_no, x_dl, x_dk, x_sl, x_sk, fz, frz, gN, gTupD, gCons', gNil', List.getElem?_cons_zero, List.getElem?_cons_succ, List.set_cons_zero, List.set_cons_succ, List.map_cons, List.map_nil, List.cons_append, List.nil_append, List.length_nil, List.length_cons, List.length_map, if_true, if_false, Option.bind_some, Bool.false_eq_true, Bool.not_true, Bool.not_false, Nat.reduceAdd, Nat.zero_le, opInt_i, opEq_int, opNe_int, opAdd_i, opLt_i, opLe_i, opGt_i, opGe_i, opSub_i, opLen_l, decide_true, decide_false, x_nLst, x_opTup, x_app, x_aS, x_clear, x_cS, x_try, x_tnx, x_trt, x_slice, x_asInt, x_opLst, x_raiseN, x_raiseT, x_raise, ec0, er, k1, k2, r0, r1, r2, r3, r4, r5, r6, r7, r8, r9, s1, s2, s3, s4, opIntB, eg, t1, t2, t3, t4, eup0, elw0, ey1, ey2, et1, sIf1, e1, ec, e2, e3, e4, z1, z2, e5, e6, nList]
  rw [opMod_i (by decide)]
  simp only [R.bind_ok]
  simp (disch := first | omega | (simp only [List.length_cons, List.length_nil, List.length_map, List.length_append, List.length_replicate]; omega) | decide) only [x_seq, x_nx, x_rt, x_rn, x_ex, x_bk, x_ct, x_ok, x_okN, x_okL, x_exS, x_t, x_f, x_rt', x_rf', x_set, x_ret, x_expr, x_setN, x_if, x_par, x_bin, x_un, x_all, x_nil, x_cons, x_nAll, x_nBin, x_eN, x_tVal, x_tTru, x_tNot, x_tAnd, x_tOr, x_eIf, x_eAnd, x_eOr, x_eNot, x_asB, x_truB, x_eC, eVar, bVar, R.bind_ok, R.bind_ex, R.bind_no, x_dl, x_dk, x_sl, x_sk, fz, frz, gN, gTupD, gCons', gNil', List.getElem?_cons_zero, List.getElem?_cons_succ, List.set_cons_zero, List.set_cons_succ, List.map_cons, List.map_nil, List.cons_append, List.nil_append, List.length_nil, List.length_cons, List.length_map, if_true, if_false, Option.bind_some, Bool.false_eq_true, Bool.not_true, Bool.not_false, Nat.reduceAdd, Nat.zero_le, opInt_i, opEq_int, opNe_int, opAdd_i, opLt_i, opLe_i, opGt_i, opGe_i, opSub_i, opLen_l, decide_true, decide_false, x_nLst, x_opTup, x_app, x_aS, x_clear, x_cS, x_try, x_tnx, x_trt, x_slice, x_asInt, x_opLst, x_raiseN, x_raiseT, x_raise]
  rw [way1 _ _ rfl rfl]
  have en := opNe_pair one two
  have el := opEq_ints lw [1]
  simp only [List.map_cons, List.map_nil] at el
  simp (disch := first | omega | (simp only [List.length_cons, List.length_nil, List.length_map, List.length_append, List.length_replicate]; omega) | decide) only [x_seq, x_nx, x_rt, x_rn, x_ex, x_bk, x_ct, x_ok, x_okN, x_okL, x_exS, x_t, x_f, x_rt', x_rf', x_set, x_ret, x_expr, x_setN, x_if, x_par, x_bin, x_un, x_all, x_nil, x_cons, x_nAll, x_nBin, x_eN, x_tVal, x_tTru, x_tNot, x_tAnd, x_tOr, x_eIf, x_eAnd, x_eOr, x_eNot, x_asB, x_truB, x_eC, eVar, bVar, R.bind_ok, R.bind_ex, R.bind_no, x_dl, x_dk, x_sl, x_sk, fz, frz, gN, gTupD, gCons', gNil', List.getElem?_cons_zero, List.getElem?_cons_succ, List.set_cons_zero, List.set_cons_succ, List.map_cons, List.map_nil, List.cons_append, List.nil_append, List.length_nil, List.length_cons, List.length_map, if_true, if_false, Option.bind_some, Bool.false_eq_true, Bool.not_true, Bool.not_false, Nat.reduceAdd, Nat.zero_le, opInt_i, opEq_int, opNe_int, opAdd_i, opLt_i, opLe_i, opGt_i, opGe_i, opSub_i, opLen_l, decide_true, decide_false, x_nLst, x_opTup, x_app, x_aS, x_clear, x_cS, x_try, x_tnx, x_trt, x_slice, x_asInt, x_opLst, x_raiseN, x_raiseT, x_raise, isq, en, el]
  rw [way2 _ rfl rfl]
  have emk : opMake (He.ga K "Quot") (f_Quot_init K) [pl oth, pl lw] = .ok (quotD K tt3 bb3) := by unfold opMake; rw [eo]; rfl
  have mt1 := met _ _ _ _ (SqD.l up).ts (SqD.l []).ts rfl (by omega) (by decide)
  have mt2 := met _ _ _ _ (SqD.l up).ts (SqD.l (List.replicate (rs.getD 7 0) 0)).ts ((tr_Tr _).nil_of fun i => by
    rw [cf_tr]
    by_cases h : i < rs.getD 7 0
    · rw [cf_get (by simpa using h)]; simp
    · rw [cf_out (by rw [List.length_replicate]; omega)]) (by omega) (by rw [List.length_replicate]; omega)
  have mt3 := met _ _ _ _ (SqD.l []).ts (SqD.t [0, 0]).ts rfl (by decide) (by decide)
  simp only [pl, pt, List.map_nil, List.map_cons] at mt1 mt2 mt3
  simp (disch := first | omega | (simp only [List.length_cons, List.length_nil, List.length_map, List.length_append, List.length_replicate]; omega) | decide) only [x_seq, x_nx, x_rt, x_rn, x_ex, x_bk, x_ct, x_ok, x_okN, x_okL, x_exS, x_t, x_f, x_rt', x_rf', x_set, x_ret, x_expr, x_setN, x_if, x_par, x_bin, x_un, x_all, x_nil, x_cons, x_nAll, x_nBin, x_eN, x_tVal, x_tTru, x_tNot, x_tAnd, x_tOr, x_eIf, x_eAnd, x_eOr, x_eNot, x_asB, x_truB, x_eC, eVar, bVar, R.bind_ok, R.bind_ex, R.bind_no, x_dl, x_dk, x_sl, x_sk, fz, frz, gN, gTupD, gCons', gNil', List.getElem?_cons_zero, List.getElem?_cons_succ, List.set_cons_zero, List.set_cons_succ, List.map_cons, List.map_nil, List.cons_append, List.nil_append, List.length_nil, List.length_cons, List.length_map, if_true, if_false, Option.bind_some, Bool.false_eq_true, Bool.not_true, Bool.not_false, Nat.reduceAdd, Nat.zero_le, opInt_i, opEq_int, opNe_int, opAdd_i, opLt_i, opLe_i, opGt_i, opGe_i, opSub_i, opLen_l, decide_true, decide_false, x_nLst, x_opTup, x_app, x_aS, x_clear, x_cS, x_try, x_tnx, x_trt, x_slice, x_asInt, x_opLst, x_raiseN, x_raiseT, x_raise, isq, eq1, ne1, ep, emk, eq2, ne2, mt1, mt2, mt3, r7, z2, opEq_ttt]
end KK
set_option Elab.async false
set_option linter.all false
set_option maxRecDepth 100000
set_option maxHeartbeats 0
namespace KK
open PySem PySem.Spec PyProof.Rows L2 DS
theorem run (w : World) : HandSHeadRun.RunEq R0 (PySem.W.view R0.prog [48]) hk ob 20000 names w := by
  intro os
  kernel_rfl
end KK
set_option Elab.async false
set_option linter.all false
set_option maxRecDepth 100000
set_option maxHeartbeats 0
open PySem PySem.W PySem.Calls PyProof.Rows
theorem PySem.Challenge.cw_turnwires_k40_one_form_of_quotients_holds : PySem.Challenge.rw_turnwires_k40_one_form_of_quotients.Holds := by
  w_on; o_law
  refine HandSHeadRun.head_any (r := OpenLaw.row PySem.Challenge.rw_turnwires_k40_one_form_of_quotients) (q := view (OpenLaw.row PySem.Challenge.rw_turnwires_k40_one_form_of_quotients).prog [48]) (H := KK.hk) (ob := KK.ob) (M := 20000) (loose := KK.names) (d := HandSHeadRun.topDef (OpenLaw.row PySem.Challenge.rw_turnwires_k40_one_form_of_quotients).prog 48) (kwd := []) KK.ob_eq
    (by kernel_rfl) (fun s => by kernel_rfl) KK.run (by kernel_rfl) (by kernel_rfl) (by kernel_rfl) (by rfl) (by first | assumption | decide +kernel) (by decide +kernel) ⟨rfl, rfl, rfl, rfl, rfl, by decide +kernel⟩ ?hw ?hc
  case hw => w_witness2
  case hc =>
    refine DS.end_ofX (l := PySem.Challenge.rw_turnwires_k40_one_form_of_quotients) (n := 63) (k := KK.level) (x := "_law_script") rfl (by decide) (by kernel_rfl) ⟨rfl, by decide, by decide⟩ ?F
    intro w mg fa K h hK c G hmg0
    have hmg : mg ("law" : PySem.Str) = some (.ref fa) := by
      have e : (HandSHeadRun.topDef (OpenLaw.row PySem.Challenge.rw_turnwires_k40_one_form_of_quotients).prog 48).name = ("law" : PySem.Str) := by kernel_rfl
      rw [← e]
      exact hmg0
    exact KK.facts hK c G hmg fun K ns _ _ => KK.law_true K ns
#print axioms PySem.Challenge.cw_turnwires_k40_one_form_of_quotients_holds
