import PyProof.Rows.All
import Wide.All
import OpenK.AllK
import Wide.FinOn
import HandS.ForExc
import HandS.Comp
import HandS.Deep
import HandS.TupAny
import HandS.TupSets
import HandS.IsInst
import HandS.HeadHook2
import HandS.Style
import PyProof.P3In
import HandS.CallSlots
import HandS.WordsExc
import HandS.Iter
import HandS.More
import HandS.Defaults
import HandS.Ends
import HandS.ExcField
import KE.KFromBytes
import HandS.TryMany
import HandS.SortInts
import HandS.TupLe
import HandS.Nested
import HandS.ClsMeth
import KE.KSuper
import HandS.HeadHook1
import HandS.HeadHook3
import HandS.Conv
import HandS.Words
import KE.DataFind
import HandS.SetFor
import PySem.Challenge.RW_packetmarks_k06_ring_of_almost_all_thing
import KE.KStateDown
import Lean
import HandS.Head0
import HandS.Head1
import HandS.Head2
import HandS.Head3
import HandS.HeadEnd
set_option Elab.async false
set_option linter.all false
set_option maxRecDepth 100000
set_option maxHeartbeats 4000000
/-! The data layer, part A: Python values as trees of data, what it is that an abstract heap bears such a tree, states, judgements. -/
namespace DL
open PySem PySem.Spec L2

/-! ### names: classes, attributes, short texts, by numbers -/
def nmT : List String := ["", "\n", " ", "-", "0", "1", "3", "9", "a", "x", "\n ", "\n-", "  ", " 0", ": ", ">2", "\n0 ", "Cut", "Way", "all", "bad", "cut", "has", "lot", "not", "put", "row", "set", "top", "way", " 9 0", "Case", "Desk", "Told", "Turn", "WORD", "back", "base", "case", "desk", "ends", "flat", "flip", "full", "good", "head", "line", "lots", "made", "many", "name", "none", "sets", "size", "span", "spin", "swap", "tell", "turn", "undo", "word", "Board", "Marks", "Order", "Trial", "_back", "_bits", "_deep", "_done", "_past", "_sets", "agree", "apart", "clash", "clear", "count", "depth", "empty", "error", "first", "fits ", "flips", "leave", "level", "limit", "loads", "marks", "other", "place", "shape", "thing", "times", "total", "unfit", "weigh", "words", "BadLot", "BadRow", "BadSet", "Broken", "Family", "Marks ", "NoDeed", "NotWay", "_links", "_loads", "_pairs", "_times", "_words", "and_in", "before", "behind", "bottom", "breaks", "broken", "change", "deeds ", "family", "inside", "is_had", "length", "levels", "marked", "number", "of_row", "on_set", "places", "put_in", "second", "things", "unlike", "untell", "BadLots", "BadSets", "BadText", "Heights", "NotFlip", "NotFull", "NotSwap", "TooMany", "_family", "_number", "and_out", "between", "deeds 0", "deeds 4", "fitting", "flipped", "heights", "outside", "packets", "reweigh", "station", "unclear", "weights", "without", " 0: none", "BadTimes", "Clashing", "NotAgree", "NotApart", "NotClear", "_numbers", "_weights", "ahead_of", "back_row", "backward", "contrary", "families", "fits 0 1", "fits 1 1", "pairs_in", "place_of", "unmarked", "unsteady", "worth_of", "BadNumber", "BadPlaces", "NotSteady", "__slots__", "_contrary", "family_at", "from_sets", "next_free", "pairs_out", "0123456789", "BadHeights", "BadWeights", "NotFitting", "NotStation", "OtherShape", "ToldTurned", "difference", "family 0 1", "family 2 0", "NotTogether", "OtherFamily", "differences", "next_forced", "with_height", "PacketsError"]
def nm (i : Nat) : Str := match nmT[i]? with
  | some s => Str.ofString s
  | none => ⟨#[i + 5000000]⟩
abbrev nms (l : List Nat) : List Str := l.map nm
def numS (s : Str) : Nat := s.cps.toList.foldl (fun a c => a * 128 + c) 1
def incr : List Nat → Bool
  | a :: b :: r => Nat.blt a b && incr (b :: r)
  | _ => true
theorem incr_lt : ∀ {l : List Nat} {i j x y : Nat}, incr l = true → i < j → l[i]? = some x → l[j]? = some y → x < y
  | [], _, _, _, _, _, _, e, _ => by simp at e
  | [a], i, j, _, _, _, h, e, f => by
    cases j with
    | zero => omega
    | succ j => simp at f
  | a :: b :: r, i, j, x, y, c, h, e, f => by
    obtain ⟨c1, c2⟩ := Bool.and_eq_true_iff.mp c
    have ab : a < b := Nat.le_of_ble_eq_true c1
    cases j with
    | zero => omega
    | succ j =>
      have f' : (b :: r)[j]? = some y := by simpa using f
      cases i with
      | zero =>
        have ea : a = x := by simpa using e
        cases j with
        | zero =>
          have eb : b = y := by simpa using f'
          omega
        | succ j =>
          have := incr_lt (i := 0) (j := j + 1) (x := b) (y := y) c2 (by omega) (by simp) f'
          omega
      | succ i => exact incr_lt (i := i) (j := j) c2 (by omega) (by simpa using e) f'
theorem nm_chk : (incr (nmT.map fun s => numS (Str.ofString s)) && nmT.all fun s => (Str.ofString s).cps.toList.all fun c => Nat.blt c 128) = true := by decide +kernel
theorem nm_out {i : Nat} {s : String} (hs : s ∈ nmT) (h : Str.ofString s = ⟨#[i + 5000000]⟩) : False := by
  have c := List.all_eq_true.mp (Bool.and_eq_true_iff.mp nm_chk).2 s hs
  rw [h] at c
  have c2 : (Nat.blt (i + 5000000) 128 && true) = true := c
  have c3 : i + 5000000 < 128 := Nat.le_of_ble_eq_true (Bool.and_eq_true_iff.mp c2).1
  omega
theorem nm_inj {i j : Nat} (h : nm i = nm j) : i = j := by
  unfold nm at h
  cases e : nmT[i]? with
  | none =>
    rw [e] at h
    cases f : nmT[j]? with
    | none =>
      rw [f] at h
      have h1 : #[i + 5000000] = #[j + 5000000] := congrArg Str.cps h
      have h2 : [i + 5000000] = [j + 5000000] := congrArg Array.toList h1
      have h3 : i + 5000000 = j + 5000000 := List.head_eq_of_cons_eq h2
      omega
    | some t =>
      rw [f] at h
      exact (nm_out (List.mem_of_getElem? f) h.symm).elim
  | some s =>
    rw [e] at h
    cases f : nmT[j]? with
    | none =>
      rw [f] at h
      exact (nm_out (List.mem_of_getElem? e) h).elim
    | some t =>
      rw [f] at h
      have h' : Str.ofString s = Str.ofString t := h
      have c := (Bool.and_eq_true_iff.mp nm_chk).1
      have ei : (nmT.map fun s => numS (Str.ofString s))[i]? = some (numS (Str.ofString s)) := by rw [List.getElem?_map, e]; rfl
      have ej : (nmT.map fun s => numS (Str.ofString s))[j]? = some (numS (Str.ofString t)) := by rw [List.getElem?_map, f]; rfl
      rw [← h'] at ej
      by_cases h1 : i < j
      · have := incr_lt c h1 ei ej
        omega
      · by_cases h2 : j < i
        · have := incr_lt c h2 ej ei
          omega
        · omega
theorem nm_beq (i j : Nat) : (nm i == nm j) = (i == j) := by
  by_cases e : i = j
  · rw [e, beq_self_eq_true, beq_self_eq_true]
  · have h1 : (i == j) = false := beq_eq_false_iff_ne.mpr e
    have h2 : (nm i == nm j) = false := beq_eq_false_iff_ne.mpr fun z => e (nm_inj z)
    rw [h1, h2]

/-- data: none, bools, ints, texts, tuples, lists, instances, sets of tuples of ints, classes, the script -/
inductive D where
  | non | bl (b : Bool) | int (i : Int) | str (x : Nat)
  | tup (l : List D) | lst (l : List D)
  | obj (c : Nat) (ns : List Nat) (ds : List D)
  | set (l : List (List Int))
  | cls (c : Nat)
  | scr (l : List Int)
  | xc (c : Nat) (ns : List Nat) (ds : List D)
  deriving Inhabited

structure Tx where
  K : PySem.W.Frag
  P : Program
  w : World
  pn : List (Addr × Obj)
abbrev tx (X : Cx) : Tx := ⟨X.K, X.prog, X.w, match X.calm with | true => [] | false => X.pn.take 1⟩

def TupAt (K : PySem.W.Frag) (B : Addr → Prop) (H : Hp) (a : Addr) (xs : List V) : Prop :=
  (H a = some (.tup xs) ∧ ¬ B a) ∨
    ∃ (o : Obj) (its : Array Value) (n : Nat), K.lookup a = some o ∧ o.cls = .type "tuple" ∧ o.data = .seq its n ∧ its.size ≤ sizeLine ∧ Vals xs its.toList
theorem TupAt.sq {K : PySem.W.Frag} {B : Addr → Prop} {H : Hp} {a : Addr} {xs : List V} (h : TupAt K B H a xs) : SqT K H a xs := by
  rcases h with ⟨h, _⟩ | h
  · exact .inl (.inl h)
  · exact .inr h

/-- a list that is only read: frozen, or the module's -/
def ScrAt (K : PySem.W.Frag) (B : Addr → Prop) (H : Hp) (a : Addr) (xs : List V) : Prop :=
  (Rd H a (.lst xs) ∧ ¬ B a) ∨
    ∃ (o : Obj) (its : Array Value) (n : Nat), K.lookup a = some o ∧ o.cls = .type "list" ∧ o.dict = none ∧ o.data = .seq its n ∧ its.size ≤ sizeLine ∧ Vals xs its.toList
theorem ScrAt.sq {K : PySem.W.Frag} {B : Addr → Prop} {H : Hp} {a : Addr} {xs : List V} (h : ScrAt K B H a xs) : SqL K H a xs := by
  rcases h with ⟨h, _⟩ | h
  · exact .inl h
  · exact .inr h

mutual
/-- the value v stands for the datum; what is barred (B) is not in it -/
def Rel (T : Tx) (B : Addr → Prop) (H : Hp) : D → V → Prop
  | .non, v => v = .non
  | .bl b, v => v = .bl b
  | .int i, v => v = .int i
  | .str x, v => v = .str (nm x)
  | .tup l, v => ∃ a vs, v = .ref a ∧ TupAt T.K B H a vs ∧ RelL T B H l vs
  | .lst l, v => ∃ a vs, v = .ref a ∧ H a = some (.lst vs) ∧ ¬ B a ∧ RelL T B H l vs
  | .obj c ns ds, v => ∃ a dx vs, v = .ref a ∧ H a = some (.ins (He.ga T.K (nm c)) dx ((nms ns).zip vs)) ∧ ¬ B a ∧ ns.length = vs.length ∧ RelL T B H ds vs
  | .set l, v => ∃ a L, v = .ref a ∧ H a = some (SetTO T.P T.w a L) ∧ ¬ B a ∧ (∀ p ∈ L, TupAt T.K B H p.1 (p.2.map V.int)) ∧ ∀ k, k ∈ L.map (·.2) ↔ k ∈ l
  | .cls c, v => v = .ref (He.ga T.K (nm c))
  | .scr l, v => ∃ a, v = .ref a ∧ ScrAt T.K B H a (l.map V.int)
  | .xc c ns ds, v => ∃ a oe dx vs, v = .ref a ∧ (a, oe) ∈ T.pn ∧ oe.cls = .ref (He.ga T.K (nm c)) ∧ oe.dict = some dx ∧ (∃ us, oe.data = .fields us) ∧ H dx = some (.xd ((nms ns).zip vs)) ∧ ¬ B dx ∧ ns.length = vs.length ∧ RelL T B H ds vs
def RelL (T : Tx) (B : Addr → Prop) (H : Hp) : List D → List V → Prop
  | [], [] => True
  | d :: ds, v :: vs => Rel T B H d v ∧ RelL T B H ds vs
  | _, _ => False
end

/-- from (B, H) to (B', H'): what is not barred stays, what is newly barred was nothing -/
structure Ext (B : Addr → Prop) (H : Hp) (B' : Addr → Prop) (H' : Hp) : Prop where
  keep : ∀ a o, H a = some o → ¬ B a → H' a = some o
  new : ∀ a, B' a → B a ∨ H a = none

theorem Ext.bar {B B' : Addr → Prop} {H H' : Hp} (e : Ext B H B' H') {a : Addr} {o : HO} (h : H a = some o) (n : ¬ B a) : ¬ B' a := fun b => by
  rcases e.new a b with c | c
  · exact n c
  · rw [h] at c; cases c
theorem Ext.trans {B B1 B2 : Addr → Prop} {H H1 H2 : Hp} (a : Ext B H B1 H1) (b : Ext B1 H1 B2 H2) (live : ∀ c o, H c = some o → ∃ o', H1 c = some o') : Ext B H B2 H2 :=
  ⟨fun c o h n => b.keep c o (a.keep c o h n) (a.bar h n), fun c h => by
    rcases b.new c h with h | h
    · exact a.new c h
    · cases e : H c with
      | none => exact .inr rfl
      | some o =>
        obtain ⟨o', e'⟩ := live c o e
        rw [h] at e'; cases e'⟩

theorem TupAt.ext {K : PySem.W.Frag} {B B' : Addr → Prop} {H H' : Hp} {a : Addr} {xs : List V} (e : Ext B H B' H') (h : TupAt K B H a xs) : TupAt K B' H' a xs := by
  rcases h with ⟨h, n⟩ | h
  · exact .inl ⟨e.keep _ _ h n, e.bar h n⟩
  · exact .inr h
theorem ScrAt.ext {K : PySem.W.Frag} {B B' : Addr → Prop} {H H' : Hp} {a : Addr} {xs : List V} (e : Ext B H B' H') (h : ScrAt K B H a xs) : ScrAt K B' H' a xs := by
  rcases h with ⟨h | ⟨o, h⟩, n⟩ | h
  · exact .inl ⟨.inl (e.keep _ _ h n), e.bar h n⟩
  · exact .inl ⟨.inr ⟨o, e.keep _ _ h n⟩, e.bar h n⟩
  · exact .inr h
mutual
theorem Rel.ext {T : Tx} {B B' : Addr → Prop} {H H' : Hp} (e : Ext B H B' H') : ∀ (d : D) {v : V}, Rel T B H d v → Rel T B' H' d v
  | .non, _, h => h
  | .bl _, _, h => h
  | .int _, _, h => h
  | .str _, _, h => h
  | .tup l, _, h => by
    obtain ⟨a, vs, e1, e2, e3⟩ := h
    exact ⟨a, vs, e1, e2.ext e, RelL.ext e l e3⟩
  | .lst l, _, h => by
    obtain ⟨a, vs, e1, e2, e3, e4⟩ := h
    exact ⟨a, vs, e1, e.keep _ _ e2 e3, e.bar e2 e3, RelL.ext e l e4⟩
  | .obj c ns ds, _, h => by
    obtain ⟨a, dx, vs, e1, e2, e3, e4, e5⟩ := h
    exact ⟨a, dx, vs, e1, e.keep _ _ e2 e3, e.bar e2 e3, e4, RelL.ext e ds e5⟩
  | .set l, _, h => by
    obtain ⟨a, L, e1, e2, e3, e4, e5⟩ := h
    exact ⟨a, L, e1, e.keep _ _ e2 e3, e.bar e2 e3, fun p hp => (e4 p hp).ext e, e5⟩
  | .cls _, _, h => h
  | .scr l, _, h => by
    obtain ⟨a, e1, e2⟩ := h
    exact ⟨a, e1, e2.ext e⟩
  | .xc c ns ds, _, h => by
    obtain ⟨a, oe, dx, vs, e1, e2, e3, e4, e5, e6, e7, e8, e9⟩ := h
    exact ⟨a, oe, dx, vs, e1, e2, e3, e4, e5, e.keep _ _ e6 e7, e.bar e6 e7, e8, RelL.ext e ds e9⟩
theorem RelL.ext {T : Tx} {B B' : Addr → Prop} {H H' : Hp} (e : Ext B H B' H') : ∀ (ds : List D) {vs : List V}, RelL T B H ds vs → RelL T B' H' ds vs
  | [], [], _ => trivial
  | [], _ :: _, h => h.elim
  | _ :: _, [], h => h.elim
  | d :: ds, v :: vs, h => ⟨Rel.ext e d h.1, RelL.ext e ds h.2⟩
end

theorem RelL.length {T : Tx} {B : Addr → Prop} {H : Hp} : ∀ {ds : List D} {vs : List V}, RelL T B H ds vs → ds.length = vs.length
  | [], [], _ => rfl
  | [], _ :: _, h => h.elim
  | _ :: _, [], h => h.elim
  | _ :: _, _ :: _, h => congrArg Nat.succ (RelL.length h.2)
theorem RelL.get {T : Tx} {B : Addr → Prop} {H : Hp} : ∀ {ds : List D} {vs : List V} {i : Nat} {d : D}, RelL T B H ds vs → ds[i]? = some d → ∃ v, vs[i]? = some v ∧ Rel T B H d v
  | [], [], _, _, _, e => by simp at e
  | [], _ :: _, _, _, h, _ => h.elim
  | _ :: _, [], _, _, h, _ => h.elim
  | d :: _, v :: _, 0, x, h, e => by
    have e' : d = x := by simpa using e
    subst e'
    exact ⟨v, rfl, h.1⟩
  | _ :: _, _ :: _, i + 1, x, h, e => by
    obtain ⟨v, e1, e2⟩ := RelL.get (i := i) (d := x) h.2 (by simpa using e)
    exact ⟨v, by simpa using e1, e2⟩
theorem RelL.append {T : Tx} {B : Addr → Prop} {H : Hp} : ∀ {ds : List D} {vs : List V} {es : List D} {ws : List V}, RelL T B H ds vs → RelL T B H es ws → RelL T B H (ds ++ es) (vs ++ ws)
  | [], [], _, _, _, h => h
  | [], _ :: _, _, _, h, _ => h.elim
  | _ :: _, [], _, _, h, _ => h.elim
  | _ :: _, _ :: _, _, _, h, k => ⟨h.1, RelL.append h.2 k⟩
theorem RelL.take {T : Tx} {B : Addr → Prop} {H : Hp} : ∀ {ds : List D} {vs : List V} (n : Nat), RelL T B H ds vs → RelL T B H (ds.take n) (vs.take n)
  | _, _, 0, _ => by simp only [List.take_zero]; trivial
  | [], [], _ + 1, _ => trivial
  | [], _ :: _, _, h => h.elim
  | _ :: _, [], _, h => h.elim
  | _ :: _, _ :: _, n + 1, h => ⟨h.1, RelL.take n h.2⟩
theorem RelL.drop {T : Tx} {B : Addr → Prop} {H : Hp} : ∀ {ds : List D} {vs : List V} (n : Nat), RelL T B H ds vs → RelL T B H (ds.drop n) (vs.drop n)
  | _, _, 0, h => h
  | [], [], _ + 1, _ => trivial
  | [], _ :: _, _, h => h.elim
  | _ :: _, [], _, h => h.elim
  | _ :: _, _ :: _, n + 1, h => RelL.drop n h.2
theorem RelL.reverse {T : Tx} {B : Addr → Prop} {H : Hp} : ∀ {ds : List D} {vs : List V}, RelL T B H ds vs → RelL T B H ds.reverse vs.reverse
  | [], [], _ => trivial
  | [], _ :: _, h => h.elim
  | _ :: _, [], h => h.elim
  | _ :: _, _ :: _, h => by
    rw [List.reverse_cons, List.reverse_cons]
    exact (RelL.reverse h.2).append ⟨h.1, trivial⟩

/-! ### states -/
abbrev En := List (Option D)
/-- what a piece of code ends in -/
inductive R (α : Type) where
  | ok (a : α) (env : En) | err (c : Nat) (ns : List Nat) (ds : List D) (env : En) | stuck
abbrev M (α : Type) := En → R α
@[inline] def R.bind {α β : Type} (r : R α) (k : α → En → R β) : R β := match r with
  | .ok a env => k a env
  | .err c ns ds env => .err c ns ds env
  | .stuck => .stuck
@[inline] def M.bind {α β : Type} (m : M α) (k : α → M β) : M β := fun env => (m env).bind k
@[inline] def M.pure {α : Type} (a : α) : M α := fun env => .ok a env
@[inline] def M.of {α : Type} (o : Option α) : M α := fun env => match o with
  | some a => .ok a env
  | none => .stuck

/-- what v at a cell of ours holds -/
def Cell (T : Tx) (B W : Addr → Prop) (H : Hp) : D → V → Prop
  | .lst l, v => ∃ a vs, v = .ref a ∧ W a ∧ H a = some (.lst vs) ∧ RelL T B H l vs
  | .obj c ns ds, v => ∃ a dx vs, v = .ref a ∧ W a ∧ H a = some (.ins (He.ga T.K (nm c)) dx ((nms ns).zip vs)) ∧ ns.length = vs.length ∧ RelL T B H ds vs
  | _, _ => False
/-- what is barred by others; what stands in the slots that stay (cells handed in) -/
structure Br where
  b : Addr → Prop
  fx : Nat → Option V
/-- the slots that hold our own cells; those of them that never change (handed in) -/
structure Ms where
  mu : List Nat
  io : List Nat
def Ms.contains (m : Ms) (i : Nat) : Bool := m.mu.contains i
def Bar (B : Br) (W : Addr → Prop) : Addr → Prop := fun a => B.b a ∨ W a
/-- the state bears the environment: slots in ms are our own cells (W), all others are as they are for ever -/
structure Ok (T : Tx) (ms : Ms) (B : Br) (W : Addr → Prop) (env : En) (σ : St) (H : Hp) : Prop where
  len : σ.length = env.length
  wf : ∀ a, Bar B W a → ∃ o, H a = some o
  sl : ∀ i d, ms.contains i = false → env[i]? = some (some d) → ∃ v, σ[i]? = some (some v) ∧ Rel T (Bar B W) H d v
  mu : ∀ i d, ms.contains i = true → env[i]? = some (some d) → ∃ v, σ[i]? = some (some v) ∧ Cell T (Bar B W) W H d v
  dj : ∀ i j d e a, ms.contains i = true → ms.contains j = true → i ≠ j → env[i]? = some (some d) → env[j]? = some (some e) → σ[i]? = some (some (.ref a)) → σ[j]? = some (some (.ref a)) → False
  fx : ∀ i v, B.fx i = some v → ms.io.contains i = true ∧ ms.contains i = true ∧ σ[i]? = some (some v) ∧ ∃ d, env[i]? = some (some d)
/-- a step: what is not our own stays -/
structure Nxt (W : Addr → Prop) (H : Hp) (W' : Addr → Prop) (H' : Hp) : Prop where
  keep : ∀ a o, H a = some o → ¬ W a → H' a = some o
  new : ∀ a, W' a → W a ∨ H a = none
  live : ∀ a o, H a = some o → ∃ o', H' a = some o'
theorem Nxt.ext {B : Br} {W W' : Addr → Prop} {H H' : Hp} (n : Nxt W H W' H') : Ext (Bar B W) H (Bar B W') H' :=
  ⟨fun a o h k => n.keep a o h fun w => k (.inr w), fun a b => by
    rcases b with b | b
    · exact .inl (.inl b)
    · rcases n.new a b with c | c
      · exact .inl (.inr c)
      · exact .inr c⟩
theorem Nxt.refl (W : Addr → Prop) (H : Hp) : Nxt W H W H := ⟨fun _ _ h _ => h, fun _ h => .inl h, fun _ o h => ⟨o, h⟩⟩
theorem Nxt.trans {W W1 W2 : Addr → Prop} {H H1 H2 : Hp} (a : Nxt W H W1 H1) (b : Nxt W1 H1 W2 H2) : Nxt W H W2 H2 where
  keep := fun c o h n => b.keep c o (a.keep c o h n) fun w => by
    rcases a.new c w with z | z
    · exact n z
    · rw [h] at z; cases z
  new := fun c h => by
    rcases b.new c h with h | h
    · exact a.new c h
    · cases e : H c with
      | none => exact .inr rfl
      | some o =>
        obtain ⟨o', e'⟩ := a.live c o e
        rw [h] at e'; cases e'
  live := fun c o h => by
    obtain ⟨o1, h1⟩ := a.live c o h
    exact b.live c o1 h1
theorem Nxt.same {W : Addr → Prop} {H H' : Hp} (s : Same H H') : Nxt W H W H' := ⟨fun a o h _ => s a o h, fun _ h => .inl h, fun a o h => ⟨o, s a o h⟩⟩
theorem Ext.same {B : Addr → Prop} {H H' : Hp} (s : Same H H') : Ext B H B H' := ⟨fun a o h _ => s a o h, fun _ h => .inl h⟩
theorem Same.upd {H : Hp} {p : Addr} {o : HO} (h : H p = none) : Same H (upd H p o) := fun a u e => by
  rw [upd_ne (ne_of_none e h)]
  exact e
theorem Cell.ext {T : Tx} {B B' W W' : Addr → Prop} {H H' : Hp} (e : Ext B H B' H') (k : ∀ a o, W a → H a = some o → W' a ∧ H' a = some o) : ∀ {d : D} {v : V}, Cell T B W H d v → Cell T B' W' H' d v
  | .lst l, _, h => by
    obtain ⟨a, vs, e1, e2, e3, e4⟩ := h
    obtain ⟨k1, k2⟩ := k a _ e2 e3
    exact ⟨a, vs, e1, k1, k2, RelL.ext e l e4⟩
  | .obj c ns ds, _, h => by
    obtain ⟨a, dx, vs, e1, e2, e3, e4, e5⟩ := h
    obtain ⟨k1, k2⟩ := k a _ e2 e3
    exact ⟨a, dx, vs, e1, k1, k2, e4, RelL.ext e ds e5⟩
  | .non, _, h => h.elim
  | .bl _, _, h => h.elim
  | .int _, _, h => h.elim
  | .str _, _, h => h.elim
  | .tup _, _, h => h.elim
  | .set _, _, h => h.elim
  | .cls _, _, h => h.elim
  | .scr _, _, h => h.elim
  | .xc _ _ _, _, h => h.elim
section
variable {T : Tx} {ms : Ms} {B : Br} {W : Addr → Prop} {env : En} {σ : St} {H H' : Hp}
/-- objects come, nothing changes -/
theorem Ok.same (k : Ok T ms B W env σ H) (s : Same H H') : Ok T ms B W env σ H' :=
  ⟨k.len, fun a b => by
      obtain ⟨o, e⟩ := k.wf a b
      exact ⟨o, s a o e⟩,
    fun i d h e => by
      obtain ⟨v, e1, e2⟩ := k.sl i d h e
      exact ⟨v, e1, Rel.ext (.same s) d e2⟩,
    fun i d h e => by
      obtain ⟨v, e1, e2⟩ := k.mu i d h e
      exact ⟨v, e1, e2.ext (.same s) fun a o w h => ⟨w, s a o h⟩⟩, k.dj, k.fx⟩
end
end DL

set_option Elab.async false
set_option linter.all false
set_option maxRecDepth 100000
set_option maxHeartbeats 4000000
namespace DL
open PySem PySem.Spec L2

/-! ### the widest readings -/
def tm (X : Cx) (e : Expr) : TE := fun σ H Q => ∀ pins s, Inv X pins σ H s → wpAny (model X.prog X.w) X.A (eval e X.env) (EP X pins σ Q) X.xe s
theorem pe_tm {X : Cx} {e : Expr} : PE X e (tm X e) := ⟨fun pins s _ _ _ I h => h pins s I⟩
theorem PE.tm {X : Cx} {e : Expr} {t : TE} (h : PE X e t) {σ : St} {H : Hp} {Q : VK} (q : t σ H Q) : DL.tm X e σ H Q := fun pins s I => h.run pins s σ H Q I q
def tmT (X : Cx) (e : Expr) : TT := fun σ H Q => ∀ pins s, Inv X pins σ H s → wpAny (model X.prog X.w) X.A (isTrue e X.env (eval e X.env)) (TP X pins σ Q) X.xe s
theorem pt_tm {X : Cx} {e : Expr} : PT X e (tmT X e) := ⟨fun pins s _ _ _ I h => h pins s I⟩
theorem PT.tm {X : Cx} {e : Expr} {t : TT} (h : PT X e t) {σ : St} {H : Hp} {Q : Bool → Hp → Prop} (q : t σ H Q) : tmT X e σ H Q := fun pins s I => h.run pins s σ H Q I q
/-- the widest of a chain of and, or -/
def tmW (X : Cx) (e : Expr) : TT := fun σ H Q => ∀ (whole : Sem Value) pins s, Inv X pins σ H s → wpAny (model X.prog X.w) X.A (isTrue e X.env whole) (TP X pins σ Q) X.xe s
theorem pw_tm {X : Cx} {e : Expr} : PW X e (tmW X e) := ⟨fun w pins s _ _ _ I h => h w pins s I⟩
theorem PW.tm {X : Cx} {e : Expr} {t : TT} (h : PW X e t) {σ : St} {H : Hp} {Q : Bool → Hp → Prop} (q : t σ H Q) : tmW X e σ H Q := fun w pins s I => h.run w pins s σ H Q I q
def tmA (X : Cx) (es : List Expr) : TA := fun σ H Q => ∀ pos pins s, Inv X pins σ H s → wpAny (model X.prog X.w) X.A (spliced (backTo pos (starEach es X.env))) (AP X pins σ Q) X.xe s
theorem pa_tm {X : Cx} {es : List Expr} : PA X es (tmA X es) := ⟨fun pos pins s _ _ _ I h => h pos pins s I⟩
theorem PA.tm {X : Cx} {es : List Expr} {t : TA} (h : PA X es t) {σ : St} {H : Hp} {Q : List V → Hp → Prop} (q : t σ H Q) : tmA X es σ H Q := fun pos pins s I => h.run pos pins s σ H Q I q

/-! ### what is to be shown behind a result -/
/-- of a result a, its value v, at the slots, the environment, the heap ahead, what is barred, our own, the heap -/
structure Rk (T : Tx) (α β : Type) where
  r : St → En → Hp → Br → (Addr → Prop) → Hp → α → β → Prop
  mono : ∀ {σ : St} {env : En} {H0 H1 : Hp} {B : Br} {W : Addr → Prop} {H : Hp} {a : α} {v : β}, (∀ c, H1 c = none → H0 c = none) → r σ env H1 B W H a v → r σ env H0 B W H a v
def rkD (T : Tx) : Rk T D V := ⟨fun _ _ _ B W H d v => Rel T (Bar B W) H d v, fun _ h => h⟩
/-- the same, but a list may be a cell of ours: read now, kept by nobody -/
def Wk (T : Tx) (B : Addr → Prop) (H : Hp) : D → V → Prop
  | .lst l, v => ∃ a vs, v = .ref a ∧ H a = some (.lst vs) ∧ RelL T B H l vs
  | .obj c ns ds, v => ∃ a dx vs, v = .ref a ∧ H a = some (.ins (He.ga T.K (nm c)) dx ((nms ns).zip vs)) ∧ ns.length = vs.length ∧ RelL T B H ds vs
  | d, v => Rel T B H d v
theorem Rel.wk {T : Tx} {B : Addr → Prop} {H : Hp} {d : D} {v : V} (r : Rel T B H d v) : Wk T B H d v := by
  cases d with
  | lst l =>
    obtain ⟨a, vs, e1, e2, _, e3⟩ := r
    exact ⟨a, vs, e1, e2, e3⟩
  | obj c ns ds =>
    obtain ⟨a, dx, vs, e1, e2, _, e3⟩ := r
    exact ⟨a, dx, vs, e1, e2, e3⟩
  | _ => exact r
def rkW (T : Tx) : Rk T D V := ⟨fun _ _ _ B W H d v => Wk T (Bar B W) H d v, fun _ h => h⟩
def rkB (T : Tx) : Rk T Bool Bool := ⟨fun _ _ _ _ _ _ a v => v = a, fun _ h => h⟩
def rkL (T : Tx) : Rk T (List D) (List V) := ⟨fun _ _ _ B W H ds vs => RelL T (Bar B W) H ds vs, fun _ h => h⟩
/-- a new list of our own -/
def Fresh (T : Tx) (ms : Ms) (σ : St) (env : En) (H0 : Hp) (B : Br) (W : Addr → Prop) (H : Hp) (d : D) (v : V) : Prop :=
  ∃ a vs l, d = .lst l ∧ v = .ref a ∧ W a ∧ H0 a = none ∧ H a = some (.lst vs) ∧ RelL T (Bar B W) H l vs ∧ ∀ i e, ms.contains i = true → env[i]? = some (some e) → σ[i]? ≠ some (some (.ref a))
def rkF (T : Tx) (ms : Ms) : Rk T D V := ⟨fun σ env H0 B W H d v => Fresh T ms σ env H0 B W H d v, fun k ⟨a, vs, l, e1, e2, e3, e4, e5⟩ => ⟨a, vs, l, e1, e2, e3, k a e4, e5⟩⟩
/-- a list of our own, not one handed in, as a def's answer -/
def rkR (T : Tx) : Rk T D V := ⟨fun _ _ _ B W H d v => ∃ a vs l, d = .lst l ∧ v = .ref a ∧ W a ∧ H a = some (.lst vs) ∧ RelL T (Bar B W) H l vs ∧ ∀ i w, B.fx i = some w → w ≠ .ref a, fun _ h => h⟩

def Po {α β : Type} (T : Tx) (Wx : WX) (ms : Ms) (B : Br) (W : Addr → Prop) (σ : St) (H : Hp) (k : Rk T α β) (r : R α) (Q : β → Hp → Prop) : Prop := match r with
  | .ok a env' => ∀ W' H' v, Nxt W H W' H' → Ok T ms B W' env' σ H' → k.r σ env' H B W' H' a v → Q v H'
  | .err c ns ds env' => ∀ W' H' dx vs, Nxt W H W' H' → Ok T ms B W' env' σ H' → H dx = none → H' dx = some (.xd ((nms ns).zip vs)) → ns.length = vs.length → RelL T (Bar B W') H' ds vs → Wx (.ref (He.ga T.K (nm c))) (some dx) σ H'
  | .stuck => False

section
variable {T : Tx} {Wx : WX} {ms : Ms} {B : Br} {W : Addr → Prop} {env : En} {σ : St} {H : Hp} {α β γ δ : Type}
theorem Nxt.back {W W' : Addr → Prop} {H H' : Hp} (n : Nxt W H W' H') (c : Addr) (h : H' c = none) : H c = none := by
  cases e : H c with
  | none => rfl
  | some o =>
    obtain ⟨o', e'⟩ := n.live c o e
    rw [h] at e'; cases e'
theorem Po.step {k : Rk T α β} {r : R α} {Q : β → Hp → Prop} {W1 : Addr → Prop} {H1 : Hp} (h : Po T Wx ms B W σ H k r Q) (n : Nxt W H W1 H1) : Po T Wx ms B W1 σ H1 k r Q := by
  cases r with
  | ok a env' => exact fun W' H' v n' o z => h W' H' v (n.trans n') o (k.mono n.back z)
  | err c ns ds env' => exact fun W' H' dx vs n' o z1 z2 z3 z4 => h W' H' dx vs (n.trans n') o (n.back _ z1) z2 z3 z4
  | stuck => exact h
theorem Po.cont {k1 : Rk T α β} {k2 : Rk T γ δ} {r : R α} {f : α → En → R γ} {Q2 : δ → Hp → Prop} {Q1 : β → Hp → Prop} (h : Po T Wx ms B W σ H k2 (r.bind f) Q2)
    (g : ∀ a env' W' H' v, Nxt W H W' H' → Ok T ms B W' env' σ H' → k1.r σ env' H B W' H' a v → Po T Wx ms B W' σ H' k2 (f a env') Q2 → Q1 v H') : Po T Wx ms B W σ H k1 r Q1 := by
  cases r with
  | ok a env' => exact fun W' H' v n o z => g a env' W' H' v n o z (Po.step (r := f a env') h n)
  | err c ns ds env' => exact h
  | stuck => exact h
/-- a result that stands already -/
theorem Po.done {k : Rk T α β} {a : α} {v : β} {Q : β → Hp → Prop} (h : Po T Wx ms B W σ H k (.ok a env) Q) (o : Ok T ms B W env σ H) (z : k.r σ env H B W H a v) : Q v H := h W H v (Nxt.refl W H) o z
theorem Po.same {k : Rk T α β} {a : α} {v : β} {Q : β → Hp → Prop} {H' : Hp} (h : Po T Wx ms B W σ H k (.ok a env) Q) (o : Ok T ms B W env σ H) (s : Same H H') (z : k.r σ env H B W H' a v) : Q v H' := h W H' v (Nxt.same s) (o.same s) z
theorem Ok.cellAt {i : Nat} {a : Addr} {d : D} (o : Ok T ms B W env σ H) (hi : ms.contains i = true) (he : env[i]? = some (some d)) (hs : σ[i]? = some (some (.ref a))) : W a ∧ ∃ u, H a = some u := by
  obtain ⟨v, e1, e2⟩ := o.mu i d hi he
  rw [hs] at e1
  have e3 := Option.some.inj (Option.some.inj e1)
  subst e3
  cases d with
  | lst l =>
    obtain ⟨b, vs, e4, e5, e6, _⟩ := e2
    cases e4
    exact ⟨e5, _, e6⟩
  | obj c ns ds =>
    obtain ⟨b, dx, vs, e4, e5, e6, _⟩ := e2
    cases e4
    exact ⟨e5, _, e6⟩
  | _ => exact e2.elim
/-- our own cells: more of them, fewer of them -/
theorem Ok.more {p : Addr} {u : HO} (o : Ok T ms B W env σ H) (hp : H p = none) : Ok T ms B (fun c => W c ∨ c = p) env σ (upd H p u) := by
  have ex : Ext (Bar B W) H (Bar B fun c => W c ∨ c = p) (upd H p u) := ⟨fun c z h _ => Same.upd hp c z h, fun c z => by
    rcases z with z | z | z
    · exact .inl (.inl z)
    · exact .inl (.inr z)
    · exact .inr (by rw [z]; exact hp)⟩
  refine ⟨o.len, fun c z => ?_, fun i d h e => ?_, fun i d h e => ?_, o.dj, o.fx⟩
  · rcases z with z | z | z
    · obtain ⟨q, e⟩ := o.wf c (.inl z)
      exact ⟨q, Same.upd hp c q e⟩
    · obtain ⟨q, e⟩ := o.wf c (.inr z)
      exact ⟨q, Same.upd hp c q e⟩
    · exact ⟨u, by rw [z]; exact upd_same⟩
  · obtain ⟨v, e1, e2⟩ := o.sl i d h e
    exact ⟨v, e1, Rel.ext ex d e2⟩
  · obtain ⟨v, e1, e2⟩ := o.mu i d h e
    exact ⟨v, e1, e2.ext ex fun c z w h => ⟨.inl w, Same.upd hp c z h⟩⟩
theorem Ok.less {a : Addr} (o : Ok T ms B W env σ H) (f : ∀ i e, ms.contains i = true → env[i]? = some (some e) → σ[i]? ≠ some (some (.ref a))) : Ok T ms B (fun c => W c ∧ c ≠ a) env σ H := by
  have ex : Ext (Bar B W) H (Bar B fun c => W c ∧ c ≠ a) H := ⟨fun c z h _ => h, fun c z => by
    rcases z with z | z
    · exact .inl (.inl z)
    · exact .inl (.inr z.1)⟩
  refine ⟨o.len, fun c z => ?_, fun i d h e => ?_, fun i d h e => ?_, o.dj, o.fx⟩
  · rcases z with z | z
    · exact o.wf c (.inl z)
    · exact o.wf c (.inr z.1)
  · obtain ⟨v, e1, e2⟩ := o.sl i d h e
    exact ⟨v, e1, Rel.ext ex d e2⟩
  · obtain ⟨v, e1, e2⟩ := o.mu i d h e
    refine ⟨v, e1, ?_⟩
    cases d with
    | lst l =>
      obtain ⟨b, vs, rfl, e5, e6, e7⟩ := e2
      refine ⟨b, vs, rfl, ⟨e5, fun z => f i _ h e (by rw [e1, z])⟩, e6, RelL.ext ex _ e7⟩
    | obj c ns ds =>
      obtain ⟨b, dx, vs, rfl, e5, e6, e7, e8⟩ := e2
      refine ⟨b, dx, vs, rfl, ⟨e5, fun z => f i _ h e (by rw [e1, z])⟩, e6, e7, RelL.ext ex _ e8⟩
    | _ => exact e2.elim
/-- a new list comes -/
theorem Po.made {p : Addr} {vs : List V} {l : List D} {Q : VK} (h : Po T Wx ms B W σ H (rkF T ms) (.ok (.lst l) env) Q) (o : Ok T ms B W env σ H) (hp : H p = none) (r : RelL T (Bar B W) H l vs) : Q (.ref p) (upd H p (.lst vs)) := by
  have ex : Ext (Bar B W) H (Bar B fun c => W c ∨ c = p) (upd H p (.lst vs)) := ⟨fun c z h _ => Same.upd hp c z h, fun c z => by
    rcases z with z | z | z
    · exact .inl (.inl z)
    · exact .inl (.inr z)
    · exact .inr (by rw [z]; exact hp)⟩
  refine h (fun c => W c ∨ c = p) (upd H p (.lst vs)) (.ref p) ⟨fun c z h _ => Same.upd hp c z h, fun c z => ?_, fun c z h => ⟨z, Same.upd hp c z h⟩⟩ (o.more hp) ⟨p, vs, l, rfl, rfl, .inr rfl, hp, upd_same, RelL.ext ex l r, fun i e hi he hs => ?_⟩
  · rcases z with z | z
    · exact .inl z
    · exact .inr (by rw [z]; exact hp)
  · obtain ⟨_, u, hu⟩ := o.cellAt hi he hs
    rw [hp] at hu; cases hu
end

/-! ### judgements -/
section
variable (X : Cx) (Wx : WX) (ms : Ms)
def DE (e : Expr) (f : M D) : Prop := ∀ B W env σ H Q, Ok (tx X) ms B W env σ H → Po (tx X) Wx ms B W σ H (rkD (tx X)) (f env) Q → tm X e σ H Q
def DF (e : Expr) (f : M D) : Prop := ∀ B W env σ H Q, Ok (tx X) ms B W env σ H → Po (tx X) Wx ms B W σ H (rkF (tx X) ms) (f env) Q → tm X e σ H Q
def DK (e : Expr) (f : M D) : Prop := ∀ B W env σ H Q, Ok (tx X) ms B W env σ H → Po (tx X) Wx ms B W σ H (rkW (tx X)) (f env) Q → tm X e σ H Q
def DT (e : Expr) (f : M Bool) : Prop := ∀ B W env σ H Q, Ok (tx X) ms B W env σ H → Po (tx X) Wx ms B W σ H (rkB (tx X)) (f env) Q → tmT X e σ H Q
def DW (e : Expr) (f : M Bool) : Prop := ∀ B W env σ H Q, Ok (tx X) ms B W env σ H → Po (tx X) Wx ms B W σ H (rkB (tx X)) (f env) Q → tmW X e σ H Q
def DA (es : List Expr) (f : M (List D)) : Prop := ∀ B W env σ H Q, Ok (tx X) ms B W env σ H → Po (tx X) Wx ms B W σ H (rkL (tx X)) (f env) Q → tmA X es σ H Q
end
section
variable {X : Cx} {Wx : WX} {ms : Ms}
theorem DF.de {e : Expr} {f : M D} (h : DF X Wx ms e f) : DE X Wx ms e f := fun B W env σ H Q o p => h B W env σ H Q o (by
  cases q : f env with
  | ok a env' =>
    rw [q] at p
    intro W' H' v n o' z
    obtain ⟨c, vs, l, rfl, rfl, hw, h0, hl, rl, hf⟩ := z
    refine p (fun b => W' b ∧ b ≠ c) H' _ ⟨n.keep, fun b w => n.new b w.1, n.live⟩ (o'.less hf) ⟨c, vs, rfl, hl, fun b => ?_, RelL.ext ⟨fun b u h _ => h, fun b w => ?_⟩ l rl⟩
    · rcases b with b | b
      · obtain ⟨u, e⟩ := o.wf c (.inl b)
        rw [h0] at e; cases e
      · exact b.2 rfl
    · rcases w with w | w
      · exact .inl (.inl w)
      · exact .inl (.inr w.1)
  | err c ns ds env' =>
    rw [q] at p
    exact p
  | stuck =>
    rw [q] at p
    exact p)

theorem DE.dk {e : Expr} {f : M D} (h : DE X Wx ms e f) : DK X Wx ms e f := fun B W env σ H Q o p => h B W env σ H Q o (by
  cases q : f env with
  | ok a env' =>
    rw [q] at p
    exact fun W' H' v n o' z => p W' H' v n o' (Rel.wk z)
  | err c ns ds env' =>
    rw [q] at p
    exact p
  | stuck =>
    rw [q] at p
    exact p)

/-! ### names, constants -/
def vVar (i : Nat) : M D := fun env => match env[i]? with
  | some (some d) => .ok d env
  | _ => .stuck
def vC (d : D) : M D := fun env => .ok d env
theorem tm_pure {e : Expr} {t : TE} {v : V} {σ : St} {H : Hp} {Q : VK} (h : PE X e t) (q : t σ H Q) : tm X e σ H Q := PE.tm h q
theorem de_var (i : Nat) {x : Str} {pos : Pos} (hm : ms.contains i = false := by rfl) (hN : X.N[i]? = some x := by rfl) (hv : Vis X.env.scope x := by first | exact Or.inl rfl | exact Or.inr (Or.inl rfl) | exact Or.inr (Or.inr rfl))
    (hd : (x == ("__debug__" : Str)) = false := by decide) (hcd : (x == ("__classdict__" : Str)) = false := by decide) : DE X Wx ms (.Name x pos) (vVar i) := by
  intro B W env σ H Q o p
  unfold vVar at p
  cases q : env[i]? with
  | none =>
    rw [q] at p
    exact p.elim
  | some z =>
    cases z with
    | none =>
      rw [q] at p
      exact p.elim
    | some d =>
      rw [q] at p
      obtain ⟨v, e1, e2⟩ := o.sl i d hm q
      exact PE.tm (pe_var hN hv hd hcd) ⟨v, e1, Po.done p o e2⟩
/-- a list of our own, read -/
theorem dk_var (i : Nat) {x : Str} {pos : Pos} (hm : ms.contains i = true := by rfl) (hN : X.N[i]? = some x := by rfl) (hv : Vis X.env.scope x := by first | exact Or.inl rfl | exact Or.inr (Or.inl rfl) | exact Or.inr (Or.inr rfl))
    (hd : (x == ("__debug__" : Str)) = false := by decide) (hcd : (x == ("__classdict__" : Str)) = false := by decide) : DK X Wx ms (.Name x pos) (vVar i) := by
  intro B W env σ H Q o p
  unfold vVar at p
  cases q : env[i]? with
  | none =>
    rw [q] at p
    exact p.elim
  | some z =>
    cases z with
    | none =>
      rw [q] at p
      exact p.elim
    | some d =>
      rw [q] at p
      obtain ⟨v, e1, e2⟩ := o.mu i d hm q
      cases d with
      | lst l =>
        obtain ⟨a, vs, e3, _, e4, e5⟩ := e2
        exact PE.tm (pe_var hN hv hd hcd) ⟨v, e1, Po.done p o ⟨a, vs, e3, e4, e5⟩⟩
      | obj c ns ds =>
        obtain ⟨a, dx, vs, e3, e4, e5, e6, e7⟩ := e2
        exact PE.tm (pe_var hN hv hd hcd) ⟨v, e1, Po.done p o ⟨a, dx, vs, e3, e5, e6, e7⟩⟩
      | _ => exact e2.elim
theorem de_int {i : Int} {j pos} : DE X Wx ms (.Constant (.int i) j pos) (vC (.int i)) := fun B W env σ H Q o p => PE.tm pe_int (Po.done (v := V.int i) p o rfl)
theorem de_bl {b j pos} : DE X Wx ms (.Constant (.bool b) j pos) (vC (.bl b)) := fun B W env σ H Q o p => PE.tm pe_bl (Po.done (v := V.bl b) p o rfl)
theorem de_non {j pos} : DE X Wx ms (.Constant .none j pos) (vC .non) := fun B W env σ H Q o p => PE.tm pe_non (Po.done (v := V.non) p o rfl)
theorem de_str (i : Nat) {x : Str} {j pos} (h : nm i = x := by rfl) : DE X Wx ms (.Constant (.str x) j pos) (vC (.str i)) := fun B W env σ H Q o p => by
  subst h
  exact PE.tm pe_str (Po.done (v := V.str (nm i)) p o rfl)
theorem de_glob {x : Str} {pos : Pos} {i : Int} (hg : Gl X x) (h : ∃ t, X.mg x = some (.int i t)) (hd : (x == ("__debug__" : Str)) = false := by decide) : DE X Wx ms (.Name x pos) (vC (.int i)) := fun B W env σ H Q o p => by
  obtain ⟨t, hm⟩ := h
  exact PE.tm (pe_glob (v := .int i) hg hm ⟨t, rfl⟩ hd) (Po.done (v := V.int i) p o rfl)
theorem de_cls (i : Nat) {x : Str} {pos : Pos} (hg : Gl X x) (hm : X.mg x = some (.ref (He.ga X.K x))) (hi : nm i = x := by rfl) (hd : (x == ("__debug__" : Str)) = false := by decide) : DE X Wx ms (.Name x pos) (vC (.cls i)) := fun B W env σ H Q o p => by
  subst hi
  exact PE.tm (pe_glob (v := .ref (He.ga X.K (nm i))) hg hm rfl hd) (Po.done (v := V.ref (He.ga X.K (nm i))) p o rfl)

/-! ### operations by values: they change nothing, they may make things -/
abbrev Wf (B : Addr → Prop) (H : Hp) : Prop := ∀ a, B a → ∃ o, H a = some o
def Pure1 (X : Cx) (r : V → Hp → VK → Prop) (g : D → Option D) : Prop := ∀ {B : Addr → Prop} {H : Hp} {x : V} {d z : D} {Q : VK}, Wf B H → Wk (tx X) B H d x → g d = some z → (∀ H' v, Same H H' → Rel (tx X) B H' z v → Q v H') → r x H Q
def Pure2 (X : Cx) (r : R2) (g : D → D → Option D) : Prop := ∀ {B : Addr → Prop} {H : Hp} {x y : V} {d e z : D} {Q : VK}, Wf B H → Wk (tx X) B H d x → Wk (tx X) B H e y → g d e = some z → (∀ H' v, Same H H' → Rel (tx X) B H' z v → Q v H') → r x y H Q
def PureN (X : Cx) (r : List V → Hp → VK → Prop) (g : List D → Option D) : Prop := ∀ {B : Addr → Prop} {H : Hp} {xs : List V} {ds : List D} {z : D} {Q : VK}, Wf B H → RelL (tx X) B H ds xs → g ds = some z → (∀ H' v, Same H H' → Rel (tx X) B H' z v → Q v H') → r xs H Q
def PureNF (X : Cx) (r : List V → Hp → VK → Prop) (g : List D → Option D) : Prop := ∀ {B : Addr → Prop} {H : Hp} {xs : List V} {ds : List D} {z : D} {Q : VK}, Wf B H → RelL (tx X) B H ds xs → g ds = some z → (∀ p vs l, z = .lst l → H p = none → RelL (tx X) B H l vs → Q (.ref p) (upd H p (.lst vs))) → r xs H Q
def Pure1F (X : Cx) (r : V → Hp → VK → Prop) (g : D → Option D) : Prop := ∀ {B : Addr → Prop} {H : Hp} {x : V} {d z : D} {Q : VK}, Wf B H → Wk (tx X) B H d x → g d = some z → (∀ p vs l, z = .lst l → H p = none → RelL (tx X) B H l vs → Q (.ref p) (upd H p (.lst vs))) → r x H Q
def Pure2F (X : Cx) (r : R2) (g : D → D → Option D) : Prop := ∀ {B : Addr → Prop} {H : Hp} {x y : V} {d e z : D} {Q : VK}, Wf B H → Wk (tx X) B H d x → Wk (tx X) B H e y → g d e = some z → (∀ p vs l, z = .lst l → H p = none → RelL (tx X) B H l vs → Q (.ref p) (upd H p (.lst vs))) → r x y H Q

def op1 (g : D → Option D) (f : M D) : M D := fun env => (f env).bind fun d env1 => M.of (g d) env1
def op2 (g : D → D → Option D) (f f' : M D) : M D := fun env => (f env).bind fun d env1 => (f' env1).bind fun e env2 => M.of (g d e) env2
def opN (g : List D → Option D) (f : M (List D)) : M D := fun env => (f env).bind fun ds env1 => M.of (g ds) env1

theorem of_pos {T : Tx} {B : Br} {W : Addr → Prop} {env : En} {σ : St} {H : Hp} {α β : Type} {k : Rk T α β} {o : Option α} {Q : β → Hp → Prop} (h : Po T Wx ms B W σ H k (M.of o env) Q) : ∃ z, o = some z ∧ Po T Wx ms B W σ H k (.ok z env) Q := by
  cases o with
  | none => exact h.elim
  | some z => exact ⟨z, rfl, h⟩

section
variable {a b : Expr} {fa fb : M D} {pos : Pos}
theorem tm_op2 {r : R2} {g : D → D → Option D} (p : Pure2 X r g) (ha : DE X Wx ms a fa) (hb : DK X Wx ms b fb) {B : Br} {W : Addr → Prop} {env : En} {σ : St} {H : Hp} {Q : VK} (o : Ok (tx X) ms B W env σ H)
    (h : Po (tx X) Wx ms B W σ H (rkD (tx X)) (op2 g fa fb env) Q) : tm X a σ H fun x H1 => tm X b σ H1 fun y H2 => r x y H2 Q :=
  ha _ _ _ _ _ _ o (h.cont (k1 := rkD (tx X)) fun d env1 W1 H1 x n1 o1 r1 h1 => hb _ _ _ _ _ _ o1 (h1.cont (k1 := rkW (tx X)) fun e env2 W2 H2 y n2 o2 r2 h2 => by
    obtain ⟨z, e1, h3⟩ := of_pos h2
    exact p o2.wf (Rel.wk (Rel.ext n2.ext d r1)) r2 e1 fun H' v s rv => h3.same o2 s rv))
theorem tm_op2F {r : R2} {g : D → D → Option D} (p : Pure2F X r g) (ha : DE X Wx ms a fa) (hb : DK X Wx ms b fb) {B : Br} {W : Addr → Prop} {env : En} {σ : St} {H : Hp} {Q : VK} (o : Ok (tx X) ms B W env σ H)
    (h : Po (tx X) Wx ms B W σ H (rkF (tx X) ms) (op2 g fa fb env) Q) : tm X a σ H fun x H1 => tm X b σ H1 fun y H2 => r x y H2 Q :=
  ha _ _ _ _ _ _ o (h.cont (k1 := rkD (tx X)) fun d env1 W1 H1 x n1 o1 r1 h1 => hb _ _ _ _ _ _ o1 (h1.cont (k1 := rkW (tx X)) fun e env2 W2 H2 y n2 o2 r2 h2 => by
    obtain ⟨z, e1, h3⟩ := of_pos h2
    exact p o2.wf (Rel.wk (Rel.ext n2.ext d r1)) r2 e1 fun q vs l el hq rl => by
      subst el
      exact h3.made o2 hq rl))
/-- the first operand a cell of ours, the second without effect -/
def Still (f : M D) : Prop := ∀ env d env', f env = .ok d env' → env' = env
theorem de_op {op : Operator} {r : R2} {g : D → D → Option D} (ho : OpR X (binaryOp op) r) (p : Pure2 X r g) (ha : DE X Wx ms a fa) (hb : DK X Wx ms b fb) : DE X Wx ms (.BinOp a op b pos) (op2 g fa fb) := fun B W env σ H Q o h =>
  PE.tm (pe_op ho pe_tm pe_tm) (tm_op2 p ha hb o h)
theorem df_op {op : Operator} {r : R2} {g : D → D → Option D} (ho : OpR X (binaryOp op) r) (p : Pure2F X r g) (ha : DE X Wx ms a fa) (hb : DK X Wx ms b fb) : DF X Wx ms (.BinOp a op b pos) (op2 g fa fb) := fun B W env σ H Q o h =>
  PE.tm (pe_op ho pe_tm pe_tm) (tm_op2F p ha hb o h)
theorem de_un {op : UnaryOp} {r : V → Hp → VK → Prop} {g : D → Option D} (ho : UnR X (unaryOp op) r) (p : Pure1 X r g) (ha : DK X Wx ms a fa) : DE X Wx ms (.UnaryOp op a pos) (op1 g fa) := fun B W env σ H Q o h =>
  PE.tm (pe_un ho pe_tm) (ha _ _ _ _ _ _ o (h.cont (k1 := rkW (tx X)) fun d env1 W1 H1 x n1 o1 r1 h1 => by
    obtain ⟨z, e1, h3⟩ := of_pos h1
    exact p o1.wf r1 e1 fun H' v s rv => h3.same o1 s rv))
theorem de_cmp {op : CmpOp} {r : R2} {g : D → D → Option D} (ho : OpR X (compareOp op) r) (p : Pure2 X r g) (ha : DE X Wx ms a fa) (hb : DK X Wx ms b fb) (hm : behindInMarks op b = false := by first | exact nomark _ | rfl) : DE X Wx ms (.Compare a [op] [b] pos) (op2 g fa fb) := fun B W env σ H Q o h =>
  PE.tm (pe_cmpR ho pe_tm pe_tm hm) (tm_op2 p ha hb o h)
def asB : D → Option Bool
  | .bl b => some b
  | _ => none
def tB1 (f : M D) : M Bool := fun env => (f env).bind fun d env1 => M.of (asB d) env1
theorem asB_some {d : D} {b : Bool} (h : asB d = some b) : d = .bl b := by
  cases d with
  | bl c =>
    have e : c = b := Option.some.inj h
    rw [e]
  | _ => cases h
/-- an expression that gives a bool, as a test -/
theorem dt_val (ha : DE X Wx ms a fa) (he : ∀ whole, isTrue a X.env whole = (do let v ← whole; standAt a.pos; holding [v] (truthy v)) := by intro _; rfl) : DT X Wx ms a (tB1 fa) := fun B W env σ H Q o h =>
  PT.tm (pt_val pe_tm he) (ha _ _ _ _ _ _ o (h.cont fun d env1 W1 H1 x n1 o1 r1 h1 => by
    obtain ⟨z, e1, h3⟩ := of_pos h1
    have e2 := asB_some e1
    subst e2
    exact ⟨z, r1, h3.done o1 rfl⟩))
theorem op2_as (g : D → D → Option D) (f f' : M D) (env : En) : tB1 (op2 g f f') env = (f env).bind fun d env1 => (f' env1).bind fun e env2 => M.of ((g d e).bind asB) env2 := by
  show R.bind (R.bind (f env) _) _ = R.bind (f env) _
  cases f env with
  | ok d env1 =>
    show R.bind (R.bind (f' env1) _) _ = R.bind (f' env1) _
    cases f' env1 with
    | ok e env2 =>
      show R.bind (M.of (g d e) env2) _ = M.of ((g d e).bind asB) env2
      cases g d e <;> rfl
    | err c ns ds env => rfl
    | stuck => rfl
  | err c ns ds env => rfl
  | stuck => rfl
theorem dt_cmp {op : CmpOp} {r : R2} {g : D → D → Option D} (ho : OpR X (compareOp op) r) (p : Pure2 X r g) (ha : DE X Wx ms a fa) (hb : DK X Wx ms b fb) (hm : behindInMarks op b = false := by first | exact nomark _ | rfl) : DT X Wx ms (.Compare a [op] [b] pos) (tB1 (op2 g fa fb)) := fun B W env σ H Q o h => by
  rw [op2_as] at h
  refine PT.tm (pt_cmpR ho pe_tm pe_tm hm) (ha _ _ _ _ _ _ o (h.cont (k1 := rkD (tx X)) fun d env1 W1 H1 x n1 o1 r1 h1 => hb _ _ _ _ _ _ o1 (h1.cont (k1 := rkW (tx X)) fun e env2 W2 H2 y n2 o2 r2 h2 => ?_)))
  obtain ⟨z, e1, h3⟩ := of_pos h2
  obtain ⟨zd, e2, e3⟩ := Option.bind_eq_some_iff.mp e1
  have e4 := asB_some e3
  subst e4
  exact p o2.wf (Rel.wk (Rel.ext n2.ext d r1)) r2 e2 fun H' v s rv => ⟨z, rv, h3.same o2 s rfl⟩

/-! ### tests -/
variable {ga gb : M Bool}
def bNot (f : M Bool) : M Bool := fun env => (f env).bind fun c env1 => .ok (!c) env1
def bAnd (f f' : M Bool) : M Bool := fun env => (f env).bind fun c env1 => if c = true then f' env1 else .ok false env1
def bOr (f f' : M Bool) : M Bool := fun env => (f env).bind fun c env1 => if c = true then .ok true env1 else f' env1
theorem dt_not (ha : DT X Wx ms a ga) : DT X Wx ms (.UnaryOp .Not a pos) (bNot ga) := fun B W env σ H Q o h =>
  PT.tm (pt_not pt_tm) (ha _ _ _ _ _ _ o (h.cont fun c env1 W1 H1 x n1 o1 r1 h1 => h1.done o1 (by rw [show x = c from r1]; rfl)))
theorem dw_and1 (ha : DT X Wx ms a ga) : DW X Wx ms (.BoolOp .And [a] pos) ga := fun B W env σ H Q o h => PW.tm (pw_and1 pt_tm) (ha _ _ _ _ _ _ o h)
theorem dw_or1 (ha : DT X Wx ms a ga) : DW X Wx ms (.BoolOp .Or [a] pos) ga := fun B W env σ H Q o h => PW.tm (pw_or1 pt_tm) (ha _ _ _ _ _ _ o h)
theorem dw_and {rest : List Expr} (ha : DT X Wx ms a ga) (hb : DW X Wx ms (.BoolOp .And (b :: rest) pos) gb) : DW X Wx ms (.BoolOp .And (a :: b :: rest) pos) (bAnd ga gb) := fun B W env σ H Q o h =>
  PW.tm (pw_and pt_tm pw_tm) (ha _ _ _ _ _ _ o (h.cont fun c env1 W1 H1 x n1 o1 r1 h1 => by
    have e : x = c := r1
    subst e
    cases x with
    | true => exact iteT (hb _ _ _ _ _ _ o1 h1)
    | false => exact iteF (h1.done o1 rfl)))
theorem dw_or {rest : List Expr} (ha : DT X Wx ms a ga) (hb : DW X Wx ms (.BoolOp .Or (b :: rest) pos) gb) : DW X Wx ms (.BoolOp .Or (a :: b :: rest) pos) (bOr ga gb) := fun B W env σ H Q o h =>
  PW.tm (pw_or pt_tm pw_tm) (ha _ _ _ _ _ _ o (h.cont fun c env1 W1 H1 x n1 o1 r1 h1 => by
    have e : x = c := r1
    subst e
    cases x with
    | true => exact iteT (h1.done o1 rfl)
    | false => exact iteF (hb _ _ _ _ _ _ o1 h1)))
theorem DW.dt (h : DW X Wx ms a ga) : DT X Wx ms a ga := fun B W env σ H Q o p => PT.tm (PW.pt pw_tm) (h _ _ _ _ _ _ o p)
def iff_ (c : M Bool) {α : Type} (f f' : M α) : M α := fun env => (c env).bind fun c env1 => if c = true then f env1 else f' env1
theorem de_ifExp {c : Expr} (hc : DT X Wx ms c ga) (ha : DE X Wx ms a fa) (hb : DE X Wx ms b fb) : DE X Wx ms (.IfExp c a b pos) (iff_ ga fa fb) := fun B W env σ H Q o h =>
  PE.tm (pe_ifExp pt_tm pe_tm pe_tm) (hc _ _ _ _ _ _ o (h.cont fun c env1 W1 H1 x n1 o1 r1 h1 => by
    have e : x = c := r1
    subst e
    cases x with
    | true => exact iteT (ha _ _ _ _ _ _ o1 h1)
    | false => exact iteF (hb _ _ _ _ _ _ o1 h1)))
/-- and, or as values (bools) -/
def vAnd (f f' : M D) : M D := fun env => (f env).bind fun d env1 => match d with
  | .bl true => f' env1
  | .bl false => .ok (.bl false) env1
  | _ => .stuck
def vOr (f f' : M D) : M D := fun env => (f env).bind fun d env1 => match d with
  | .bl false => f' env1
  | .bl true => .ok (.bl true) env1
  | _ => .stuck
theorem de_one {op} (ha : DE X Wx ms a fa) : DE X Wx ms (.BoolOp op [a] pos) fa := fun B W env σ H Q o h => PE.tm (pe_one pe_tm) (ha _ _ _ _ _ _ o h)
theorem de_and {rest : List Expr} (ha : DE X Wx ms a fa) (hb : DE X Wx ms (.BoolOp .And (b :: rest) pos) fb) : DE X Wx ms (.BoolOp .And (a :: b :: rest) pos) (vAnd fa fb) := fun B W env σ H Q o h =>
  PE.tm (pe_and pe_tm pe_tm) (ha _ _ _ _ _ _ o (h.cont fun d env1 W1 H1 x n1 o1 r1 h1 => by
    cases d with
    | bl c =>
      cases c with
      | true => exact ⟨true, r1, iteT (hb _ _ _ _ _ _ o1 h1)⟩
      | false => exact ⟨false, r1, iteF (h1.done (v := V.bl false) o1 rfl)⟩
    | _ => exact h1.elim))
theorem de_or {rest : List Expr} (ha : DE X Wx ms a fa) (hb : DE X Wx ms (.BoolOp .Or (b :: rest) pos) fb) : DE X Wx ms (.BoolOp .Or (a :: b :: rest) pos) (vOr fa fb) := fun B W env σ H Q o h =>
  PE.tm (pe_or pe_tm pe_tm) (ha _ _ _ _ _ _ o (h.cont fun d env1 W1 H1 x n1 o1 r1 h1 => by
    cases d with
    | bl c =>
      cases c with
      | true => exact ⟨true, r1, iteT (h1.done (v := V.bl true) o1 rfl)⟩
      | false => exact ⟨false, r1, iteF (hb _ _ _ _ _ _ o1 h1)⟩
    | _ => exact h1.elim))
def notD : D → Option D
  | .bl b => some (.bl (!b))
  | _ => none
theorem de_not (ha : DE X Wx ms a fa) : DE X Wx ms (.UnaryOp .Not a pos) (op1 notD fa) := fun B W env σ H Q o h =>
  PE.tm (pe_not pe_tm) (ha _ _ _ _ _ _ o (h.cont fun d env1 W1 H1 x n1 o1 r1 h1 => by
    obtain ⟨z, e1, h3⟩ := of_pos h1
    cases d with
    | bl c =>
      have e : D.bl (!c) = z := Option.some.inj e1
      subst e
      exact ⟨c, r1, h3.done (v := V.bl (!c)) o1 rfl⟩
    | _ => cases e1))

/-! ### arguments, displays -/
variable {es : List Expr} {fs : M (List D)}
def aNil : M (List D) := fun env => .ok [] env
def aCons (f : M D) (fs : M (List D)) : M (List D) := fun env => (f env).bind fun d env1 => (fs env1).bind fun ds env2 => .ok (d :: ds) env2
theorem da_nil : DA X Wx ms [] aNil := fun B W env σ H Q o h => PA.tm pa_nil (h.done (v := []) o trivial)
theorem da_cons (ha : DE X Wx ms a fa) (hr : DA X Wx ms es fs) (hs : starEach (a :: es) X.env = (false, eval a X.env) :: starEach es X.env := by rfl) : DA X Wx ms (a :: es) (aCons fa fs) := fun B W env σ H Q o h =>
  PA.tm (pa_cons pe_tm pa_tm hs) (ha _ _ _ _ _ _ o (h.cont fun d env1 W1 H1 x n1 o1 r1 h1 => hr _ _ _ _ _ _ o1 (h1.cont fun ds env2 W2 H2 xs n2 o2 r2 h2 => h2.done (v := x :: xs) o2 ⟨Rel.ext n2.ext d r1, r2⟩)))
abbrev small (n : Nat) : Bool := Nat.ble n 1000000
theorem small_line {n : Nat} (h : small n = true) : n ≤ sizeLine := Nat.le_trans (Nat.le_of_ble_eq_true h) (by rw [sizeLine_eq]; decide)
theorem small_lt {n : Nat} (h : small n = true) : n < sizeLine := Nat.lt_of_le_of_lt (Nat.le_of_ble_eq_true h) (by rw [sizeLine_eq]; decide)
def mkT (ds : List D) : Option D := if small ds.length = true then some (.tup ds) else none
def mkL (ds : List D) : Option D := if small ds.length = true then some (.lst ds) else none
theorem fresh_bar {B : Addr → Prop} {H : Hp} {p : Addr} (w : Wf B H) (h : H p = none) : ¬ B p := fun b => by
  obtain ⟨o, e⟩ := w p b
  rw [h] at e; cases e
theorem ite_some {α : Type} {c : Prop} [Decidable c] {x y : α} (h : (if c then some x else none) = some y) : c ∧ x = y := by
  by_cases q : c
  · rw [if_pos q] at h
    exact ⟨q, Option.some.inj h⟩
  · rw [if_neg q] at h; cases h
theorem de_tup {x1} (h : DA X Wx ms es fs) : DE X Wx ms (.Tuple es x1 pos) (opN mkT fs) := fun B W env σ H Q o p =>
  PE.tm (pe_tup pa_tm) (h _ _ _ _ _ _ o (p.cont fun ds env1 W1 H1 xs n1 o1 r1 h1 => by
    obtain ⟨z, e1, h3⟩ := of_pos h1
    obtain ⟨e2, e3⟩ := ite_some e1
    subst e3
    have el := RelL.length r1
    refine ⟨by rw [← el]; exact small_line e2, fun q hq => h3.same o1 (Same.upd hq) ⟨q, xs, rfl, .inl ⟨upd_same, fresh_bar o1.wf hq⟩, RelL.ext (Ext.same (Same.upd hq)) ds r1⟩⟩))
theorem df_lst (h : DA X Wx ms es fs) : DF X Wx ms (.List es pos) (opN mkL fs) := fun B W env σ H Q o p =>
  PE.tm (pe_lst pa_tm) (h _ _ _ _ _ _ o (p.cont (k1 := rkL (tx X)) fun ds env1 W1 H1 xs n1 o1 r1 h1 => by
    obtain ⟨z, e1, h3⟩ := of_pos h1
    obtain ⟨e2, e3⟩ := ite_some e1
    subst e3
    have el := RelL.length r1
    exact ⟨by rw [← el]; exact small_line e2, fun q hq => h3.made o1 hq r1⟩))
end

/-! ### calls of built-ins -/
section
variable {r : List V → Hp → VK → Prop} {g : List D → Option D} {x : Str} {id ty : String} {p pos : Pos} {e : Expr} {es : List Expr} {fs : M (List D)}
theorem tm_callN (pr : PureN X r g) (ha : DA X Wx ms es fs) {B : Br} {W : Addr → Prop} {env : En} {σ : St} {H : Hp} {Q : VK} (o : Ok (tx X) ms B W env σ H) (h : Po (tx X) Wx ms B W σ H (rkD (tx X)) (opN g fs env) Q) : tmA X es σ H fun vs H1 => r vs H1 Q :=
  ha _ _ _ _ _ _ o (h.cont fun ds env1 W1 H1 xs n1 o1 r1 h1 => by
    obtain ⟨z, e1, h3⟩ := of_pos h1
    exact pr o1.wf r1 e1 fun H' v s rv => h3.same o1 s rv)
theorem tm_callNF (pr : PureNF X r g) (ha : DA X Wx ms es fs) {B : Br} {W : Addr → Prop} {env : En} {σ : St} {H : Hp} {Q : VK} (o : Ok (tx X) ms B W env σ H) (h : Po (tx X) Wx ms B W σ H (rkF (tx X) ms) (opN g fs env) Q) : tmA X es σ H fun vs H1 => r vs H1 Q :=
  ha _ _ _ _ _ _ o (h.cont (k1 := rkL (tx X)) fun ds env1 W1 H1 xs n1 o1 r1 h1 => by
    obtain ⟨z, e1, h3⟩ := of_pos h1
    exact pr o1.wf r1 e1 fun q vs l el hq rl => by
      subst el
      exact h3.made o1 hq rl)
theorem de_callB (hc : CallR X (.builtin id) r) (pr : PureN X r g) (hg : Gl X x) (hm : X.mg x = none) (hv : bootBuiltins x = some (.builtin id)) (ha : DA X Wx ms (e :: es) fs) (hn : x ≠ "__name__" := by decide) (hdb : (x == ("__debug__" : Str)) = false := by decide)
    (he : starEach (e :: es) X.env = (false, eval e X.env) :: starEach es X.env := by rfl) (hpl : (backTo pos (starEach es X.env)).any (·.1) = false := by rfl) : DE X Wx ms (.Call (.Name x p) (e :: es) [] pos) (opN g fs) := fun B W env σ H Q o h =>
  PE.tm (pe_callB hc hg hm hv pa_tm hn hdb he hpl) (tm_callN pr ha o h)
theorem df_callB (hc : CallR X (.builtin id) r) (pr : PureNF X r g) (hg : Gl X x) (hm : X.mg x = none) (hv : bootBuiltins x = some (.builtin id)) (ha : DA X Wx ms (e :: es) fs) (hn : x ≠ "__name__" := by decide) (hdb : (x == ("__debug__" : Str)) = false := by decide)
    (he : starEach (e :: es) X.env = (false, eval e X.env) :: starEach es X.env := by rfl) (hpl : (backTo pos (starEach es X.env)).any (·.1) = false := by rfl) : DF X Wx ms (.Call (.Name x p) (e :: es) [] pos) (opN g fs) := fun B W env σ H Q o h =>
  PE.tm (pe_callB hc hg hm hv pa_tm hn hdb he hpl) (tm_callNF pr ha o h)
theorem de_callTy (hc : CallR X (.type ty) r) (pr : PureN X r g) (hg : Gl X x) (hm : X.mg x = none) (hv : bootBuiltins x = some (.type ty)) (ha : DA X Wx ms (e :: es) fs) (hn : x ≠ "__name__" := by decide) (hdb : (x == ("__debug__" : Str)) = false := by decide)
    (he : starEach (e :: es) X.env = (false, eval e X.env) :: starEach es X.env := by rfl) (hpl : (backTo pos (starEach es X.env)).any (·.1) = false := by rfl) : DE X Wx ms (.Call (.Name x p) (e :: es) [] pos) (opN g fs) := fun B W env σ H Q o h =>
  PE.tm (pe_callTy hc hg hm hv pa_tm hn hdb he hpl) (tm_callN pr ha o h)
theorem df_callTy (hc : CallR X (.type ty) r) (pr : PureNF X r g) (hg : Gl X x) (hm : X.mg x = none) (hv : bootBuiltins x = some (.type ty)) (ha : DA X Wx ms (e :: es) fs) (hn : x ≠ "__name__" := by decide) (hdb : (x == ("__debug__" : Str)) = false := by decide)
    (he : starEach (e :: es) X.env = (false, eval e X.env) :: starEach es X.env := by rfl) (hpl : (backTo pos (starEach es X.env)).any (·.1) = false := by rfl) : DF X Wx ms (.Call (.Name x p) (e :: es) [] pos) (opN g fs) := fun B W env σ H Q o h =>
  PE.tm (pe_callTy hc hg hm hv pa_tm hn hdb he hpl) (tm_callNF pr ha o h)
/-- one argument, by value; it may be a cell of ours -/
def r1N (r : List V → Hp → VK → Prop) : V → Hp → VK → Prop := fun x H Q => r [x] H Q
section
variable {fa : M D}
theorem tm_call1 {g : D → Option D} (pr : Pure1 X (r1N r) g) (ha : DK X Wx ms e fa) (hs : starEach [e] X.env = (false, eval e X.env) :: starEach [] X.env := by rfl) {B : Br} {W : Addr → Prop} {env : En} {σ : St} {H : Hp} {Q : VK} (o : Ok (tx X) ms B W env σ H) (h : Po (tx X) Wx ms B W σ H (rkD (tx X)) (op1 g fa env) Q) : tmA X [e] σ H fun vs H1 => r vs H1 Q :=
  PA.tm (pa_cons pe_tm pa_nil hs) (ha _ _ _ _ _ _ o (h.cont (k1 := rkW (tx X)) fun d env1 W1 H1 x n1 o1 r1 h1 => by
    obtain ⟨z, e1, h3⟩ := of_pos h1
    exact pr o1.wf r1 e1 fun H' v s rv => h3.same o1 s rv))
theorem tm_call1F {g : D → Option D} (pr : Pure1F X (r1N r) g) (ha : DK X Wx ms e fa) (hs : starEach [e] X.env = (false, eval e X.env) :: starEach [] X.env := by rfl) {B : Br} {W : Addr → Prop} {env : En} {σ : St} {H : Hp} {Q : VK} (o : Ok (tx X) ms B W env σ H) (h : Po (tx X) Wx ms B W σ H (rkF (tx X) ms) (op1 g fa env) Q) : tmA X [e] σ H fun vs H1 => r vs H1 Q :=
  PA.tm (pa_cons pe_tm pa_nil hs) (ha _ _ _ _ _ _ o (h.cont (k1 := rkW (tx X)) fun d env1 W1 H1 x n1 o1 r1 h1 => by
    obtain ⟨z, e1, h3⟩ := of_pos h1
    exact pr o1.wf r1 e1 fun q vs l el hq rl => by
      subst el
      exact h3.made o1 hq rl))
theorem de_call1B {g : D → Option D} (hc : CallR X (.builtin id) r) (pr : Pure1 X (r1N r) g) (hg : Gl X x) (hm : X.mg x = none) (hv : bootBuiltins x = some (.builtin id)) (ha : DK X Wx ms e fa) (hn : x ≠ "__name__" := by decide) (hdb : (x == ("__debug__" : Str)) = false := by decide)
    (he : starEach [e] X.env = (false, eval e X.env) :: starEach [] X.env := by rfl) (hpl : (backTo pos (starEach [] X.env)).any (·.1) = false := by rfl) : DE X Wx ms (.Call (.Name x p) [e] [] pos) (op1 g fa) := fun B W env σ H Q o h =>
  PE.tm (pe_callB hc hg hm hv pa_tm hn hdb he hpl) (tm_call1 pr ha he o h)
theorem df_call1B {g : D → Option D} (hc : CallR X (.builtin id) r) (pr : Pure1F X (r1N r) g) (hg : Gl X x) (hm : X.mg x = none) (hv : bootBuiltins x = some (.builtin id)) (ha : DK X Wx ms e fa) (hn : x ≠ "__name__" := by decide) (hdb : (x == ("__debug__" : Str)) = false := by decide)
    (he : starEach [e] X.env = (false, eval e X.env) :: starEach [] X.env := by rfl) (hpl : (backTo pos (starEach [] X.env)).any (·.1) = false := by rfl) : DF X Wx ms (.Call (.Name x p) [e] [] pos) (op1 g fa) := fun B W env σ H Q o h =>
  PE.tm (pe_callB hc hg hm hv pa_tm hn hdb he hpl) (tm_call1F pr ha he o h)
theorem de_call1T {g : D → Option D} (hc : CallR X (.type ty) r) (pr : Pure1 X (r1N r) g) (hg : Gl X x) (hm : X.mg x = none) (hv : bootBuiltins x = some (.type ty)) (ha : DK X Wx ms e fa) (hn : x ≠ "__name__" := by decide) (hdb : (x == ("__debug__" : Str)) = false := by decide)
    (he : starEach [e] X.env = (false, eval e X.env) :: starEach [] X.env := by rfl) (hpl : (backTo pos (starEach [] X.env)).any (·.1) = false := by rfl) : DE X Wx ms (.Call (.Name x p) [e] [] pos) (op1 g fa) := fun B W env σ H Q o h =>
  PE.tm (pe_callTy hc hg hm hv pa_tm hn hdb he hpl) (tm_call1 pr ha he o h)
theorem df_call1T {g : D → Option D} (hc : CallR X (.type ty) r) (pr : Pure1F X (r1N r) g) (hg : Gl X x) (hm : X.mg x = none) (hv : bootBuiltins x = some (.type ty)) (ha : DK X Wx ms e fa) (hn : x ≠ "__name__" := by decide) (hdb : (x == ("__debug__" : Str)) = false := by decide)
    (he : starEach [e] X.env = (false, eval e X.env) :: starEach [] X.env := by rfl) (hpl : (backTo pos (starEach [] X.env)).any (·.1) = false := by rfl) : DF X Wx ms (.Call (.Name x p) [e] [] pos) (op1 g fa) := fun B W env σ H Q o h =>
  PE.tm (pe_callTy hc hg hm hv pa_tm hn hdb he hpl) (tm_call1F pr ha he o h)
end
end
end
end DL

set_option Elab.async false
set_option linter.all false
set_option maxRecDepth 100000
set_option maxHeartbeats 4000000
namespace DL
open PySem PySem.Spec L2

/-! ### plain data -/
mutual
def toP : D → Option PyData
  | .non => some .none
  | .bl b => some (.bool b)
  | .int i => some (.int i)
  | .str x => some (.str (nm x))
  | .tup l => (toPL l).map .tuple
  | .lst l => (toPL l).map .list
  | _ => none
def toPL : List D → Option (List PyData)
  | [] => some []
  | d :: ds => (toP d).bind fun p => (toPL ds).map fun ps => p :: ps
end
mutual
theorem rel_dp {T : Tx} {B : Addr → Prop} {H : Hp} : ∀ (d : D) {p : PyData} {v : V}, toP d = some p → Rel T B H d v → Dp T.K H v p
  | .non, p, v, e, r => by
    have e' := Option.some.inj e
    subst e'
    rw [show v = .non from r]
    exact .non
  | .bl b, p, v, e, r => by
    have e' := Option.some.inj e
    subst e'
    rw [show v = .bl b from r]
    exact .bl b
  | .int i, p, v, e, r => by
    have e' := Option.some.inj e
    subst e'
    rw [show v = .int i from r]
    exact .int i
  | .str x, p, v, e, r => by
    have e' := Option.some.inj e
    subst e'
    rw [show v = .str (nm x) from r]
    exact .str (nm x)
  | .tup l, p, v, e, r => by
    obtain ⟨a, vs, rfl, h1, h2⟩ := r
    obtain ⟨ps, e1, rfl⟩ := Option.map_eq_some_iff.mp e
    exact .tup h1.sq (rel_dpL l e1 h2)
  | .lst l, p, v, e, r => by
    obtain ⟨a, vs, rfl, h1, _, h2⟩ := r
    obtain ⟨ps, e1, rfl⟩ := Option.map_eq_some_iff.mp e
    exact .lst (SqL.of h1) (rel_dpL l e1 h2)
  | .obj _ _ _, _, _, e, _ => by cases e
  | .set _, _, _, e, _ => by cases e
  | .cls _, _, _, e, _ => by cases e
  | .scr _, _, _, e, _ => by cases e
  | .xc _ _ _, _, _, e, _ => by cases e
theorem rel_dpL {T : Tx} {B : Addr → Prop} {H : Hp} : ∀ (ds : List D) {ps : List PyData} {vs : List V}, toPL ds = some ps → RelL T B H ds vs → DpAll T.K H vs ps
  | [], ps, [], e, _ => by
    have e' := Option.some.inj e
    subst e'
    exact .nil
  | [], _, _ :: _, _, r => r.elim
  | _ :: _, _, [], _, r => r.elim
  | d :: ds, ps, v :: vs, e, r => by
    obtain ⟨p, e1, e2⟩ := Option.bind_eq_some_iff.mp e
    obtain ⟨ps', e3, rfl⟩ := Option.map_eq_some_iff.mp e2
    exact .cons (rel_dp d e1 r.1) (rel_dpL ds e3 r.2)
end
theorem wk_dp {T : Tx} {B : Addr → Prop} {H : Hp} {d : D} {p : PyData} {v : V} (e : toP d = some p) (r : Wk T B H d v) : Dp T.K H v p := by
  cases d with
  | lst l =>
    obtain ⟨a, vs, rfl, h1, h2⟩ := r
    obtain ⟨ps, e1, rfl⟩ := Option.map_eq_some_iff.mp e
    exact .lst (SqL.of h1) (rel_dpL l e1 h2)
  | obj c ns ds => cases e
  | _ => exact rel_dp (B := B) _ e r
def nmN : Nat := 201
theorem nm_ok : (nmT.all fun s => PyData.strOk (Str.ofString s)) = true := by decide +kernel
theorem nmT_len : nmT.length = nmN := by decide +kernel
theorem nm_strOk {x : Nat} (h : Nat.blt x nmN = true) : PyData.strOk (nm x) = true := by
  have hl : x < nmT.length := by
    rw [nmT_len]
    exact Nat.le_of_ble_eq_true h
  have e : nmT[x]? = some nmT[x] := List.getElem?_eq_getElem hl
  unfold nm
  rw [e]
  exact List.all_eq_true.mp nm_ok _ (List.getElem_mem hl)
/-- data that may be compared, no deeper than n -/
def okF : Nat → D → Bool
  | _, .non => true
  | _, .bl _ => true
  | _, .int _ => true
  | _, .str x => Nat.blt x nmN
  | n + 1, .tup l => l.all (okF n)
  | n + 1, .lst l => l.all (okF n)
  | _, _ => false
def allF (f : D → D → Bool) : List D → List D → Bool
  | [], [] => true
  | d :: ds, e :: es => f d e && allF f ds es
  | _, _ => false
/-- what Python says of == -/
def eqF : Nat → D → D → Bool
  | _, .non, .non => true
  | _, .bl a, .bl b => a == b
  | _, .bl a, .int j => (if a then 1 else 0) == j
  | _, .int i, .bl b => i == (if b then 1 else 0)
  | _, .int i, .int j => i == j
  | _, .str x, .str y => Nat.beq x y
  | n + 1, .tup l, .tup m => allF (eqF n) l m
  | n + 1, .lst l, .lst m => allF (eqF n) l m
  | _, _, _ => false
theorem okF_toP : ∀ (n : Nat) (d : D), okF n d = true → ∃ p, toP d = some p ∧ p.canLay0 = true ∧ p.depth ≤ n := by
  intro n
  induction n with
  | zero =>
    intro d h
    cases d with
    | non => exact ⟨_, rfl, by simp [PyData.canLay0], by simp [PyData.depth]⟩
    | bl b => exact ⟨_, rfl, by simp [PyData.canLay0], by simp [PyData.depth]⟩
    | int b => exact ⟨_, rfl, by simp [PyData.canLay0], by simp [PyData.depth]⟩
    | str x => exact ⟨_, rfl, by simp [PyData.canLay0]; exact nm_strOk h, by simp [PyData.depth]⟩
    | _ => cases h
  | succ n ih =>
    have all : ∀ l : List D, l.all (okF n) = true → ∃ ps, toPL l = some ps ∧ PyData.canLayAll0 ps = true ∧ PyData.depthAll ps ≤ n := by
      intro l
      induction l with
      | nil => exact fun _ => ⟨[], rfl, by simp [PyData.canLayAll0], by simp [PyData.depthAll]⟩
      | cons d l ihl =>
        intro h
        obtain ⟨h1, h2⟩ := Bool.and_eq_true_iff.mp h
        obtain ⟨p, a1, a2, a3⟩ := ih d h1
        obtain ⟨ps, b1, b2, b3⟩ := ihl h2
        refine ⟨p :: ps, ?_, ?_, ?_⟩
        · show (toP d).bind _ = _
          rw [a1]
          show (toPL l).map _ = _
          rw [b1]
          rfl
        · simp only [PyData.canLayAll0, a2, b2, Bool.and_self]
        · simp only [PyData.depthAll]
          omega
    intro d h
    cases d with
    | non => exact ⟨_, rfl, by simp [PyData.canLay0], by simp [PyData.depth]⟩
    | bl b => exact ⟨_, rfl, by simp [PyData.canLay0], by simp [PyData.depth]⟩
    | int b => exact ⟨_, rfl, by simp [PyData.canLay0], by simp [PyData.depth]⟩
    | str x => exact ⟨_, rfl, by simp [PyData.canLay0]; exact nm_strOk h, by simp [PyData.depth]⟩
    | tup l =>
      obtain ⟨ps, a1, a2, a3⟩ := all l h
      refine ⟨.tuple ps, ?_, by simp only [PyData.canLay0]; exact a2, by simp only [PyData.depth]; omega⟩
      show (toPL l).map _ = _
      rw [a1]
      rfl
    | lst l =>
      obtain ⟨ps, a1, a2, a3⟩ := all l h
      refine ⟨.list ps, ?_, by simp only [PyData.canLay0]; exact a2, by simp only [PyData.depth]; omega⟩
      show (toPL l).map _ = _
      rw [a1]
      rfl
    | _ => cases h
theorem eqv_str (x y : Nat) : PyData.eqv (.str (nm x)) (.str (nm y)) = Nat.beq x y := by
  simp only [PyData.eqv]
  rw [nm_beq]
  exact Bool.eq_iff_iff.mpr ⟨fun h => by rw [eq_of_beq h]; exact Nat.beq_refl y, fun h => by rw [Nat.eq_of_beq_eq_true h]; exact beq_self_eq_true y⟩
theorem okL_toPL {n : Nat} {l : List D} (h : l.all (okF n) = true) : ∃ ps, toPL l = some ps := by
  induction l with
  | nil => exact ⟨[], rfl⟩
  | cons d l ih =>
    obtain ⟨h1, h2⟩ := Bool.and_eq_true_iff.mp h
    obtain ⟨p, a1, _, _⟩ := okF_toP n d h1
    obtain ⟨ps, b1⟩ := ih h2
    refine ⟨p :: ps, ?_⟩
    show (toP d).bind _ = _
    rw [a1]
    show (toPL l).map _ = _
    rw [b1]
    rfl
theorem toPL_cons {d : D} {l : List D} {qs : List PyData} (h : toPL (d :: l) = some qs) : ∃ p ps, toP d = some p ∧ toPL l = some ps ∧ qs = p :: ps := by
  obtain ⟨p, a1, a2⟩ := Option.bind_eq_some_iff.mp (show (toP d).bind (fun p => (toPL l).map fun ps => p :: ps) = some qs from h)
  obtain ⟨ps, b1, b2⟩ := Option.map_eq_some_iff.mp a2
  exact ⟨p, ps, a1, b1, b2.symm⟩
theorem allF_eqv {n : Nat} (ih : ∀ d e p q, okF n d = true → okF n e = true → toP d = some p → toP e = some q → eqF n d e = PyData.eqv p q) : ∀ (l m : List D) (ps qs : List PyData), l.all (okF n) = true → m.all (okF n) = true → toPL l = some ps → toPL m = some qs → allF (eqF n) l m = PyData.eqvAll ps qs
  | [], [], ps, qs, _, _, a, b => by
    have a' := Option.some.inj a
    have b' := Option.some.inj b
    subst a' b'
    simp [PyData.eqvAll, allF]
  | [], e :: m, ps, qs, _, _, a, b => by
    have a' := Option.some.inj a
    subst a'
    obtain ⟨q, qs', _, _, rfl⟩ := toPL_cons b
    simp [PyData.eqvAll, allF]
  | d :: l, [], ps, qs, _, _, a, b => by
    have b' := Option.some.inj b
    subst b'
    obtain ⟨q, qs', _, _, rfl⟩ := toPL_cons a
    simp [PyData.eqvAll, allF]
  | d :: l, e :: m, ps, qs, h1, h2, a, b => by
    obtain ⟨p, ps', a1, a2, rfl⟩ := toPL_cons a
    obtain ⟨q, qs', b1, b2, rfl⟩ := toPL_cons b
    obtain ⟨c1, c2⟩ := Bool.and_eq_true_iff.mp h1
    obtain ⟨d1, d2⟩ := Bool.and_eq_true_iff.mp h2
    simp only [PyData.eqvAll, allF]
    rw [ih d e p q c1 d1 a1 b1, allF_eqv ih l m ps' qs' c2 d2 a2 b2]
theorem eqF_eqv : ∀ (n : Nat) (d e : D) (p q : PyData), okF n d = true → okF n e = true → toP d = some p → toP e = some q → eqF n d e = PyData.eqv p q := by
  intro n
  induction n with
  | zero =>
    intro d e p q h1 h2 a b
    cases d <;> first | (cases h1; done) | skip
    all_goals (cases e <;> first | (cases h2; done) | skip)
    all_goals (have a' := Option.some.inj a; have b' := Option.some.inj b; subst a' b')
    all_goals first | exact (eqv_str _ _).symm | (simp [PyData.eqv, eqF]; done) | rfl
  | succ n ih =>
    intro d e p q h1 h2 a b
    cases d <;> first | (cases h1; done) | skip
    all_goals (cases e <;> first | (cases h2; done) | skip)
    case tup.tup l m =>
      obtain ⟨ps, a1, rfl⟩ := Option.map_eq_some_iff.mp (show (toPL l).map .tuple = some p from a)
      obtain ⟨qs, b1, rfl⟩ := Option.map_eq_some_iff.mp (show (toPL m).map .tuple = some q from b)
      simp only [PyData.eqv, eqF]
      exact allF_eqv ih l m ps qs h1 h2 a1 b1
    case lst.lst l m =>
      obtain ⟨ps, a1, rfl⟩ := Option.map_eq_some_iff.mp (show (toPL l).map .list = some p from a)
      obtain ⟨qs, b1, rfl⟩ := Option.map_eq_some_iff.mp (show (toPL m).map .list = some q from b)
      simp only [PyData.eqv, eqF]
      exact allF_eqv ih l m ps qs h1 h2 a1 b1
    all_goals (try (obtain ⟨ps, a1, rfl⟩ := Option.map_eq_some_iff.mp a))
    all_goals (try (obtain ⟨qs, b1, rfl⟩ := Option.map_eq_some_iff.mp b))
    all_goals (try (have a' := Option.some.inj a; subst a'))
    all_goals (try (have b' := Option.some.inj b; subst b'))
    all_goals first | exact (eqv_str _ _).symm | (simp [PyData.eqv, eqF]; done) | rfl
theorem okF_shaped {n : Nat} {d : D} (hn : n ≤ 64) (h : okF n d = true) : ∃ p, toP d = some p ∧ SeqAt.shaped p = true := by
  obtain ⟨p, a1, a2, a3⟩ := okF_toP n d h
  refine ⟨p, a1, ?_⟩
  unfold SeqAt.shaped
  rw [a2, decide_eq_true (Nat.le_trans a3 hn)]
  rfl
def eqB (d e : D) : Option Bool := if (okF 12 d && okF 12 e) = true then some (eqF 12 d e) else none
theorem eqB_some {d e : D} {b : Bool} (h : eqB d e = some b) : ∃ p q, toP d = some p ∧ toP e = some q ∧ SeqAt.shaped p = true ∧ SeqAt.shaped q = true ∧ b = PyData.eqv p q := by
  obtain ⟨h1, h2⟩ := ite_some h
  obtain ⟨h3, h4⟩ := Bool.and_eq_true_iff.mp h1
  obtain ⟨p, a1, a2⟩ := okF_shaped (by decide) h3
  obtain ⟨q, b1, b2⟩ := okF_shaped (by decide) h4
  exact ⟨p, q, a1, b1, a2, b2, by rw [← h2]; exact eqF_eqv 12 d e p q h3 h4 a1 b1⟩
def eqD (d e : D) : Option D := (eqB d e).map .bl
def neD (d e : D) : Option D := (eqB d e).map fun b => .bl (!b)
def intsD : List D → Option (List Int)
  | [] => some []
  | .int i :: l => (intsD l).map fun r => i :: r
  | _ :: _ => none
def intsOf : D → Option (List Int)
  | .tup l => intsD l
  | _ => none
/-- x in c, by data -/
def inB (d c : D) : Option Bool := match c with
  | .set l => (intsOf d).map fun k => l.contains k
  | .lst ds => if (okF 12 d && ds.all (okF 12)) = true then some (ds.any fun z => eqF 12 z d) else none
  | .tup ds => if (okF 12 d && ds.all (okF 12)) = true then some (ds.any fun z => eqF 12 z d) else none
  | _ => none
def inD (d c : D) : Option D := (inB d c).map .bl
def notInD (d c : D) : Option D := (inB d c).map fun b => .bl (!b)
theorem any_eqv {d : D} {p : PyData} (hd : okF 12 d = true) (hp : toP d = some p) : ∀ {ds : List D} {ps : List PyData}, ds.all (okF 12) = true → toPL ds = some ps → (ds.any fun z => eqF 12 z d) = ps.any fun z => PyData.eqv z p
  | [], ps, _, e => by
    have e' := Option.some.inj e
    subst e'
    rfl
  | z :: ds, ps, h, e => by
    obtain ⟨q, qs, e1, e2, rfl⟩ := toPL_cons e
    obtain ⟨h1, h2⟩ := Bool.and_eq_true_iff.mp h
    rw [List.any_cons, List.any_cons, any_eqv hd hp h2 e2, eqF_eqv 12 z d q p h1 hd e1 hp]
section
variable {X : Cx}
theorem pu_eq : Pure2 X (rEqD X.K) eqD := by
  intro B H x y d e z Q _ r1 r2 h q
  obtain ⟨b, e1, rfl⟩ := Option.map_eq_some_iff.mp h
  obtain ⟨p, p', f1, g1, f2, g2, rfl⟩ := eqB_some e1
  exact ⟨p, p', wk_dp f1 r1, wk_dp g1 r2, f2, g2, q H _ (Same.refl H) rfl⟩
theorem pu_ne : Pure2 X (rNeD X.K) neD := by
  intro B H x y d e z Q _ r1 r2 h q
  obtain ⟨b, e1, rfl⟩ := Option.map_eq_some_iff.mp h
  obtain ⟨p, p', f1, g1, f2, g2, rfl⟩ := eqB_some e1
  exact ⟨p, p', wk_dp f1 r1, wk_dp g1 r2, f2, g2, q H _ (Same.refl H) rfl⟩

/-! ### in -/
def rInT (K : PySem.W.Frag) : R2 := fun x y H Q => ∃ d ds, Dp K H x d ∧ Dp K H y (.tuple ds) ∧ SeqAt.shaped d = true ∧ SeqAt.shaped (.tuple ds) = true ∧ Q (.bl (ds.any fun z => PyData.eqv z d)) H
def rNotInT (K : PySem.W.Frag) : R2 := fun x y H Q => ∃ d ds, Dp K H x d ∧ Dp K H y (.tuple ds) ∧ SeqAt.shaped d = true ∧ SeqAt.shaped (.tuple ds) = true ∧ Q (.bl (!ds.any fun z => PyData.eqv z d)) H
theorem room_shp {A : Around} {xs : List PyData} {d : PyData} (hd : SeqAt.shaped d = true) (hu : A.units + 65 < cLine) : A.units + 1 + min (PyData.depthAll xs) d.depth < cLine := by
  have h1 := SeqAt.depth_of_shaped hd
  have h2 : min (PyData.depthAll xs) d.depth ≤ d.depth := Nat.min_le_right _ _
  omega
theorem op_inT (hu : X.A.units + 65 < cLine) : OpR X (compareOp .In) (rInT X.K) := by
  intro pins s σ H x y v u Q I rx ry h
  obtain ⟨d, ds, hd, he, sd, se, q⟩ := h
  obtain ⟨as, r1⟩ := Dp.reads I d x v hd rx
  obtain ⟨bs, r2⟩ := Dp.reads I (.tuple ds) y u he ry
  exact SeqAt.in_tuple_reads r2 r1 (SeqAt.canLay_of_shaped se) (SeqAt.canLay_of_shaped sd) (room_shp sd hu) ⟨.bl _, H, I, rfl, q⟩
theorem op_notInT (hu : X.A.units + 65 < cLine) : OpR X (compareOp .NotIn) (rNotInT X.K) := by
  intro pins s σ H x y v u Q I rx ry h
  obtain ⟨d, ds, hd, he, sd, se, q⟩ := h
  obtain ⟨as, r1⟩ := Dp.reads I d x v hd rx
  obtain ⟨bs, r2⟩ := Dp.reads I (.tuple ds) y u he ry
  exact SeqAt.notIn_tuple_reads r2 r1 (SeqAt.canLay_of_shaped se) (SeqAt.canLay_of_shaped sd) (room_shp sd hu) ⟨.bl _, H, I, rfl, q⟩

/-! ### ints -/
def i2 (g : Int → Int → Option D) (d e : D) : Option D := match d, e with
  | .int i, .int j => g i j
  | _, _ => none
theorem i2_some {g : Int → Int → Option D} {d e z : D} (h : i2 g d e = some z) : ∃ i j, d = .int i ∧ e = .int j ∧ g i j = some z := by
  cases d with
  | int i =>
    cases e with
    | int j => exact ⟨i, j, rfl, rfl, h⟩
    | _ => cases h
  | _ => cases h
theorem pu_i0 {g : Int → Int → V} {f : Int → Int → D} (hr : ∀ {T : Tx} {B : Addr → Prop} {H : Hp} i j, Rel T B H (f i j) (g i j)) : Pure2 X (rI0 g) (i2 fun i j => some (f i j)) := by
  intro B H x y d e z Q _ r1 r2 h q
  obtain ⟨i, j, rfl, rfl, e1⟩ := i2_some h
  have e2 := Option.some.inj e1
  subst e2
  exact ⟨i, j, r1, r2, q H _ (Same.refl H) (hr i j)⟩
theorem pu_iC {C : Int → Int → Prop} {c : Int → Int → Bool} {g : Int → Int → V} {f : Int → Int → D} (hc : ∀ i j, c i j = true → C i j) (hr : ∀ {T : Tx} {B : Addr → Prop} {H : Hp} i j, Rel T B H (f i j) (g i j)) : Pure2 X (rI C g) (i2 fun i j => if c i j = true then some (f i j) else none) := by
  intro B H x y d e z Q _ r1 r2 h q
  obtain ⟨i, j, rfl, rfl, e1⟩ := i2_some h
  obtain ⟨e2, e3⟩ := ite_some e1
  subst e3
  exact ⟨i, j, r1, r2, hc i j e2, q H _ (Same.refl H) (hr i j)⟩
def subD := i2 fun i j => some (.int (i - j))
def ltI := i2 fun i j => some (.bl (decide (i < j)))
def leI := i2 fun i j => some (.bl (decide (i ≤ j)))
def gtI := i2 fun i j => some (.bl (decide (j < i)))
def geI := i2 fun i j => some (.bl (decide (j ≤ i)))
theorem pu_sub : Pure2 X (rI0 fun i j => .int (i - j)) subD := pu_i0 (g := fun i j => .int (i - j)) (f := fun i j => .int (i - j)) fun _ _ => rfl
theorem pu_ltI : Pure2 X (rI0 fun i j => .bl (decide (i < j))) ltI := pu_i0 (g := fun i j => .bl (decide (i < j))) (f := fun i j => .bl (decide (i < j))) fun _ _ => rfl
theorem pu_leI : Pure2 X (rI0 fun i j => .bl (decide (i ≤ j))) leI := pu_i0 (g := fun i j => .bl (decide (i ≤ j))) (f := fun i j => .bl (decide (i ≤ j))) fun _ _ => rfl
theorem pu_gtI : Pure2 X (rI0 fun i j => .bl (decide (j < i))) gtI := pu_i0 (g := fun i j => .bl (decide (j < i))) (f := fun i j => .bl (decide (j < i))) fun _ _ => rfl
theorem pu_geI : Pure2 X (rI0 fun i j => .bl (decide (j ≤ i))) geI := pu_i0 (g := fun i j => .bl (decide (j ≤ i))) (f := fun i j => .bl (decide (j ≤ i))) fun _ _ => rfl
def mulC (i j : Int) : Bool := Nat.blt i.natAbs 18446744073709551616 || Nat.blt j.natAbs 18446744073709551616
theorem mulC_ok (i j : Int) (h : mulC i j = true) : CMul i j := by
  unfold mulC at h
  rcases Bool.or_eq_true_iff.mp h with h | h
  · exact .inl (by have := Nat.lt_of_lt_of_le (Nat.le_of_ble_eq_true h) (Nat.le_refl _); omega)
  · exact .inr (by have := Nat.lt_of_lt_of_le (Nat.le_of_ble_eq_true h) (Nat.le_refl _); omega)
def mulI := i2 fun i j => if mulC i j = true then some (.int (i * j)) else none
theorem pu_mulI : Pure2 X (rI CMul fun i j => .int (i * j)) mulI := pu_iC (g := fun i j => .int (i * j)) (f := fun i j => .int (i * j)) mulC_ok fun _ _ => rfl
def divC (i j : Int) : Bool := decide (j ≠ 0) && Nat.blt j.natAbs 1073741824
theorem divC_ok (i j : Int) (h : divC i j = true) : CDivN i j := by
  obtain ⟨h1, h2⟩ := Bool.and_eq_true_iff.mp h
  exact ⟨of_decide_eq_true h1, Nat.le_of_ble_eq_true h2⟩
def fdivD := i2 fun i j => if divC i j = true then some (.int (i.fdiv j)) else none
theorem pu_fdiv : Pure2 X (rI CDivN fun i j => .int (i.fdiv j)) fdivD := pu_iC (g := fun i j => .int (i.fdiv j)) (f := fun i j => .int (i.fdiv j)) divC_ok fun _ _ => rfl
def modC (i j : Int) : Bool := decide (j ≠ 0)
def modD := i2 fun i j => if modC i j = true then some (.int (i.fmod j)) else none
theorem pu_mod : Pure2 X (rI (fun _ j => j ≠ 0) fun i j => .int (i.fmod j)) modD := pu_iC (g := fun i j => .int (i.fmod j)) (f := fun i j => .int (i.fmod j)) (fun _ _ h => of_decide_eq_true h) fun _ _ => rfl
def powC (i j : Int) : Bool := decide (0 ≤ j) && (decide (j ≤ 1000) && Nat.blt i.natAbs 18446744073709551616)
theorem powC_ok (i j : Int) (h : powC i j = true) : CPow i j := by
  obtain ⟨h1, h2⟩ := Bool.and_eq_true_iff.mp h
  obtain ⟨h3, h4⟩ := Bool.and_eq_true_iff.mp h2
  have h5 := of_decide_eq_true h3
  exact ⟨of_decide_eq_true h1, by omega, Nat.le_of_ble_eq_true h4⟩
def powD := i2 fun i j => if powC i j = true then some (.int (i ^ j.toNat)) else none
theorem pu_pow : Pure2 X (rI CPow fun i j => .int (i ^ j.toNat)) powD := pu_iC (g := fun i j => .int (i ^ j.toNat)) (f := fun i j => .int (i ^ j.toNat)) powC_ok fun _ _ => rfl
def negD : D → Option D
  | .int i => some (.int (-i))
  | _ => none
theorem pu_neg : Pure1 X (rU fun i => .int (-i)) negD := by
  intro B H x d z Q _ r h q
  cases d with
  | int i =>
    have e := Option.some.inj h
    subst e
    exact ⟨i, r, q H _ (Same.refl H) rfl⟩
  | _ => cases h

/-! ### None -/
def isN : D → Option D
  | .non => some (.bl true)
  | _ => some (.bl false)
theorem rel_non {T : Tx} {B : Addr → Prop} {H : Hp} {d : D} {v : V} (r : Wk T B H d v) : isN d = some (.bl (decide (v = .non))) := by
  cases d with
  | non => rw [show v = .non from r]; rfl
  | bl b => rw [show v = .bl b from r]; rfl
  | int b => rw [show v = .int b from r]; rfl
  | str b => rw [show v = .str (nm b) from r]; rfl
  | tup l => obtain ⟨a, _, rfl, _⟩ := r; rfl
  | lst l => obtain ⟨a, _, rfl, _⟩ := r; rfl
  | obj c n d => obtain ⟨a, _, _, rfl, _⟩ := r; rfl
  | set l => obtain ⟨a, _, rfl, _⟩ := r; rfl
  | cls c => rw [show v = .ref _ from r]; rfl
  | scr l => obtain ⟨a, rfl, _⟩ := r; rfl
  | xc _ _ _ => obtain ⟨a, _, _, _, rfl, _⟩ := r; rfl
end

/-! ### sums of texts of rules: + of ints, tuples, lists -/
section
variable {X : Cx}
def addD (d e : D) : Option D := match d, e with
  | .int i, .int j => some (.int (i + j))
  | .tup a, .tup b => if small (a.length + b.length) = true then some (.tup (a ++ b)) else none
  | .lst a, .lst b => if small (a.length + b.length) = true then some (.lst (a ++ b)) else none
  | _, _ => none
def rAddA (K : PySem.W.Frag) : R2 := fun x y H Q => ((rI0 fun i j => .int (i + j)) x y H Q ∨ rCatA K x y H Q) ∨ rCat x y H Q
theorem op_addA : OpR X (binaryOp .Add) (rAddA X.K) := (op_add.or op_catA).or op_cat
theorem pu_add : Pure2 X (rAddA X.K) addD := by
  intro B H x y d e z Q w r1 r2 h q
  cases d with
  | int i =>
    cases e with
    | int j =>
      have e := Option.some.inj h
      subst e
      exact .inl (.inl ⟨i, j, r1, r2, q H _ (Same.refl H) rfl⟩)
    | _ => cases h
  | tup l =>
    cases e with
    | tup l' =>
      obtain ⟨e1, rfl⟩ := ite_some h
      obtain ⟨a, vs, rfl, a1, a2⟩ := r1
      obtain ⟨b, ws, rfl, b1, b2⟩ := r2
      have l1 := a2.length
      have l2 := b2.length
      refine .inl (.inr ⟨a, b, vs, ws, rfl, rfl, a1.sq, b1.sq, by rw [← l1, ← l2]; exact small_line e1, fun e0 => ?_, fun _ e0 => ?_, fun _ _ p hp => ?_⟩)
      · subst e0
        have e2 : l = [] := List.length_eq_zero_iff.mp l1
        subst e2
        exact q H _ (Same.refl H) ⟨b, ws, rfl, b1, b2⟩
      · subst e0
        have e2 : l' = [] := List.length_eq_zero_iff.mp l2
        subst e2
        exact q H _ (Same.refl H) ⟨a, vs, rfl, a1, by rw [List.append_nil]; exact a2⟩
      · exact q _ _ (Same.upd hp) ⟨p, vs ++ ws, rfl, .inl ⟨upd_same, fresh_bar w hp⟩, RelL.ext (.same (Same.upd hp)) _ (a2.append b2)⟩
    | _ => cases h
  | lst l =>
    cases e with
    | lst l' =>
      obtain ⟨e1, rfl⟩ := ite_some h
      obtain ⟨a, vs, rfl, a1, a2⟩ := r1
      obtain ⟨b, ws, rfl, b1, b2⟩ := r2
      have l1 := a2.length
      have l2 := b2.length
      exact .inr ⟨a, b, vs, ws, rfl, rfl, a1, b1, by rw [← l1, ← l2]; exact small_line e1, fun p hp => q _ _ (Same.upd hp) ⟨p, vs ++ ws, rfl, upd_same, fresh_bar w hp, RelL.ext (.same (Same.upd hp)) _ (a2.append b2)⟩⟩
    | _ => cases h
  | _ => cases h
/-- + of lists: a new list -/
def catD (d e : D) : Option D := match d, e with
  | .lst a, .lst b => if small (a.length + b.length) = true then some (.lst (a ++ b)) else none
  | _, _ => none
theorem pu_cat : Pure2F X rCat catD := by
  intro B H x y d e z Q w r1 r2 h q
  cases d with
  | lst l =>
    cases e with
    | lst l' =>
      obtain ⟨e1, rfl⟩ := ite_some h
      obtain ⟨a, vs, rfl, a1, a2⟩ := r1
      obtain ⟨b, ws, rfl, b1, b2⟩ := r2
      have l1 := a2.length
      have l2 := b2.length
      exact ⟨a, b, vs, ws, rfl, rfl, a1, b1, by rw [← l1, ← l2]; exact small_line e1, fun p hp => q p _ _ rfl hp (a2.append b2)⟩
    | _ => cases h
  | _ => cases h
/-- * of ints, of a list and an int -/
def repL (l : List D) (n : Nat) : List D := (List.replicate n l).flatten
def mulD (d e : D) : Option D := match d, e with
  | .int i, .int j => if mulC i j = true then some (.int (i * j)) else none
  | .lst l, .int k => if (decide (-1000000 < k) && decide (k < 1000000) && small (l.length * k.toNat)) = true then some (.lst (repL l k.toNat)) else none
  | _, _ => none

/-! ### items, slices -/
def listOf : D → Option (List D)
  | .tup l => some l
  | .lst l => some l
  | .scr l => some (l.map .int)
  | _ => none
theorem atI_rel {T : Tx} {B : Addr → Prop} {H : Hp} {ds : List D} {vs : List V} {i : Int} {d : D} (r : RelL T B H ds vs) (h : atI ds i = some d) : ∃ v, atI vs i = some v ∧ Rel T B H d v := by
  unfold atI at h ⊢
  rw [← r.length]
  obtain ⟨j, e1, e2⟩ := Option.bind_eq_some_iff.mp h
  obtain ⟨v, e3, e4⟩ := r.get e2
  exact ⟨v, by rw [e1]; exact e3, e4⟩
theorem relL_ints {T : Tx} {B : Addr → Prop} {H : Hp} : ∀ l : List Int, RelL T B H (l.map .int) (l.map V.int)
  | [] => trivial
  | _ :: l => ⟨rfl, relL_ints l⟩
theorem seq_of {B : Addr → Prop} {H : Hp} {d : D} {v : V} {l : List D} (r : Wk (tx X) B H d v) (h : listOf d = some l) : ∃ a vs, v = .ref a ∧ (SqL X.K H a vs ∨ SqT X.K H a vs) ∧ RelL (tx X) B H l vs := by
  cases d with
  | tup l' =>
    have e := Option.some.inj h
    subst e
    obtain ⟨a, vs, rfl, a1, a2⟩ := r
    exact ⟨a, vs, rfl, .inr a1.sq, a2⟩
  | lst l' =>
    have e := Option.some.inj h
    subst e
    obtain ⟨a, vs, rfl, a1, a2⟩ := r
    exact ⟨a, vs, rfl, .inl (SqL.of a1), a2⟩
  | scr l' =>
    have e := Option.some.inj h
    subst e
    obtain ⟨a, rfl, a1⟩ := r
    exact ⟨a, _, rfl, .inl a1.sq, relL_ints l'⟩
  | _ => cases h
def ixD (d e : D) : Option D := match e with
  | .int i => (listOf d).bind fun l => atI l i
  | _ => none
theorem pu_ix : Pure2 X (rIx X.K) ixD := by
  intro B H x y d e z Q w r1 r2 h q
  cases e with
  | int i =>
    obtain ⟨l, e1, e2⟩ := Option.bind_eq_some_iff.mp h
    obtain ⟨a, vs, rfl, s, rl⟩ := seq_of r1 e1
    obtain ⟨v, e3, e4⟩ := atI_rel rl e2
    rcases s with s | s
    · exact .inl ⟨a, vs, i, v, rfl, r2, s, e3, q H v (Same.refl H) e4⟩
    · exact .inr (.inl ⟨a, vs, i, v, rfl, r2, s, e3, q H v (Same.refl H) e4⟩)
  | _ => cases h
section
variable {Wx : WX} {ms : Ms} {a b : Expr} {fa fb : M D} {pos : Pos}
theorem de_ix (ha : DE X Wx ms a fa) (hb : DK X Wx ms b fb) (hs : PlainIx b := by exact fun _ _ => rfl) : DE X Wx ms (.Subscript a b pos) (op2 ixD fa fb) := fun B W env σ H Q o h =>
  PE.tm (pe_ix ix_seq pe_tm pe_tm hs) (tm_op2 pu_ix ha hb o h)
end

/-! ### built-ins -/
def lenD (d : D) : Option D := (listOf d).map fun l => .int l.length
theorem relL1 {T : Tx} {B : Addr → Prop} {H : Hp} {d : D} {xs : List V} (r : RelL T B H [d] xs) : ∃ x, xs = [x] ∧ Rel T B H d x := by
  match xs, r with
  | [x], r => exact ⟨x, rfl, r.1⟩
  | [], r => exact r.elim
  | _ :: _ :: _, r => exact r.2.elim
theorem relL2 {T : Tx} {B : Addr → Prop} {H : Hp} {d e : D} {xs : List V} (r : RelL T B H [d, e] xs) : ∃ x y, xs = [x, y] ∧ Rel T B H d x ∧ Rel T B H e y := by
  match xs, r with
  | x :: ys, r =>
    obtain ⟨y, rfl, r2⟩ := relL1 r.2
    exact ⟨x, y, rfl, r.1, r2⟩
  | [], r => exact r.elim
theorem pu_len : Pure1 X (r1N fun xs H Q => ∃ p ys, xs = [.ref p] ∧ (SqL X.K H p ys ∨ SqT X.K H p ys) ∧ Q (.int ys.length) H) lenD := by
  intro B H x d z Q w rx h q
  obtain ⟨l, e1, rfl⟩ := Option.map_eq_some_iff.mp h
  obtain ⟨a, vs, rfl, s, rl⟩ := seq_of rx e1
  exact ⟨a, vs, rfl, s, q H _ (Same.refl H) (by rw [← rl.length]; rfl)⟩
def tupleD : D → Option D
  | .lst l => some (.tup l)
  | .tup l => some (.tup l)
  | _ => none
theorem pu_tuple : Pure1 X (r1N fun xs H Q => ∃ p ys, xs = [.ref p] ∧ ((SqL X.K H p ys ∧ ∀ l, H l = none → Q (.ref l) (upd H l (.tup ys))) ∨ (SqT X.K H p ys ∧ Q (.ref p) H))) tupleD := by
  intro B H x d z Q w rx h q
  cases d with
  | lst l =>
    have e := Option.some.inj h
    subst e
    obtain ⟨a, vs, rfl, a1, a2⟩ := rx
    exact ⟨a, vs, rfl, .inl ⟨SqL.of a1, fun p hp => q _ _ (Same.upd hp) ⟨p, vs, rfl, .inl ⟨upd_same, fresh_bar w hp⟩, RelL.ext (.same (Same.upd hp)) _ a2⟩⟩⟩
  | tup l =>
    have e := Option.some.inj h
    subst e
    obtain ⟨a, vs, rfl, a1, a2⟩ := rx
    exact ⟨a, vs, rfl, .inr ⟨a1.sq, q _ _ (Same.refl H) ⟨a, vs, rfl, a1, a2⟩⟩⟩
  | _ => cases h
def listD : D → Option D
  | .lst l => some (.lst l)
  | .tup l => some (.lst l)
  | _ => none
theorem pu_list : Pure1F X (r1N fun xs H Q => ∃ p ys, xs = [.ref p] ∧ (SqL X.K H p ys ∨ SqT X.K H p ys) ∧ ∀ l, H l = none → Q (.ref l) (upd H l (.lst ys))) listD := by
  intro B H x d z Q w rx h q
  cases d with
  | lst l =>
    have e := Option.some.inj h
    subst e
    obtain ⟨a, vs, rfl, a1, a2⟩ := rx
    exact ⟨a, vs, rfl, .inl (SqL.of a1), fun p hp => q p _ _ rfl hp a2⟩
  | tup l =>
    have e := Option.some.inj h
    subst e
    obtain ⟨a, vs, rfl, a1, a2⟩ := rx
    exact ⟨a, vs, rfl, .inr a1.sq, fun p hp => q p _ _ rfl hp a2⟩
  | _ => cases h
def intD : D → Option D
  | .int i => some (.int i)
  | .bl b => some (.int (if b then 1 else 0))
  | _ => none
theorem pu_int : Pure1 X (r1N fun xs H Q => (∃ i, xs = [.int i] ∧ Q (.int i) H) ∨ ∃ k, xs = [.bl k] ∧ Q (.int (if k then 1 else 0)) H) intD := by
  intro B H x d z Q w rx h q
  cases d with
  | int i =>
    have e := Option.some.inj h
    subst e
    exact .inl ⟨i, by rw [show x = .int i from rx], q H _ (Same.refl H) rfl⟩
  | bl b =>
    have e := Option.some.inj h
    subst e
    exact .inr ⟨b, by rw [show x = .bl b from rx], q H _ (Same.refl H) rfl⟩
  | _ => cases h
def absD : D → Option D
  | .int i => some (.int (if i < 0 then -i else i))
  | _ => none
theorem pu_abs : Pure1 X (r1N fun xs H Q => ∃ i, xs = [.int i] ∧ Q (.int (if i < 0 then -i else i)) H) absD := by
  intro B H x d z Q w rx h q
  cases d with
  | int i =>
    have e := Option.some.inj h
    subst e
    exact ⟨i, by rw [show x = .int i from rx], q H _ (Same.refl H) rfl⟩
  | _ => cases h
def max2D : List D → Option D
  | [.int i, .int j] => some (.int (if j > i then j else i))
  | _ => none
def min2D : List D → Option D
  | [.int i, .int j] => some (.int (if j < i then j else i))
  | _ => none
theorem pu_max2 : PureN X (fun xs H Q => ∃ i j, xs = [.int i, .int j] ∧ Q (.int (if j > i then j else i)) H) max2D := by
  intro B H xs ds z Q w r h q
  match ds, h with
  | [.int i, .int j], h =>
    obtain ⟨x, y, rfl, rx, ry⟩ := relL2 r
    have e := Option.some.inj h
    subst e
    exact ⟨i, j, by rw [show x = .int i from rx, show y = .int j from ry], q H _ (Same.refl H) rfl⟩
theorem pu_min2 : PureN X (fun xs H Q => ∃ i j, xs = [.int i, .int j] ∧ Q (.int (if j < i then j else i)) H) min2D := by
  intro B H xs ds z Q w r h q
  match ds, h with
  | [.int i, .int j], h =>
    obtain ⟨x, y, rfl, rx, ry⟩ := relL2 r
    have e := Option.some.inj h
    subst e
    exact ⟨i, j, by rw [show x = .int i from rx, show y = .int j from ry], q H _ (Same.refl H) rfl⟩
theorem intsD_rel {T : Tx} {B : Addr → Prop} {H : Hp} : ∀ {ds : List D} {ns : List Int} {vs : List V}, intsD ds = some ns → RelL T B H ds vs → vs = ns.map V.int ∧ ds = ns.map .int
  | [], ns, [], e, _ => by
    have e' := Option.some.inj e
    subst e'
    exact ⟨rfl, rfl⟩
  | [], _, _ :: _, _, r => r.elim
  | _ :: _, _, [], _, r => r.elim
  | .int i :: l, ns, v :: vs, e, r => by
    obtain ⟨r', e1, rfl⟩ := Option.map_eq_some_iff.mp e
    obtain ⟨e2, e3⟩ := intsD_rel e1 r.2
    exact ⟨by rw [show v = .int i from r.1, e2]; rfl, by rw [e3]; rfl⟩
def sumD : D → Option D
  | .lst l => (intsD l).map fun ns => .int ns.sum
  | _ => none
theorem pu_sum : Pure1 X (r1N (rSum X.K)) sumD := by
  intro B H x d z Q w rx h q
  cases d with
  | lst l =>
    obtain ⟨ns, e1, rfl⟩ := Option.map_eq_some_iff.mp h
    obtain ⟨a, vs, rfl, a1, a2⟩ := rx
    obtain ⟨e2, _⟩ := intsD_rel e1 a2
    subst e2
    exact ⟨a, ns, rfl, SqL.of a1, q H _ (Same.refl H) rfl⟩
  | _ => cases h
end
end DL

set_option Elab.async false
set_option linter.all false
set_option maxRecDepth 100000
set_option maxHeartbeats 4000000
namespace DL
open PySem PySem.Spec L2

/-! ### statements -/
inductive Fl where
  | nx | rt (d : D) | bk | ct
def tmS (X : Cx) (st : Stmt) : TS := fun D σ H => ∀ pins s, Inv X pins σ H s → wpAny (model X.prog X.w) X.A (exec st X.env) (SP X pins D) X.xe s
theorem ps_tm {X : Cx} {st : Stmt} : PS X st (tmS X st) := ⟨fun pins s _ _ _ I h => h pins s I⟩
theorem PS.tm {X : Cx} {st : Stmt} {t : TS} (h : PS X st t) {σ : St} {H : Hp} {D : Ends} (q : t D σ H) : tmS X st D σ H := fun pins s I => h.run pins s σ H D I q
def tmSs (X : Cx) (st : List Stmt) : TS := fun D σ H => ∀ pins s, Inv X pins σ H s → wpAny (model X.prog X.w) X.A (execs st X.env) (SP X pins D) X.xe s
theorem pss_tm {X : Cx} {st : List Stmt} : PSs X st (tmSs X st) := ⟨fun pins s _ _ _ I h => h pins s I⟩
theorem PSs.tm {X : Cx} {st : List Stmt} {t : TS} (h : PSs X st t) {σ : St} {H : Hp} {D : Ends} (q : t D σ H) : tmSs X st D σ H := fun pins s I => h.run pins s σ H D I q

def PoS (T : Tx) (Wx : WX) (ms : Ms) (k : Rk T D V) (B : Br) (W : Addr → Prop) (H : Hp) (r : R Fl) (Dn : Ends) : Prop := match r with
  | .ok .nx env' => ∀ W' H' σ', Nxt W H W' H' → Ok T ms B W' env' σ' H' → Dn.nx σ' H'
  | .ok (.rt d) env' => ∀ W' H' σ' v, Nxt W H W' H' → Ok T ms B W' env' σ' H' → k.r σ' env' H B W' H' d v → Dn.rt v H'
  | .ok .bk env' => ∀ W' H' σ', Nxt W H W' H' → Ok T ms B W' env' σ' H' → Dn.bk σ' H'
  | .ok .ct env' => ∀ W' H' σ', Nxt W H W' H' → Ok T ms B W' env' σ' H' → Dn.ct σ' H'
  | .err c ns ds env' => ∀ W' H' σ' dx vs, Nxt W H W' H' → Ok T ms B W' env' σ' H' → H dx = none → H' dx = some (.xd ((nms ns).zip vs)) → ns.length = vs.length → RelL T (Bar B W') H' ds vs → Wx (.ref (He.ga T.K (nm c))) (some dx) σ' H'
  | .stuck => False
section
variable {T : Tx} {Wx : WX} {ms : Ms} {kr : Rk T D V} {B : Br} {W : Addr → Prop} {env : En} {σ : St} {H : Hp} {Dn : Ends}
theorem PoS.step {r : R Fl} {W1 : Addr → Prop} {H1 : Hp} (h : PoS T Wx ms kr B W H r Dn) (n : Nxt W H W1 H1) : PoS T Wx ms kr B W1 H1 r Dn := by
  cases r with
  | ok a env' =>
    cases a with
    | nx => exact fun W' H' σ' n' o => h W' H' σ' (n.trans n') o
    | rt d => exact fun W' H' σ' v n' o z => h W' H' σ' v (n.trans n') o (kr.mono n.back z)
    | bk => exact fun W' H' σ' n' o => h W' H' σ' (n.trans n') o
    | ct => exact fun W' H' σ' n' o => h W' H' σ' (n.trans n') o
  | err c ns ds env' => exact fun W' H' σ' dx vs n' o z1 z2 z3 z4 => h W' H' σ' dx vs (n.trans n') o (n.back _ z1) z2 z3 z4
  | stuck => exact h
/-- an expression, then something -/
theorem PoS.cont {α β : Type} {k1 : Rk T α β} {r : R α} {f : α → En → R Fl} {Q1 : β → Hp → Prop} (h : PoS T Wx ms kr B W H (r.bind f) Dn)
    (g : ∀ a env' W' H' v, Nxt W H W' H' → Ok T ms B W' env' σ H' → k1.r σ env' H B W' H' a v → PoS T Wx ms kr B W' H' (f a env') Dn → Q1 v H') : Po T Wx ms B W σ H k1 r Q1 := by
  cases r with
  | ok a env' => exact fun W' H' v n o z => g a env' W' H' v n o z (PoS.step (r := f a env') h n)
  | err c ns ds env' => exact fun W' H' dx vs n o z1 z2 z3 z4 => h W' H' σ dx vs n o z1 z2 z3 z4
  | stuck => exact h
end

section
variable (X : Cx) (Wx : WX) (ms : Ms) (kr : Rk (tx X) D V)
def DS (st : Stmt) (f : M Fl) : Prop := ∀ B W env σ H Dn, Ok (tx X) ms B W env σ H → PoS (tx X) Wx ms kr B W H (f env) Dn → tmS X st Dn σ H
def DSs (st : List Stmt) (f : M Fl) : Prop := ∀ B W env σ H Dn, Ok (tx X) ms B W env σ H → PoS (tx X) Wx ms kr B W H (f env) Dn → tmSs X st Dn σ H
end
def sSeq (f g : M Fl) : M Fl := fun env => (f env).bind fun fl env1 => match fl with
  | .nx => g env1
  | fl => .ok fl env1
def sNx : M Fl := fun env => .ok .nx env

section
variable {X : Cx} {Wx : WX} {ms : Ms} {kr : Rk (tx X) D V} {st : Stmt} {sts : List Stmt} {f g : M Fl} {pos : Pos}
theorem dss_nil : DSs X Wx ms kr [] sNx := fun B W env σ H Dn o h => PSs.tm pss_nil (h W H σ (Nxt.refl W H) o)
theorem PoS.seq {B : Br} {W : Addr → Prop} {H : Hp} {r : R Fl} {k : M Fl} {Dn : Ends} {t : TS}
    (h : PoS (tx X) Wx ms kr B W H (r.bind fun fl env1 => match fl with | .nx => k env1 | fl => .ok fl env1) Dn)
    (hg : ∀ env1 W1 H1 σ1, Nxt W H W1 H1 → Ok (tx X) ms B W1 env1 σ1 H1 → PoS (tx X) Wx ms kr B W1 H1 (k env1) Dn → t Dn σ1 H1) : PoS (tx X) Wx ms kr B W H r { Dn with nx := t Dn } := by
  cases r with
  | ok a env' =>
    cases a with
    | nx => exact fun W' H' σ' n o => hg env' W' H' σ' n o (PoS.step (r := k env') h n)
    | rt d => exact h
    | bk => exact h
    | ct => exact h
  | err c ns ds env' => exact h
  | stuck => exact h
theorem dss_cons (h1 : DS X Wx ms kr st f) (h2 : DSs X Wx ms kr sts g) : DSs X Wx ms kr (st :: sts) (sSeq f g) := fun B W env σ H Dn o h =>
  PSs.tm (pss_cons ps_tm pss_tm) (h1 _ _ _ _ _ _ o (PoS.seq (t := tmSs X sts) h fun env1 W1 H1 σ1 n1 o1 p => h2 _ _ _ _ _ _ o1 p))
theorem dss_one (h1 : DS X Wx ms kr st f) : DSs X Wx ms kr [st] f := fun B W env σ H Dn o h => PSs.tm (pss_one ps_tm) (h1 _ _ _ _ _ _ o h)
theorem ds_pass : DS X Wx ms kr (.Pass pos) sNx := fun B W env σ H Dn o h => PS.tm ps_pass (h W H σ (Nxt.refl W H) o)
theorem ds_break : DS X Wx ms kr (.Break pos) (fun env => .ok .bk env) := fun B W env σ H Dn o h => PS.tm ps_break (h W H σ (Nxt.refl W H) o)
theorem ds_cont : DS X Wx ms kr (.Continue pos) (fun env => .ok .ct env) := fun B W env σ H Dn o h => PS.tm ps_continue (h W H σ (Nxt.refl W H) o)
theorem ds_stuck : DS X Wx ms kr st (fun _ => .stuck) := fun B W env σ H Dn o h => h.elim
theorem dss_stuck : DSs X Wx ms kr sts (fun _ => .stuck) := fun B W env σ H Dn o h => h.elim
def sIf (c : M Bool) (f g : M Fl) : M Fl := fun env => (c env).bind fun b env1 => if b = true then f env1 else g env1
theorem ds_if {c : Expr} {a b : List Stmt} {gc : M Bool} (hc : DT X Wx ms c gc) (ha : DSs X Wx ms kr a f) (hb : DSs X Wx ms kr b g) : DS X Wx ms kr (.If c a b pos) (sIf gc f g) := fun B W env σ H Dn o h =>
  PS.tm (ps_if pt_tm pss_tm pss_tm) (hc _ _ _ _ _ _ o (PoS.cont (k1 := rkB (tx X)) h fun c env1 W1 H1 x n1 o1 r1 h1 => by
    have e : x = c := r1
    subst e
    cases x with
    | true => exact iteT (ha _ _ _ _ _ _ o1 h1)
    | false => exact iteF (hb _ _ _ _ _ _ o1 h1)))
def sExpr (f : M D) : M Fl := fun env => (f env).bind fun _ env1 => .ok .nx env1
theorem ds_expr {e : Expr} {fe : M D} (he : DE X Wx ms e fe) (hs : swapsWith e none pos.line X.env = pure false := by rfl) : DS X Wx ms kr (.Expr e pos) (sExpr fe) := fun B W env σ H Dn o h =>
  PS.tm (ps_expr pe_tm hs) (he _ _ _ _ _ _ o (PoS.cont (k1 := rkD (tx X)) h fun d env1 W1 H1 x n1 o1 r1 h1 => h1 W1 H1 σ (Nxt.refl W1 H1) o1))
def sRet (f : M D) : M Fl := fun env => (f env).bind fun d env1 => .ok (.rt d) env1
theorem ds_ret {e : Expr} {fe : M D} (he : DE X Wx ms e fe) : DS X Wx ms (rkD (tx X)) (.Return (some e) pos) (sRet fe) := fun B W env σ H Dn o h =>
  PS.tm (ps_ret pe_tm) (he _ _ _ _ _ _ o (PoS.cont (k1 := rkD (tx X)) h fun d env1 W1 H1 x n1 o1 r1 h1 => h1 W1 H1 σ x (Nxt.refl W1 H1) o1 r1))
theorem Fresh.ret {T : Tx} {B : Br} {W : Addr → Prop} {H0 H : Hp} {σ : St} {env : En} {d : D} {v : V} (o : Ok T ms B W env σ H) (f : Fresh T ms σ env H0 B W H d v) (H1 : Hp) : (rkR T).r σ env H1 B W H d v := by
  obtain ⟨a, vs, l, rfl, rfl, hw, h0, hl, rl, hf⟩ := f
  refine ⟨a, vs, l, rfl, rfl, hw, hl, rl, fun i w hx e => ?_⟩
  obtain ⟨_, e2, e3, d, e4⟩ := o.fx i w hx
  exact hf i d e2 e4 (by rw [e3, e])
theorem ds_retF {e : Expr} {fe : M D} (he : DF X Wx ms e fe) : DS X Wx ms (rkR (tx X)) (.Return (some e) pos) (sRet fe) := fun B W env σ H Dn o h =>
  PS.tm (ps_ret pe_tm) (he _ _ _ _ _ _ o (PoS.cont (k1 := rkF (tx X) ms) h fun d env1 W1 H1 x n1 o1 r1 h1 => h1 W1 H1 σ x (Nxt.refl W1 H1) o1 (r1.ret o1 H1)))
def vVarL (i : Nat) : M D := fun env => match env[i]? with
  | some (some (.lst l)) => .ok (.lst l) env
  | _ => .stuck
/-- return x, x a list of our own -/
theorem ds_retMu {e : Expr} (i : Nat) {x : Str} {p : Pos} (hm : ms.contains i = true := by rfl) (hio : ms.io.contains i = false := by rfl) (hN : X.N[i]? = some x := by rfl) (hv : Vis X.env.scope x := by first | exact Or.inl rfl | exact Or.inr (Or.inl rfl) | exact Or.inr (Or.inr rfl))
    (hd : (x == ("__debug__" : Str)) = false := by decide) (hcd : (x == ("__classdict__" : Str)) = false := by decide) : DS X Wx ms (rkR (tx X)) (.Return (some (.Name x p)) pos) (sRet (vVarL i)) := by
  intro B W env σ H Dn o h
  unfold sRet vVarL at h
  cases q : env[i]? with
  | none =>
    rw [q] at h
    exact h.elim
  | some z =>
    cases z with
    | none =>
      rw [q] at h
      exact h.elim
    | some d =>
      rw [q] at h
      obtain ⟨v, e1, e2⟩ := o.mu i d hm q
      refine PS.tm (ps_ret (pe_var hN hv hd hcd)) ⟨v, e1, ?_⟩
      cases d with
      | lst l =>
        obtain ⟨a, vs, rfl, e3, e4, e5⟩ := e2
        refine h W H σ _ (Nxt.refl W H) o ⟨a, vs, l, rfl, rfl, e3, e4, e5, fun j w hx e => ?_⟩
        obtain ⟨f1, f2, f3, d, f4⟩ := o.fx j w hx
        exact o.dj i j _ d a hm f2 (fun z => by rw [z, f1] at hio; cases hio) q f4 e1 (by rw [f3, e])
      | _ => exact h.elim
theorem ds_retN : DS X Wx ms (rkD (tx X)) (.Return none pos) (fun env => .ok (.rt .non) env) := fun B W env σ H Dn o h =>
  PS.tm ps_retN (h W H σ .non (Nxt.refl W H) o rfl)

/-! ### slots are stored -/
theorem set_get {α : Type} {l : List (Option α)} {i j : Nat} {a x : α} (h : (l.set i (some a))[j]? = some (some x)) : (j = i ∧ x = a) ∨ (j ≠ i ∧ l[j]? = some (some x)) := by
  by_cases e : j = i
  · subst e
    by_cases hl : j < l.length
    · rw [List.getElem?_set_self hl] at h
      exact .inl ⟨rfl, (Option.some.inj (Option.some.inj h)).symm⟩
    · rw [List.getElem?_eq_none (by rw [List.length_set]; omega)] at h
      cases h
  · rw [List.getElem?_set_ne (Ne.symm e)] at h
    exact .inr ⟨e, h⟩
theorem Ok.set {T : Tx} {B : Br} {W : Addr → Prop} {env : En} {σ : St} {H : Hp} {i : Nat} {d : D} {v : V} (o : Ok T ms B W env σ H) (hi : ms.contains i = false) (hio : ms.io.contains i = false) (r : Rel T (Bar B W) H d v) : Ok T ms B W (env.set i (some d)) (σ.set i (some v)) H where
  len := by rw [List.length_set, List.length_set, o.len]
  wf := o.wf
  sl := fun j e hj he => by
    rcases set_get he with ⟨rfl, rfl⟩ | ⟨n, he⟩
    · have hl : j < σ.length := by
        rw [o.len]
        by_cases hl : j < env.length
        · exact hl
        · rw [List.getElem?_eq_none (by rw [List.length_set]; omega)] at he
          cases he
      exact ⟨v, List.getElem?_set_self hl, r⟩
    · obtain ⟨w, e1, e2⟩ := o.sl j e hj he
      exact ⟨w, by rw [List.getElem?_set_ne (Ne.symm n)]; exact e1, e2⟩
  mu := fun j e hj he => by
    rcases set_get he with ⟨rfl, rfl⟩ | ⟨n, he⟩
    · rw [hi] at hj; cases hj
    · obtain ⟨w, e1, e2⟩ := o.mu j e hj he
      exact ⟨w, by rw [List.getElem?_set_ne (Ne.symm n)]; exact e1, e2⟩
  dj := fun j k e f a hj hk n he hf => by
    rcases set_get he with ⟨rfl, rfl⟩ | ⟨n1, he⟩
    · rw [hi] at hj; cases hj
    rcases set_get hf with ⟨rfl, rfl⟩ | ⟨n2, hf⟩
    · rw [hi] at hk; cases hk
    rw [List.getElem?_set_ne (Ne.symm n1), List.getElem?_set_ne (Ne.symm n2)]
    exact o.dj j k e f a hj hk n he hf
  fx := fun j w h => by
    obtain ⟨e1, e2, e3, e, e4⟩ := o.fx j w h
    have n : j ≠ i := fun z => by
      rw [z, hio] at e1
      cases e1
    exact ⟨e1, e2, by rw [List.getElem?_set_ne (Ne.symm n)]; exact e3, e, by rw [List.getElem?_set_ne (Ne.symm n)]; exact e4⟩
/-- a slot of ours takes a new list -/
theorem Ok.setF {T : Tx} {B : Br} {W : Addr → Prop} {env : En} {σ : St} {H0 H : Hp} {i : Nat} {d : D} {v : V} (o : Ok T ms B W env σ H) (hi : ms.contains i = true) (hio : ms.io.contains i = false) (r : Fresh T ms σ env H0 B W H d v) : Ok T ms B W (env.set i (some d)) (σ.set i (some v)) H := by
  obtain ⟨a, vs, l, rfl, rfl, hw, h0, hl, rl, hf⟩ := r
  have lt : ∀ {j : Nat} {e : D}, (env.set i (some (D.lst l)))[j]? = some (some e) → j = i → i < σ.length := fun {j e} he hj => by
    rw [o.len]
    by_cases hlt : i < env.length
    · exact hlt
    · rw [hj, List.getElem?_eq_none (by rw [List.length_set]; omega)] at he
      cases he
  refine ⟨by rw [List.length_set, List.length_set, o.len], o.wf, fun j e hj he => ?_, fun j e hj he => ?_, fun j k e f c hj hk n he hf' hs1 hs2 => ?_, fun j w h => ?_⟩
  · rcases set_get he with ⟨rfl, rfl⟩ | ⟨n, he⟩
    · rw [hi] at hj; cases hj
    · obtain ⟨w, e1, e2⟩ := o.sl j e hj he
      exact ⟨w, by rw [List.getElem?_set_ne (Ne.symm n)]; exact e1, e2⟩
  · rcases set_get he with ⟨rfl, rfl⟩ | ⟨n, he⟩
    · exact ⟨_, List.getElem?_set_self (lt he rfl), ⟨a, vs, rfl, hw, hl, rl⟩⟩
    · obtain ⟨w, e1, e2⟩ := o.mu j e hj he
      exact ⟨w, by rw [List.getElem?_set_ne (Ne.symm n)]; exact e1, e2⟩
  · rcases set_get he with ⟨rfl, rfl⟩ | ⟨n1, he1⟩
    · rcases set_get hf' with ⟨rfl, rfl⟩ | ⟨n2, hf'⟩
      · exact n rfl
      · rw [List.getElem?_set_self (lt he rfl)] at hs1
        rw [List.getElem?_set_ne (Ne.symm n2)] at hs2
        have ea : V.ref a = .ref c := Option.some.inj (Option.some.inj hs1)
        injection ea with ea
        subst ea
        exact hf k f hk hf' hs2
    · rcases set_get hf' with ⟨rfl, rfl⟩ | ⟨n2, hf'⟩
      · rw [List.getElem?_set_self (lt (j := k) (e := D.lst l) (List.getElem?_set_self (by rw [← o.len]; exact (List.getElem?_eq_some_iff.mp hs2).1 |> fun h => by rw [List.length_set] at h; exact h)) rfl)] at hs2
        rw [List.getElem?_set_ne (Ne.symm n1)] at hs1
        have ea : V.ref a = .ref c := Option.some.inj (Option.some.inj hs2)
        injection ea with ea
        subst ea
        exact hf j e hj he1 hs1
      · rw [List.getElem?_set_ne (Ne.symm n1)] at hs1
        rw [List.getElem?_set_ne (Ne.symm n2)] at hs2
        exact o.dj j k e f c hj hk n he1 hf' hs1 hs2
  · obtain ⟨e1, e2, e3, e, e4⟩ := o.fx j w h
    have n : j ≠ i := fun z => by
      rw [z, hio] at e1
      cases e1
    exact ⟨e1, e2, by rw [List.getElem?_set_ne (Ne.symm n)]; exact e3, e, by rw [List.getElem?_set_ne (Ne.symm n)]; exact e4⟩
def sSet (i : Nat) (f : M D) : M Fl := fun env => (f env).bind fun d env1 => .ok .nx (env1.set i (some d))
section
variable {i : Nat} {x : Str} {e : Expr} {fe : M D} {pos' : Pos}
theorem ds_set (i : Nat) (he : DE X Wx ms e fe) (hN : X.N.Nodup) (hm : ms.contains i = false := by rfl) (hio : ms.io.contains i = false := by rfl) (hi : X.N[i]? = some x := by rfl) (hx : Loc X.env.scope x := by first | exact Or.inl rfl | exact Or.inr rfl) (hs : swapsWith e (some (.Name x pos')) pos.line X.env = pure false := by rfl)
    (hf : X.fn x = true ∨ X.env.scope.names.lookup x = some .local := by first | exact .inl rfl | exact .inr rfl) : DS X Wx ms kr (.Assign [.Name x pos'] e pos) (sSet i fe) := fun B W env σ H Dn o h =>
  PS.tm (ps_set hN hi hx pe_tm hs hf) (he _ _ _ _ _ _ o (PoS.cont (k1 := rkD (tx X)) h fun d env1 W1 H1 v n1 o1 r1 h1 => h1 W1 H1 (σ.set i (some v)) (Nxt.refl W1 H1) (o1.set hm hio r1)))
theorem ds_setF (i : Nat) (he : DF X Wx ms e fe) (hN : X.N.Nodup) (hm : ms.contains i = true := by rfl) (hio : ms.io.contains i = false := by rfl) (hi : X.N[i]? = some x := by rfl) (hx : Loc X.env.scope x := by first | exact Or.inl rfl | exact Or.inr rfl) (hs : swapsWith e (some (.Name x pos')) pos.line X.env = pure false := by rfl)
    (hf : X.fn x = true ∨ X.env.scope.names.lookup x = some .local := by first | exact .inl rfl | exact .inr rfl) : DS X Wx ms kr (.Assign [.Name x pos'] e pos) (sSet i fe) := fun B W env σ H Dn o h =>
  PS.tm (ps_set hN hi hx pe_tm hs hf) (he _ _ _ _ _ _ o (PoS.cont (k1 := rkF (tx X) ms) h fun d env1 W1 H1 v n1 o1 r1 h1 => h1 W1 H1 (σ.set i (some v)) (Nxt.refl W1 H1) (o1.setF hm hio r1)))
/-- x += e of ints -/
def sAug (i : Nat) (g : D → D → Option D) (f : M D) : M Fl := fun env => match env[i]? with
  | some (some d) => (f env).bind fun e env1 => match g d e with
    | some z => .ok .nx (env1.set i (some z))
    | none => .stuck
  | _ => .stuck
def addI := i2 fun i j => some (.int (i + j))
theorem i2_spec {g : Int → Int → Option D} {d e z : D} (h : i2 g d e = some z) : ∃ i j, d = .int i ∧ e = .int j ∧ g i j = some z := i2_some h
theorem ds_augI {op : Operator} {k : Int → Int → Int} (ip : PIp X op (ipI k)) (i : Nat) (he : DE X Wx ms e fe) (hN : X.N.Nodup) (hm : ms.contains i = false := by rfl) (hio : ms.io.contains i = false := by rfl) (hi : X.N[i]? = some x := by rfl) (hx : Loc X.env.scope x := by first | exact Or.inl rfl | exact Or.inr rfl)
    (hf : X.fn x = true ∨ X.env.scope.names.lookup x = some .local := by first | exact .inl rfl | exact .inr rfl) : DS X Wx ms kr (.AugAssign (.Name x pos') op e pos) (sAug i (i2 fun a b => some (.int (k a b))) fe) := by
  intro B W env σ H Dn o h
  unfold sAug at h
  cases q : env[i]? with
  | none =>
    rw [q] at h
    exact h.elim
  | some z =>
    cases z with
    | none =>
      rw [q] at h
      exact h.elim
    | some d =>
      rw [q] at h
      obtain ⟨v, e1, e2⟩ := o.sl i d hm q
      refine PS.tm (ps_aug hN hi hx pe_tm ip hf) ⟨v, e1, he _ _ _ _ _ _ o (PoS.cont (k1 := rkD (tx X)) h fun y env1 W1 H1 w n1 o1 r1 h1 => ?_)⟩
      cases q2 : i2 (fun a b => some (.int (k a b))) d y with
      | none =>
        rw [q2] at h1
        exact h1.elim
      | some z =>
        rw [q2] at h1
        obtain ⟨a, b, rfl, rfl, e3⟩ := i2_some q2
        have e4 := Option.some.inj e3
        subst e4
        refine ⟨a, b, e2, r1, ?_⟩
        exact h1 W1 H1 (σ.set i (some (.int (k a b)))) (Nxt.refl W1 H1) (o1.set hm hio rfl)
end
end
end DL

set_option Elab.async false
set_option linter.all false
set_option maxRecDepth 100000
set_option maxHeartbeats 4000000
namespace DL
open PySem PySem.Spec L2

/-! ### our own cells change -/
section
variable {T : Tx} {ms : Ms} {B : Br} {W : Addr → Prop} {env : En} {σ : St} {H : Hp}
theorem Ok.cell {i : Nat} {l : List D} (o : Ok T ms B W env σ H) (hi : ms.contains i = true) (he : env[i]? = some (some (.lst l))) : ∃ a vs, σ[i]? = some (some (.ref a)) ∧ W a ∧ H a = some (.lst vs) ∧ RelL T (Bar B W) H l vs := by
  obtain ⟨v, e1, e2⟩ := o.mu i _ hi he
  obtain ⟨a, vs, rfl, e3, e4, e5⟩ := e2
  exact ⟨a, vs, e1, e3, e4, e5⟩
theorem Ext.write {a : Addr} {u : HO} (hw : W a) : Ext (Bar B W) H (Bar B W) (upd H a u) :=
  ⟨fun c z h n => by rw [upd_ne (fun e => n (.inr (by rw [e]; exact hw)))]; exact h, fun c z => .inl z⟩
theorem Nxt.write {a : Addr} {u : HO} (hw : W a) (hl : ∃ z, H a = some z) : Nxt W H W (upd H a u) :=
  ⟨fun c z h n => by rw [upd_ne (fun e => n (by rw [e]; exact hw))]; exact h, fun c z => .inl z, fun c z h => by
    by_cases e : c = a
    · exact ⟨u, by rw [e]; exact upd_same⟩
    · exact ⟨z, by rw [upd_ne e]; exact h⟩⟩
theorem Ok.write {i : Nat} {d d' : D} {a : Addr} {u : HO} (o : Ok T ms B W env σ H) (hi : ms.contains i = true) (he : env[i]? = some (some d)) (hs : σ[i]? = some (some (.ref a))) (hw : W a) (hl : ∃ z, H a = some z) (c : Cell T (Bar B W) W (upd H a u) d' (.ref a)) :
    Ok T ms B W (env.set i (some d')) σ (upd H a u) := by
  have ex : Ext (Bar B W) H (Bar B W) (upd H a u) := Ext.write hw
  have get : ∀ {j : Nat} {e : D}, (env.set i (some d'))[j]? = some (some e) → (j = i ∧ e = d') ∨ (j ≠ i ∧ env[j]? = some (some e)) := fun h => set_get h
  refine ⟨by rw [List.length_set, o.len], fun b z => ?_, fun j e hj h => ?_, fun j e hj h => ?_, fun j k e f b hj hk n h1 h2 s1 s2 => ?_, fun j w h => ?_⟩
  · obtain ⟨q, hq⟩ := o.wf b z
    by_cases e : b = a
    · exact ⟨u, by rw [e]; exact upd_same⟩
    · exact ⟨q, by rw [upd_ne e]; exact hq⟩
  · rcases get h with ⟨rfl, rfl⟩ | ⟨n, h⟩
    · rw [hi] at hj; cases hj
    · obtain ⟨w, e1, e2⟩ := o.sl j e hj h
      exact ⟨w, e1, Rel.ext ex e e2⟩
  · rcases get h with ⟨rfl, rfl⟩ | ⟨n, h⟩
    · exact ⟨_, hs, c⟩
    · obtain ⟨w, e1, e2⟩ := o.mu j e hj h
      refine ⟨w, e1, ?_⟩
      have na : w ≠ .ref a := fun z => o.dj j i e d a hj hi n h he (by rw [e1, z]) hs
      cases e with
      | lst l =>
        obtain ⟨b, vs, rfl, e5, e6, e7⟩ := e2
        exact ⟨b, vs, rfl, e5, by rw [upd_ne (fun z => na (by rw [z]))]; exact e6, RelL.ext ex _ e7⟩
      | obj c ns ds =>
        obtain ⟨b, dx, vs, rfl, e5, e6, e7, e8⟩ := e2
        exact ⟨b, dx, vs, rfl, e5, by rw [upd_ne (fun z => na (by rw [z]))]; exact e6, e7, RelL.ext ex _ e8⟩
      | _ => exact e2.elim
  · have g1 : ∃ e', env[j]? = some (some e') := by
      rcases get h1 with ⟨rfl, rfl⟩ | ⟨n, h⟩
      · exact ⟨d, he⟩
      · exact ⟨e, h⟩
    have g2 : ∃ e', env[k]? = some (some e') := by
      rcases get h2 with ⟨rfl, rfl⟩ | ⟨n, h⟩
      · exact ⟨d, he⟩
      · exact ⟨f, h⟩
    obtain ⟨e1, g1⟩ := g1
    obtain ⟨e2, g2⟩ := g2
    exact o.dj j k e1 e2 b hj hk n g1 g2 s1 s2
  · obtain ⟨e1, e2, e3, e, e4⟩ := o.fx j w h
    by_cases hj : j = i
    · exact ⟨e1, e2, e3, d', by rw [hj, List.getElem?_set_self (List.getElem?_eq_some_iff.mp he).1]⟩
    · exact ⟨e1, e2, e3, e, by rw [List.getElem?_set_ne (Ne.symm hj)]; exact e4⟩
end

section
variable {X : Cx} {Wx : WX} {ms : Ms} {kr : Rk (tx X) D V} {pos cpos apos : Pos} {x : Str} {e e2 : Expr} {fe fe2 : M D}
/-- what a method of a list of ours does: the list, the arguments → the answer, the list -/
def vMeth (i : Nat) (g : List D → List D → Option (D × List D)) (fs : M (List D)) : M D := fun env => match env[i]? with
  | some (some (.lst _)) => (fs env).bind fun ds env1 => match env1[i]? with
    | some (some (.lst l)) => match g l ds with
      | some (d, l') => .ok d (env1.set i (some (.lst l')))
      | none => .stuck
    | _ => .stuck
  | _ => .stuck
def MethOk (X : Cx) (r : V → List V → Hp → VK → Prop) (g : List D → List D → Option (D × List D)) : Prop := ∀ {B : Addr → Prop} {H : Hp} {a : Addr} {xs vs : List V} {l ds l' : List D} {d : D} {Q : VK}, H a = some (.lst xs) → RelL (tx X) B H l xs → RelL (tx X) B H ds vs → g l ds = some (d, l') →
  (∀ xs' v, Rel (tx X) B H d v → RelL (tx X) B H l' xs' → Q v (upd H a (.lst xs'))) → r (.ref a) vs H Q
theorem tm_meth {r : V → List V → Hp → VK → Prop} {g : List D → List D → Option (D × List D)} (mo : MethOk X r g) {i : Nat} {es : List Expr} {fs : M (List D)} {o : Expr} {B : Br} {W : Addr → Prop} {env : En} {σ : St} {H : Hp} {Q : VK}
    (k : Ok (tx X) ms B W env σ H) (hm : ms.contains i = true) (ha : DA X Wx ms es fs) (h : Po (tx X) Wx ms B W σ H (rkD (tx X)) (vMeth i g fs env) Q) : tBM X.K "list" r (tVar i) (tmA X es) σ H Q := by
  unfold vMeth at h
  cases q : env[i]? with
  | none =>
    rw [q] at h
    exact h.elim
  | some z =>
    cases z with
    | none =>
      rw [q] at h
      exact h.elim
    | some d0 =>
      rw [q] at h
      cases d0 with
      | lst l0 =>
        obtain ⟨a, vs0, e1, e2, e3, e4⟩ := k.cell hm q
        refine ⟨_, e1, .inl ⟨rfl, _, SqL.of e3⟩, ha _ _ _ _ _ _ k (Po.cont (k1 := rkL (tx X)) h fun ds env1 W1 H1 vs n1 o1 r1 h1 => ?_)⟩
        cases q1 : env1[i]? with
        | none =>
          rw [q1] at h1
          exact h1.elim
        | some z =>
          cases z with
          | none =>
            rw [q1] at h1
            exact h1.elim
          | some d1 =>
            rw [q1] at h1
            cases d1 with
            | lst l =>
              obtain ⟨b, xs, f1, f2, f3, f4⟩ := o1.cell hm q1
              have eb : b = a := by
                rw [e1] at f1
                have z := Option.some.inj (Option.some.inj f1)
                injection z with z
                exact z.symm
              subst eb
              have h2 : Po (tx X) Wx ms B W1 σ H1 (rkD (tx X)) (match g l ds with | some (d, l') => .ok d (env1.set i (some (.lst l'))) | none => .stuck) Q := h1
              cases q2 : g l ds with
              | none =>
                rw [q2] at h2
                exact h2.elim
              | some y =>
                obtain ⟨d, l'⟩ := y
                rw [q2] at h2
                refine mo f3 f4 r1 q2 fun xs' v rv rl => ?_
                exact h2 W1 _ v (Nxt.write f2 ⟨_, f3⟩) (o1.write hm q1 f1 f2 ⟨_, f3⟩ ⟨b, xs', rfl, f2, upd_same, RelL.ext (Ext.write f2) _ rl⟩) (Rel.ext (Ext.write f2) _ rv)
            | _ => exact h1.elim
      | _ => exact h.elim
theorem tm_meth0 {r : V → List V → Hp → VK → Prop} {g : List D → List D → Option (D × List D)} (mo : MethOk X r g) {i : Nat} {B : Br} {W : Addr → Prop} {env : En} {σ : St} {H : Hp} {Q : VK}
    (k : Ok (tx X) ms B W env σ H) (hm : ms.contains i = true) (h : Po (tx X) Wx ms B W σ H (rkD (tx X)) (vMeth i g aNil env) Q) : tBM0 X.K "list" r (tVar i) σ H Q := by
  unfold vMeth aNil at h
  cases q : env[i]? with
  | none =>
    rw [q] at h
    exact h.elim
  | some z =>
    cases z with
    | none =>
      rw [q] at h
      exact h.elim
    | some d0 =>
      rw [q] at h
      cases d0 with
      | lst l =>
        obtain ⟨a, xs, f1, f2, f3, f4⟩ := k.cell hm q
        have h2 : Po (tx X) Wx ms B W σ H (rkD (tx X)) (match env[i]? with
          | some (some (.lst l)) => match g l [] with
            | some (d, l') => .ok d (env.set i (some (.lst l')))
            | none => .stuck
          | _ => .stuck) Q := h
        rw [q] at h2
        have h3 : Po (tx X) Wx ms B W σ H (rkD (tx X)) (match g l [] with | some (d, l') => .ok d (env.set i (some (.lst l'))) | none => .stuck) Q := h2
        refine ⟨_, f1, .inl ⟨rfl, _, SqL.of f3⟩, ?_⟩
        cases q2 : g l [] with
        | none =>
          rw [q2] at h3
          exact h3.elim
        | some y =>
          obtain ⟨d, l'⟩ := y
          rw [q2] at h3
          refine mo (B := Bar B W) (ds := []) f3 f4 trivial q2 fun xs' v rv rl => ?_
          exact h3 W _ v (Nxt.write f2 ⟨_, f3⟩) (k.write hm q f1 f2 ⟨_, f3⟩ ⟨a, xs', rfl, f2, upd_same, RelL.ext (Ext.write f2) _ rl⟩) (Rel.ext (Ext.write f2) _ rv)
      | _ => exact h.elim
def mAppend (l ds : List D) : Option (D × List D) := match ds with
  | [d] => if small l.length = true then some (.non, l ++ [d]) else none
  | _ => none
theorem mo_append : MethOk X rAppend mAppend := by
  intro B H a xs vs l ds l' d Q h1 h2 h3 h4 q
  match ds, h4 with
  | [d1], h4 =>
    obtain ⟨v, rfl, rv⟩ := relL1 h3
    obtain ⟨e1, e2⟩ := ite_some h4
    cases e2
    exact ⟨a, xs, v, rfl, rfl, h1, by rw [← h2.length]; exact small_lt e1, q _ .non rfl (h2.append ⟨rv, trivial⟩)⟩
def mPop (l ds : List D) : Option (D × List D) := match ds with
  | [] => l.getLast?.map fun d => (d, l.dropLast)
  | _ => none
theorem RelL.dropLast {T : Tx} {B : Addr → Prop} {H : Hp} {ds : List D} {vs : List V} (h : RelL T B H ds vs) : RelL T B H ds.dropLast vs.dropLast := by
  rw [List.dropLast_eq_take, List.dropLast_eq_take, ← h.length]
  exact h.take _
theorem mo_pop : MethOk X rPop mPop := by
  intro B H a xs vs l ds l' d Q h1 h2 h3 h4 q
  match ds, vs, h3, h4 with
  | [], [], _, h4 =>
    obtain ⟨z, e1, e2⟩ := Option.map_eq_some_iff.mp h4
    cases e2
    rw [List.getLast?_eq_getElem?] at e1
    obtain ⟨v, e3, e4⟩ := h2.get e1
    exact ⟨a, xs, v, rfl, rfl, h1, by rw [← h2.length]; exact e3, q _ v e4 h2.dropLast⟩
def mReverse (l ds : List D) : Option (D × List D) := match ds with
  | [] => some (.non, l.reverse)
  | _ => none
theorem mo_reverse : MethOk X rReverse mReverse := by
  intro B H a xs vs l ds l' d Q h1 h2 h3 h4 q
  match ds, vs, h3, h4 with
  | [], [], _, h4 =>
    cases Option.some.inj h4
    exact ⟨a, xs, rfl, rfl, h1, q _ .non rfl h2.reverse⟩
theorem de_append (i : Nat) (ha : DE X Wx ms e fe) (hm : ms.contains i = true := by rfl) (hN : X.N[i]? = some x := by rfl) (hv : Vis X.env.scope x := by first | exact Or.inl rfl | exact Or.inr (Or.inl rfl) | exact Or.inr (Or.inr rfl))
    (hd : (x == ("__debug__" : Str)) = false := by decide) (hcd : (x == ("__classdict__" : Str)) = false := by decide)
    (hs1 : starEach [e] X.env = (false, eval e X.env) :: starEach [] X.env := by rfl)
    (hbase : attributeBase (.Name x pos) "append" X.env (eval (.Name x pos) X.env) = eval (.Name x pos) X.env := by rfl)
    (hfew : ((backTo cpos (starEach [e] X.env)).all (fun x => !x.1) && (backToKw cpos (keywordEach [] X.env)).all (fun x => x.1.isSome)
      && decide ([e].length + ([] : List Keyword).length + (if ([] : List Keyword).isEmpty then 0 else 1) < 30)) = true := by rfl)
    (hline : (apos.endLine == cpos.line) = true := by rfl) (hplain : (backTo cpos (starEach [] X.env)).any (·.1) = false := by rfl) :
    DE X Wx ms (.Call (.Attribute (.Name x pos) "append" apos) [e] [] cpos) (vMeth i mAppend (aCons fe aNil)) := fun B W env σ H Q o h =>
  PE.tm (pe_bm PySem.F.plainAttrs_list PySem.F.slot_list_append PySem.F.type_list_append mt_append (pe_var hN hv hd hcd) pa_tm hbase hfew hline hs1 hplain) (tm_meth (o := e) mo_append o hm (da_cons ha da_nil hs1) h)
theorem de_pop (i : Nat) (hm : ms.contains i = true := by rfl) (hN : X.N[i]? = some x := by rfl) (hv : Vis X.env.scope x := by first | exact Or.inl rfl | exact Or.inr (Or.inl rfl) | exact Or.inr (Or.inr rfl))
    (hd : (x == ("__debug__" : Str)) = false := by decide) (hcd : (x == ("__classdict__" : Str)) = false := by decide)
    (hbase : attributeBase (.Name x pos) "pop" X.env (eval (.Name x pos) X.env) = eval (.Name x pos) X.env := by rfl) (hline : (apos.endLine == cpos.line) = true := by rfl) :
    DE X Wx ms (.Call (.Attribute (.Name x pos) "pop" apos) [] [] cpos) (vMeth i mPop aNil) := fun B W env σ H Q o h =>
  PE.tm (pe_bm0 PySem.F.plainAttrs_list PySem.F.slot_list_pop PySem.F.type_list_pop mt_pop (pe_var hN hv hd hcd) hbase hline) (tm_meth0 mo_pop o hm h)
theorem de_reverse (i : Nat) (hm : ms.contains i = true := by rfl) (hN : X.N[i]? = some x := by rfl) (hv : Vis X.env.scope x := by first | exact Or.inl rfl | exact Or.inr (Or.inl rfl) | exact Or.inr (Or.inr rfl))
    (hd : (x == ("__debug__" : Str)) = false := by decide) (hcd : (x == ("__classdict__" : Str)) = false := by decide)
    (hbase : attributeBase (.Name x pos) "reverse" X.env (eval (.Name x pos) X.env) = eval (.Name x pos) X.env := by rfl) (hline : (apos.endLine == cpos.line) = true := by rfl) :
    DE X Wx ms (.Call (.Attribute (.Name x pos) "reverse" apos) [] [] cpos) (vMeth i mReverse aNil) := fun B W env σ H Q o h =>
  PE.tm (pe_bm0 PySem.F.plainAttrs_list PySem.F.slot_list_reverse PySem.F.type_list_reverse mt_reverse (pe_var hN hv hd hcd) hbase hline) (tm_meth0 mo_reverse o hm h)
def mInsert (l ds : List D) : Option (D × List D) := match ds with
  | [.int i, d] => if (small l.length && (decide (0 ≤ i) && decide (i < 1000000))) = true then some (.non, l.take i.toNat ++ [d] ++ l.drop i.toNat) else none
  | _ => none
theorem mo_insert : MethOk X (fun x vs H Q => ∃ (l : Addr) (xs : List V) (i : Int) (y : V), x = .ref l ∧ vs = [.int i, y] ∧ H l = some (.lst xs) ∧ xs.length < sizeLine ∧ 0 ≤ i ∧ i < 2 ^ 63 ∧
    Q .non (upd H l (.lst (xs.take i.toNat ++ [y] ++ xs.drop i.toNat)))) mInsert := by
  intro B H a xs vs l ds l' d Q h1 h2 h3 h4 q
  match ds, h4 with
  | [.int i, d1], h4 =>
    obtain ⟨v, w, rfl, rv, rw'⟩ := relL2 h3
    obtain ⟨e1, e2⟩ := ite_some h4
    cases e2
    obtain ⟨e3, e4⟩ := Bool.and_eq_true_iff.mp e1
    obtain ⟨e5, e6⟩ := Bool.and_eq_true_iff.mp e4
    have e7 := of_decide_eq_true e5
    have e8 := of_decide_eq_true e6
    exact ⟨a, xs, i, w, rfl, by rw [show v = .int i from rv], h1, by rw [← h2.length]; exact small_lt e3, e7, by omega, q _ .non rfl (((h2.take _).append (show RelL (tx X) B H [d1] [w] from ⟨rw', trivial⟩)).append (h2.drop _))⟩
theorem de_insert (i : Nat) (ha : DE X Wx ms e fe) (hb : DE X Wx ms e2 fe2) (hm : ms.contains i = true := by rfl) (hN : X.N[i]? = some x := by rfl) (hv : Vis X.env.scope x := by first | exact Or.inl rfl | exact Or.inr (Or.inl rfl) | exact Or.inr (Or.inr rfl))
    (hd : (x == ("__debug__" : Str)) = false := by decide) (hcd : (x == ("__classdict__" : Str)) = false := by decide)
    (hs1 : starEach [e, e2] X.env = (false, eval e X.env) :: starEach [e2] X.env := by rfl) (hs2 : starEach [e2] X.env = (false, eval e2 X.env) :: starEach [] X.env := by rfl)
    (hbase : attributeBase (.Name x pos) "insert" X.env (eval (.Name x pos) X.env) = eval (.Name x pos) X.env := by rfl)
    (hfew : ((backTo cpos (starEach [e, e2] X.env)).all (fun x => !x.1) && (backToKw cpos (keywordEach [] X.env)).all (fun x => x.1.isSome)
      && decide ([e, e2].length + ([] : List Keyword).length + (if ([] : List Keyword).isEmpty then 0 else 1) < 30)) = true := by rfl)
    (hline : (apos.endLine == cpos.line) = true := by rfl) (hplain : (backTo cpos (starEach [e2] X.env)).any (·.1) = false := by rfl) :
    DE X Wx ms (.Call (.Attribute (.Name x pos) "insert" apos) [e, e2] [] cpos) (vMeth i mInsert (aCons fe (aCons fe2 aNil))) := fun B W env σ H Q o h =>
  PE.tm (pe_bm PySem.F.plainAttrs_list PySem.F.slot_list_insert PySem.F.type_list_insert mt_insert (pe_var hN hv hd hcd) pa_tm hbase hfew hline hs1 hplain) (tm_meth (o := e) mo_insert o hm (da_cons ha (da_cons hb da_nil hs2) hs1) h)
end

/-! ### what is walked -/
/-- J serves ds, whatever comes -/
def Serves (T : Tx) (Bs : Addr → Prop) (H : Hp) (J : It) (ds : List D) : Prop := ∀ B' H', Ext Bs H B' H' → ∀ i, (∀ d, ds[i]? = some d → J.go i H' ∧ ∀ x H'', J.yld i H' x H'' → Same H' H'' ∧ Rel T B' H'' d x) ∧ (i = ds.length → J.stop i H')
def rkI (T : Tx) : Rk T (List D) It := ⟨fun _ _ _ B W H ds J => Serves T (Bar B W) H J ds, fun _ h => h⟩
def tmI (X : Cx) (tg iter : Expr) : TI := fun σ H R => ∀ pins s, Inv X pins σ H s → wpAny (model X.prog X.w) X.A (eval iter X.env) (fun v s1 => wpAny (model X.prog X.w) X.A (pyIter v) (PIE X pins σ tg R) X.xe s1) X.xe s
theorem pi_tm {X : Cx} {tg iter : Expr} : PI X tg iter (tmI X tg iter) := ⟨fun pins s _ _ _ I h => h pins s I⟩
theorem PI.tm {X : Cx} {tg iter : Expr} {t : TI} (h : PI X tg iter t) {σ : St} {H : Hp} {R : It → Hp → Prop} (q : t σ H R) : tmI X tg iter σ H R := fun pins s I => h.run pins s σ H R I q
def DI (X : Cx) (Wx : WX) (ms : Ms) (tg iter : Expr) (f : M (List D)) : Prop := ∀ B W env σ H R, Ok (tx X) ms B W env σ H → Po (tx X) Wx ms B W σ H (rkI (tx X)) (f env) R → tmI X tg iter σ H R
section
variable {X : Cx} {Wx : WX} {ms : Ms} {tg l a b c : Expr} {fa fb fc : M D} {p pos : Pos}
def iSeq (f : M D) : M (List D) := fun env => (f env).bind fun d env1 => M.of (match d with | .tup l => some l | .lst l => some l | _ => none) env1
theorem di_seq (ha : DE X Wx ms l fa) : DI X Wx ms tg l (iSeq fa) := by
  intro B W env σ H R o h
  have key : ∀ d env', fa env = .ok d env' → tmI X tg l σ H R := fun d env' q => by
    have e0 : iSeq fa env = M.of (match d with | .tup l => some l | .lst l => some l | _ => none) env' := by
      unfold iSeq
      rw [q]
      rfl
    rw [e0] at h
    cases d with
    | lst ds =>
      refine PI.tm (pi_list pe_tm) (ha _ _ _ _ _ _ o ?_)
      rw [q]
      intro W1 H1 v n1 o1 r1
      obtain ⟨a, vs, rfl, r2, r3, r4⟩ := r1
      refine ⟨a, rfl, ⟨_, SqL.of r2⟩, h W1 H1 _ n1 o1 fun B' H' ex i => ⟨fun d hd => ?_, fun hi => ?_⟩⟩
      · have k := ex.keep _ _ r2 r3
        obtain ⟨v, e1, e2⟩ := RelL.get (RelL.ext ex _ r4) hd
        refine ⟨⟨_, v, SqL.of k, e1⟩, fun x H'' y => ?_⟩
        obtain ⟨rfl, y⟩ := y
        have e3 := y vs (SqL.of k)
        rw [e1] at e3
        cases e3
        exact ⟨Same.refl _, e2⟩
      · exact ⟨_, SqL.of (ex.keep _ _ r2 r3), by rw [hi, r4.length]; exact Nat.le_refl _⟩
    | tup ds =>
      refine PI.tm (pi_tup pe_tm) (ha _ _ _ _ _ _ o ?_)
      rw [q]
      intro W1 H1 v n1 o1 r1
      obtain ⟨a, vs, rfl, r2, r4⟩ := r1
      refine ⟨a, rfl, ⟨_, r2.sq⟩, h W1 H1 _ n1 o1 fun B' H' ex i => ⟨fun d hd => ?_, fun hi => ?_⟩⟩
      · have k := r2.ext ex
        obtain ⟨v, e1, e2⟩ := RelL.get (RelL.ext ex _ r4) hd
        refine ⟨⟨_, v, k.sq, e1⟩, fun x H'' y => ?_⟩
        obtain ⟨rfl, y⟩ := y
        have e3 := y vs k.sq
        rw [e1] at e3
        cases e3
        exact ⟨Same.refl _, e2⟩
      · exact ⟨_, (r2.ext ex).sq, by rw [hi, r4.length]; exact Nat.le_refl _⟩
    | _ => exact h.elim
  cases q : fa env with
  | ok d env' => exact key d env' q
  | err c ns es env' =>
    refine PI.tm (pi_list pe_tm) (ha _ _ _ _ _ _ o ?_)
    unfold iSeq at h
    rw [q] at h ⊢
    exact h
  | stuck =>
    unfold iSeq at h
    rw [q] at h
    exact h.elim
/-- lo, lo + 1, .. -/
def upTo (lo : Int) : Nat → List D
  | 0 => []
  | n + 1 => .int lo :: upTo (lo + 1) n
theorem upTo_len (n : Nat) : ∀ lo : Int, (upTo lo n).length = n := by
  induction n with
  | zero => intro lo; rfl
  | succ n ih => intro lo; exact congrArg Nat.succ (ih _)
theorem upTo_get (n : Nat) : ∀ (lo : Int) (i : Nat) (d : D), (upTo lo n)[i]? = some d → d = .int (lo + i) ∧ i < n := by
  induction n with
  | zero => intro lo i d h; cases h
  | succ n ih =>
    intro lo i d h
    cases i with
    | zero =>
      have e : D.int lo = d := by simpa [upTo] using h
      exact ⟨by rw [← e]; congr 1; omega, Nat.succ_pos _⟩
    | succ i =>
      obtain ⟨e1, e2⟩ := ih (lo + 1) i d (by simpa [upTo] using h)
      exact ⟨by rw [e1]; congr 1; omega, Nat.succ_lt_succ e2⟩
abbrev near (i : Int) : Bool := decide (-1000000000 < i) && decide (i < 1000000000)
theorem near_ok {i : Int} (h : near i = true) : -(2 ^ 62) ≤ i ∧ i < 2 ^ 62 := by
  obtain ⟨h1, h2⟩ := Bool.and_eq_true_iff.mp h
  have := of_decide_eq_true h1
  have := of_decide_eq_true h2
  omega
def rng1 : List D → Option (List D)
  | [.int j] => if near j = true then some (upTo 0 j.toNat) else none
  | _ => none
def rng2 : List D → Option (List D)
  | [.int i, .int j] => if (near i && near j) = true then some (upTo i (j - i).toNat) else none
  | _ => none
def iRng (g : List D → Option (List D)) (fs : M (List D)) : M (List D) := fun env => (fs env).bind fun ds env1 => M.of (g ds) env1
theorem serves_rng {T : Tx} {Bs : Addr → Prop} {H : Hp} (lo : Int) (n : Nat) : Serves T Bs H (Itr lo n) (upTo lo n) := fun B' H' ex i => ⟨fun d hd => by
    obtain ⟨e1, e2⟩ := upTo_get n lo i d hd
    refine ⟨e2, fun x H'' y => ?_⟩
    obtain ⟨rfl, rfl⟩ := y
    rw [e1]
    exact ⟨Same.refl _, rfl⟩, fun hi => by
    rw [upTo_len] at hi
    exact Nat.le_of_eq hi.symm⟩
theorem di_rng1 (hg : Gl X "range") (hm : X.mg "range" = none) (ha : DE X Wx ms a fa) (hs : starEach [a] X.env = [(false, eval a X.env)] := by rfl) (hs1 : starEach [a] X.env = (false, eval a X.env) :: starEach [] X.env := by rfl) : DI X Wx ms tg (.Call (.Name "range" p) [a] [] pos) (iRng rng1 (aCons fa aNil)) := fun B W env σ H R o h =>
  PI.tm (pi_range1 hg hm pa_tm hs) (da_cons ha da_nil hs1 _ _ _ _ _ _ o (Po.cont (k1 := rkL (tx X)) h fun ds env1 W1 H1 vs n1 o1 r1 h1 => by
    obtain ⟨z, e1, h3⟩ := of_pos h1
    match ds, e1 with
    | [.int j], e1 =>
      obtain ⟨e2, rfl⟩ := ite_some e1
      obtain ⟨v, rfl, rv⟩ := relL1 r1
      obtain ⟨f1, f2⟩ := near_ok e2
      exact ⟨j, by rw [show v = .int j from rv], f1, f2, h3.done (v := Itr 0 j.toNat) o1 (serves_rng 0 _)⟩))
theorem di_rng2 (hg : Gl X "range") (hm : X.mg "range" = none) (ha : DE X Wx ms a fa) (hb : DE X Wx ms b fb) (hs : starEach [a, b] X.env = [(false, eval a X.env), (false, eval b X.env)] := by rfl) (hs2 : starEach [b] X.env = [(false, eval b X.env)] := by rfl)
    (hs1 : starEach [a, b] X.env = (false, eval a X.env) :: starEach [b] X.env := by rfl) (hs3 : starEach [b] X.env = (false, eval b X.env) :: starEach [] X.env := by rfl) : DI X Wx ms tg (.Call (.Name "range" p) [a, b] [] pos) (iRng rng2 (aCons fa (aCons fb aNil))) := fun B W env σ H R o h =>
  PI.tm (pi_range2 hg hm pa_tm hs hs2) (da_cons ha (da_cons hb da_nil hs3) hs1 _ _ _ _ _ _ o (Po.cont (k1 := rkL (tx X)) h fun ds env1 W1 H1 vs n1 o1 r1 h1 => by
    obtain ⟨z, e1, h3⟩ := of_pos h1
    match ds, e1 with
    | [.int i, .int j], e1 =>
      obtain ⟨e2, rfl⟩ := ite_some e1
      obtain ⟨v, w, rfl, rv, rw'⟩ := relL2 r1
      obtain ⟨e3, e4⟩ := Bool.and_eq_true_iff.mp e2
      obtain ⟨f1, f2⟩ := near_ok e3
      obtain ⟨f3, f4⟩ := near_ok e4
      exact ⟨i, j, by rw [show v = .int i from rv, show w = .int j from rw'], ⟨f1, f2, f3, f4⟩, h3.done (v := Itr i (j - i).toNat) o1 (serves_rng i _)⟩))
/-- range(a, b, -1) -/
def downTo (hi : Int) : Nat → List D
  | 0 => []
  | n + 1 => .int hi :: downTo (hi - 1) n
theorem downTo_len (n : Nat) : ∀ lo : Int, (downTo lo n).length = n := by
  induction n with
  | zero => intro lo; rfl
  | succ n ih => intro lo; exact congrArg Nat.succ (ih _)
theorem downTo_get (n : Nat) : ∀ (lo : Int) (i : Nat) (d : D), (downTo lo n)[i]? = some d → d = .int (lo + (i : Nat) * (-1)) ∧ i < n := by
  induction n with
  | zero => intro lo i d h; cases h
  | succ n ih =>
    intro lo i d h
    cases i with
    | zero =>
      have e : D.int lo = d := by simpa [downTo] using h
      exact ⟨by rw [← e]; congr 1; omega, Nat.succ_pos _⟩
    | succ i =>
      obtain ⟨e1, e2⟩ := ih (lo - 1) i d (by simpa [downTo] using h)
      exact ⟨by rw [e1]; congr 1; omega, Nat.succ_lt_succ e2⟩
def rng3 : List D → Option (List D)
  | [.int i, .int j, .int c] => if (near i && near j && decide (c = -1)) = true then some (downTo i (i - j).toNat) else none
  | _ => none
theorem relL3 {T : Tx} {B : Addr → Prop} {H : Hp} {d e f : D} {xs : List V} (r : RelL T B H [d, e, f] xs) : ∃ x y z, xs = [x, y, z] ∧ Rel T B H d x ∧ Rel T B H e y ∧ Rel T B H f z := by
  match xs, r with
  | x :: ys, r =>
    obtain ⟨y, z, rfl, r2, r3⟩ := relL2 r.2
    exact ⟨x, y, z, rfl, r.1, r2, r3⟩
  | [], r => exact r.elim
theorem di_rng3 (hg : Gl X "range") (hm : X.mg "range" = none) (ha : DE X Wx ms a fa) (hb : DE X Wx ms b fb) (hc : DE X Wx ms c fc)
    (hs : starEach [a, b, c] X.env = (false, eval a X.env) :: starEach [b, c] X.env := by rfl) (hs2 : starEach [b, c] X.env = (false, eval b X.env) :: starEach [c] X.env := by rfl) (hs3 : starEach [c] X.env = (false, eval c X.env) :: starEach [] X.env := by rfl)
    (hpl : (backTo pos (starEach [b, c] X.env)).any (·.1) = false := by rfl) : DI X Wx ms tg (.Call (.Name "range" p) [a, b, c] [] pos) (iRng rng3 (aCons fa (aCons fb (aCons fc aNil)))) := fun B W env σ H R o h =>
  PI.tm (pi_range3 hg hm pa_tm hs hpl) (da_cons ha (da_cons hb (da_cons hc da_nil hs3) hs2) hs _ _ _ _ _ _ o (Po.cont (k1 := rkL (tx X)) h fun ds env1 W1 H1 vs n1 o1 r1 h1 => by
    obtain ⟨z, e1, h3⟩ := of_pos h1
    match ds, e1 with
    | [.int i, .int j, .int c], e1 =>
      obtain ⟨e2, rfl⟩ := ite_some e1
      obtain ⟨v, w, u, rfl, rv, rw', ru⟩ := relL3 r1
      obtain ⟨e3, e4⟩ := Bool.and_eq_true_iff.mp e2
      obtain ⟨e5, e6⟩ := Bool.and_eq_true_iff.mp e3
      have e7 : c = -1 := of_decide_eq_true e4
      subst e7
      obtain ⟨f1, f2⟩ := near_ok e5
      obtain ⟨f3, f4⟩ := near_ok e6
      refine ⟨i, j, -1, (i - j).toNat, by rw [show v = .int i from rv, show w = .int j from rw', show u = .int (-1) from ru], RgC.neg f1 f2 f3 f4, h3.done (v := Itc i (-1) (i - j).toNat) o1 fun B' H' ex k => ⟨fun d hd => ?_, fun hi => ?_⟩⟩
      · obtain ⟨g1, g2⟩ := downTo_get _ i k d hd
        refine ⟨g2, fun x H'' y => ?_⟩
        obtain ⟨rfl, rfl⟩ := y
        rw [g1]
        exact ⟨Same.refl _, rfl⟩
      · rw [downTo_len] at hi
        exact Nat.le_of_eq hi.symm))

/-! ### for -/
variable {kr : Rk (tx X) D V} {iter : Expr} {body : List Stmt} {fi : M (List D)} {fb' : M Fl}
def forM (i : Nat) (body : M Fl) : List D → M Fl
  | [] => fun env => .ok .nx env
  | x :: xs => fun env => (body (env.set i (some x))).bind fun fl env' => match fl with
    | .nx => forM i body xs env'
    | .ct => forM i body xs env'
    | .bk => .ok .nx env'
    | .rt d => .ok (.rt d) env'
def sFor (i : Nat) (fi : M (List D)) (body : M Fl) : M Fl := fun env => (fi env).bind fun xs env1 => forM i body xs env1
theorem ds_for (i : Nat) {x : Str} {px : Pos} (hi : DI X Wx ms (.Name x px) iter fi) (hb : DSs X Wx ms kr body fb') (hp : PassesOwn (model X.prog X.w) X.A X.env X.xe) (hc : X.calm = true) (hN : X.N.Nodup) (hm : ms.contains i = false := by rfl) (hio : ms.io.contains i = false := by rfl)
    (hx : X.N[i]? = some x := by rfl) (hl : Loc X.env.scope x := by first | exact Or.inl rfl | exact Or.inr rfl) (hf : X.fn x = true ∨ X.env.scope.names.lookup x = some .local := by first | exact .inl rfl | exact .inr rfl)
    (hs : ∀ x, foldedSetIterable iter X.env x = pure x := by intro _; rfl) : DS X Wx ms kr (.For (.Name x px) iter body [] pos) (sFor i fi fb') := fun B W env σ H Dn o h =>
  PS.tm (ps_for hp hc pi_tm (pg_name hN hx hl hf) pss_tm hs) (hi _ _ _ _ _ _ o (PoS.cont (k1 := rkI (tx X)) h fun ds env1 W1 H1 J n1 o1 sv h1 => by
    refine ⟨fun j m σ2 H2 => m = ds.length - j ∧ j ≤ ds.length ∧ ∃ W2 env2, Nxt W1 H1 W2 H2 ∧ Ok (tx X) ms B W2 env2 σ2 H2 ∧ PoS (tx X) Wx ms kr B W2 H2 (forM i fb' (ds.drop j) env2) Dn, ⟨ds.length, by simp, Nat.zero_le _, W1, env1, Nxt.refl _ _, o1, h1⟩, ?_⟩
    rintro j m σ2 H2 ⟨rfl, hj, W2, env2, n2, o2, h2⟩
    obtain ⟨s1, s2⟩ := sv (Bar B W2) H2 n2.ext j
    by_cases hlt : j < ds.length
    · obtain ⟨g1, g2⟩ := s1 ds[j] (List.getElem?_eq_getElem hlt)
      refine .inr ⟨g1, fun σ' H' => ∃ W2 env2, Nxt W1 H1 W2 H' ∧ Ok (tx X) ms B W2 env2 σ' H' ∧ PoS (tx X) Wx ms kr B W2 H' (forM i fb' (ds.drop (j + 1)) env2) Dn, fun σ' H' q => ⟨ds.length - (j + 1), by omega, rfl, hlt, q⟩, fun x H'' y => ?_⟩
      obtain ⟨q1, q2⟩ := g2 x H'' y
      have o3 := (o2.same q1).set (i := i) hm hio q2
      have h3 := h2.step (Nxt.same q1)
      rw [List.drop_eq_getElem_cons hlt] at h3
      refine hb _ _ _ _ _ _ o3 ?_
      have h4 : PoS (tx X) Wx ms kr B W2 H'' ((fb' (env2.set i (some ds[j]))).bind fun fl env' => match fl with
        | .nx => forM i fb' (ds.drop (j + 1)) env'
        | .ct => forM i fb' (ds.drop (j + 1)) env'
        | .bk => .ok .nx env'
        | .rt d => .ok (.rt d) env') Dn := h3
      cases q5 : fb' (env2.set i (some ds[j])) with
      | ok fl env' =>
        rw [q5] at h4
        cases fl with
        | nx => exact fun W' H' σ' n' o' => ⟨W', env', (n2.trans (Nxt.same q1)).trans n', o', PoS.step (r := forM i fb' (ds.drop (j + 1)) env') h4 n'⟩
        | ct => exact fun W' H' σ' n' o' => ⟨W', env', (n2.trans (Nxt.same q1)).trans n', o', PoS.step (r := forM i fb' (ds.drop (j + 1)) env') h4 n'⟩
        | bk => exact h4
        | rt d => exact h4
      | err c ns es env' =>
        rw [q5] at h4
        exact h4
      | stuck =>
        rw [q5] at h4
        exact h4
    · have e : j = ds.length := by omega
      refine .inl ⟨s2 e, ?_⟩
      subst e
      rw [List.drop_length] at h2
      exact h2 W2 H2 σ2 (Nxt.refl _ _) o2))
end
end DL

set_option Elab.async false
set_option linter.all false
set_option maxRecDepth 100000
set_option maxHeartbeats 4000000
namespace DL
open PySem PySem.Spec L2

/-! ### comprehensions -/
abbrev WF : WX := fun _ _ _ _ => False
/-- one turn after another: n items are there -/
def lcGo (i : Nat) (cond : M Bool) (elt : M D) : Nat → List D → M (List D)
  | _, [] => fun env => .ok [] env
  | n, x :: xs => fun env => match cond (env.set i (some x)) with
    | .ok true env1 => match elt env1 with
      | .ok y env2 => if small n = true then (lcGo i cond elt (n + 1) xs (env2.set i none)).bind fun ys env3 => .ok (y :: ys) env3 else .stuck
      | _ => .stuck
    | .ok false env1 => lcGo i cond elt n xs (env1.set i none)
    | _ => .stuck
def lcM (i : Nat) (fi : M (List D)) (cond : M Bool) (elt : M D) : M D := fun env => (fi env).bind fun ds env1 => match lcGo i cond elt 0 ds (env1.set i none) with
  | .ok ys env3 => .ok (.lst ys) (env3.set i (env1.getD i none))
  | _ => .stuck
def bTrue : M Bool := fun env => .ok true env

section
variable {T : Tx} {ms : Ms} {B : Br} {W : Addr → Prop} {env : En} {σ : St} {H : Hp}
theorem set_none_get {α : Type} {l : List (Option α)} {i j : Nat} {x : α} (h : (l.set i none)[j]? = some (some x)) : j ≠ i ∧ l[j]? = some (some x) := by
  by_cases e : j = i
  · subst e
    by_cases hl : j < l.length
    · rw [List.getElem?_set_self hl] at h
      cases h
    · rw [List.getElem?_eq_none (by rw [List.length_set]; omega)] at h
      cases h
  · rw [List.getElem?_set_ne (Ne.symm e)] at h
    exact ⟨e, h⟩
theorem Ok.wipe {i : Nat} (o : Ok T ms B W env σ H) (hi : ms.contains i = false) (hio : ms.io.contains i = false) : Ok T ms B W (env.set i none) (σ.set i none) H := by
  refine ⟨by rw [List.length_set, List.length_set, o.len], o.wf, fun j e hj he => ?_, fun j e hj he => ?_, fun j k e f a hj hk n he hf s1 s2 => ?_, fun j w h => ?_⟩
  · obtain ⟨n, he⟩ := set_none_get he
    obtain ⟨w, e1, e2⟩ := o.sl j e hj he
    exact ⟨w, by rw [List.getElem?_set_ne (Ne.symm n)]; exact e1, e2⟩
  · obtain ⟨n, he⟩ := set_none_get he
    obtain ⟨w, e1, e2⟩ := o.mu j e hj he
    exact ⟨w, by rw [List.getElem?_set_ne (Ne.symm n)]; exact e1, e2⟩
  · obtain ⟨n1, he⟩ := set_none_get he
    obtain ⟨n2, hf⟩ := set_none_get hf
    rw [List.getElem?_set_ne (Ne.symm n1)] at s1
    rw [List.getElem?_set_ne (Ne.symm n2)] at s2
    exact o.dj j k e f a hj hk n he hf s1 s2
  · obtain ⟨e1, e2, e3, e, e4⟩ := o.fx j w h
    have n : j ≠ i := fun z => by
      rw [z, hio] at e1
      cases e1
    exact ⟨e1, e2, by rw [List.getElem?_set_ne (Ne.symm n)]; exact e3, e, by rw [List.getElem?_set_ne (Ne.symm n)]; exact e4⟩
/-- one more is barred -/
def Br.and (B : Br) (p : Addr) : Br := ⟨fun a => B.b a ∨ a = p, B.fx⟩
theorem Ok.bar {p : Addr} {u : HO} (o : Ok T ms B W env σ H) (hp : H p = none) : Ok T ms (B.and p) W env σ (upd H p u) := by
  have ex : Ext (Bar B W) H (Bar (B.and p) W) (upd H p u) := ⟨fun c z h _ => Same.upd hp c z h, fun c z => by
    rcases z with (z | z) | z
    · exact .inl (.inl z)
    · exact .inr (by rw [z]; exact hp)
    · exact .inl (.inr z)⟩
  refine ⟨o.len, fun c z => ?_, fun i d h e => ?_, fun i d h e => ?_, o.dj, o.fx⟩
  · rcases z with (z | z) | z
    · obtain ⟨q, e⟩ := o.wf c (.inl z)
      exact ⟨q, Same.upd hp c q e⟩
    · exact ⟨u, by rw [z]; exact upd_same⟩
    · obtain ⟨q, e⟩ := o.wf c (.inr z)
      exact ⟨q, Same.upd hp c q e⟩
  · obtain ⟨v, e1, e2⟩ := o.sl i d h e
    exact ⟨v, e1, Rel.ext ex d e2⟩
  · obtain ⟨v, e1, e2⟩ := o.mu i d h e
    exact ⟨v, e1, e2.ext ex fun c z w h => ⟨w, Same.upd hp c z h⟩⟩
/-- what is barred, but not ours, is written by someone -/
theorem Ok.other {p : Addr} {u : HO} (o : Ok T ms B W env σ H) (hp : B.b p) (hw : ¬ W p) : Ok T ms B W env σ (upd H p u) := by
  have ex : Ext (Bar B W) H (Bar B W) (upd H p u) := ⟨fun c z h n => by rw [upd_ne (fun e => n (.inl (by rw [e]; exact hp)))]; exact h, fun c z => .inl z⟩
  refine ⟨o.len, fun c z => ?_, fun i d h e => ?_, fun i d h e => ?_, o.dj, o.fx⟩
  · obtain ⟨q, e⟩ := o.wf c z
    by_cases ec : c = p
    · exact ⟨u, by rw [ec]; exact upd_same⟩
    · exact ⟨q, by rw [upd_ne ec]; exact e⟩
  · obtain ⟨v, e1, e2⟩ := o.sl i d h e
    exact ⟨v, e1, Rel.ext ex d e2⟩
  · obtain ⟨v, e1, e2⟩ := o.mu i d h e
    exact ⟨v, e1, e2.ext ex fun c z w h => ⟨w, by rw [upd_ne (fun e => hw (by rw [← e]; exact w))]; exact h⟩⟩
/-- behind a block: the list at p is ours, slot i is as it was -/
theorem Ok.unblk {i : Nat} {p : Addr} {W0 : Addr → Prop} {H0 : Hp} {env0 : En} (o : Ok T ms (B.and p) W env (σ.set i none) H) (o0 : Ok T ms B W0 env0 σ H0) (hi : ms.contains i = false) (hio : ms.io.contains i = false) (n : Nxt W0 H0 (fun c => W c ∨ c = p) H) (he : env[i]? = some none ∨ env[i]? = none) :
    Ok T ms B (fun c => W c ∨ c = p) (env.set i (env0.getD i none)) σ H := by
  have ex : Ext (Bar (B.and p) W) H (Bar B fun c => W c ∨ c = p) H := ⟨fun c z h _ => h, fun c z => by
    rcases z with z | z | z
    · exact .inl (.inl (.inl z))
    · exact .inl (.inr z)
    · exact .inl (.inl (.inr z))⟩
  have get : ∀ {j : Nat} {e : D}, (env.set i (env0.getD i none))[j]? = some (some e) → (j = i ∧ env0[i]? = some (some e)) ∨ (j ≠ i ∧ env[j]? = some (some e)) := fun {j e} h => by
    by_cases q : j = i
    · subst q
      refine .inl ⟨rfl, ?_⟩
      by_cases hl : j < env.length
      · rw [List.getElem?_set_self hl] at h
        have h2 := Option.some.inj h
        rw [List.getD_eq_getElem?_getD] at h2
        cases q2 : env0[j]? with
        | none =>
          rw [q2] at h2
          cases h2
        | some z =>
          rw [q2] at h2
          rw [show z = some e from h2]
      · rw [List.getElem?_eq_none (by rw [List.length_set]; omega)] at h
        cases h
    · rw [List.getElem?_set_ne (Ne.symm q)] at h
      exact .inr ⟨q, h⟩
  have sg : ∀ {j : Nat} {v : V}, j ≠ i → (σ.set i none)[j]? = some (some v) → σ[j]? = some (some v) := fun q h => by rw [List.getElem?_set_ne (Ne.symm q)] at h; exact h
  refine ⟨by rw [List.length_set, ← o.len, List.length_set], fun c z => ?_, fun j e hj h => ?_, fun j e hj h => ?_, fun j k e f a hj hk nn h1 h2 s1 s2 => ?_, fun j w h => ?_⟩
  · rcases z with z | z | z
    · exact o.wf c (.inl (.inl z))
    · exact o.wf c (.inr z)
    · exact o.wf c (.inl (.inr z))
  · rcases get h with ⟨rfl, h⟩ | ⟨q, h⟩
    · obtain ⟨v, e1, e2⟩ := o0.sl j e hj h
      exact ⟨v, e1, Rel.ext n.ext e e2⟩
    · obtain ⟨v, e1, e2⟩ := o.sl j e hj h
      exact ⟨v, sg q e1, Rel.ext ex e e2⟩
  · rcases get h with ⟨rfl, h⟩ | ⟨q, h⟩
    · rw [hi] at hj; cases hj
    · obtain ⟨v, e1, e2⟩ := o.mu j e hj h
      exact ⟨v, sg q e1, e2.ext ex fun c z w h => ⟨.inl w, h⟩⟩
  · rcases get h1 with ⟨rfl, h1⟩ | ⟨q1, h1⟩
    · rw [hi] at hj; cases hj
    rcases get h2 with ⟨rfl, h2⟩ | ⟨q2, h2⟩
    · rw [hi] at hk; cases hk
    exact o.dj j k e f a hj hk nn h1 h2 (by rw [List.getElem?_set_ne (Ne.symm q1)]; exact s1) (by rw [List.getElem?_set_ne (Ne.symm q2)]; exact s2)
  · obtain ⟨e1, e2, e3, e, e4⟩ := o.fx j w h
    have q : j ≠ i := fun z => by
      rw [z, hio] at e1
      cases e1
    exact ⟨e1, e2, sg q e3, e, by rw [List.getElem?_set_ne (Ne.symm q)]; exact e4⟩
end

section
variable {X : Cx} {ms : Ms} {Wx : WX}
abbrev tmB (X : Cx) (scope : Scope) (e : Expr) : TE := fun σ H Q => ∀ (s0 : Shared) (H0 : Hp) (C : Addr) (cl : List (Str × Addr)) (fp : List Addr), tm (X.blk s0 H0 scope (compEnvC scope cl C X.env) fp) e σ H Q
theorem blk_tx (hc : X.calm = true) {s : Shared} {H : Hp} {scope : Scope} {cenv : Env} {fp : List Addr} : tx (X.blk s H scope cenv fp) = tx X := by
  show Tx.mk _ _ _ (match X.calm with | true => [] | false => _) = Tx.mk _ _ _ (match X.calm with | true => [] | false => _)
  rw [hc]
theorem blk_de (hc : X.calm = true) {s : Shared} {H0 : Hp} {scope : Scope} {cenv : Env} {fp : List Addr} {e : Expr} {f : M D} (h : DE (X.blk s H0 scope cenv fp) Wx ms e f) : ∀ B W env σ H Q, Ok (tx X) ms B W env σ H → Po (tx X) Wx ms B W σ H (rkD (tx X)) (f env) Q → tm (X.blk s H0 scope cenv fp) e σ H Q := by
  unfold DE at h
  rw [blk_tx hc] at h
  exact h
theorem blk_dt (hc : X.calm = true) {s : Shared} {H0 : Hp} {scope : Scope} {cenv : Env} {fp : List Addr} {e : Expr} {f : M Bool} (h : DT (X.blk s H0 scope cenv fp) Wx ms e f) : ∀ B W env σ H Q, Ok (tx X) ms B W env σ H → Po (tx X) Wx ms B W σ H (rkB (tx X)) (f env) Q → tmT (X.blk s H0 scope cenv fp) e σ H Q := by
  unfold DT at h
  rw [blk_tx hc] at h
  exact h
/-- tests of a comprehension, in all blocks -/
def DTs (X : Cx) (ms : Ms) (scope : Scope) (ifs : List Expr) (f : M Bool) : Prop := ∃ t : TT, (∀ (s : Shared) (H : Hp) (C : Addr) (cl : List (Str × Addr)) (fp : List Addr), PTs (X.blk s H scope (compEnvC scope cl C X.env) fp) ifs t) ∧
  ∀ B W env σ H Q, Ok (tx X) ms B W env σ H → Po (tx X) WF ms B W σ H (rkB (tx X)) (f env) Q → t σ H Q
theorem dts_nil {scope : Scope} : DTs X ms scope [] bTrue := ⟨tYes, fun _ _ _ _ _ => pts_nil, fun B W env σ H Q o h => h.done (v := true) o rfl⟩
theorem dts_one {scope : Scope} {c : Expr} {f : M Bool} (hc : X.calm = true) (h : ∀ (s : Shared) (H : Hp) (C : Addr) (cl : List (Str × Addr)) (fp : List Addr), DT (X.blk s H scope (compEnvC scope cl C X.env) fp) WF ms c f) : DTs X ms scope [c] f :=
  ⟨fun σ H Q => ∀ (s0 : Shared) (H0 : Hp) (C : Addr) (cl : List (Str × Addr)) (fp : List Addr), tmT (X.blk s0 H0 scope (compEnvC scope cl C X.env) fp) c σ H Q,
    fun s H C cl fp => pts_one ⟨fun pins s1 σ H1 Q I q => q s H C cl fp pins s1 I⟩, fun B W env σ H Q o p s0 H0 C cl fp => blk_dt hc (h s0 H0 C cl fp) B W env σ H Q o p⟩
theorem lc_step {i : Nat} {cond : M Bool} {elt : M D} {n : Nat} {x : D} {xs ys : List D} {env env3 : En} (h : lcGo i cond elt n (x :: xs) env = .ok ys env3) :
    ∃ c env1, cond (env.set i (some x)) = .ok c env1 ∧ (c = true → ∃ y env2 zs, elt env1 = .ok y env2 ∧ small n = true ∧ lcGo i cond elt (n + 1) xs (env2.set i none) = .ok zs env3 ∧ ys = y :: zs) ∧ (c = false → lcGo i cond elt n xs (env1.set i none) = .ok ys env3) := by
  have h' : (match cond (env.set i (some x)) with
    | .ok true env1 => match elt env1 with
      | .ok y env2 => if small n = true then (lcGo i cond elt (n + 1) xs (env2.set i none)).bind fun ys env3 => .ok (y :: ys) env3 else .stuck
      | _ => .stuck
    | .ok false env1 => lcGo i cond elt n xs (env1.set i none)
    | _ => .stuck : R (List D)) = .ok ys env3 := h
  cases q : cond (env.set i (some x)) with
  | ok c env1 =>
    rw [q] at h'
    refine ⟨c, env1, rfl, fun e => ?_, fun e => ?_⟩
    · subst e
      cases q2 : elt env1 with
      | ok y env2 =>
        have h2 : (if small n = true then (lcGo i cond elt (n + 1) xs (env2.set i none)).bind fun ys env3 => .ok (y :: ys) env3 else .stuck : R (List D)) = .ok ys env3 := by
          have h3 : (match elt env1 with
            | .ok y env2 => if small n = true then (lcGo i cond elt (n + 1) xs (env2.set i none)).bind fun ys env3 => .ok (y :: ys) env3 else .stuck
            | _ => .stuck : R (List D)) = .ok ys env3 := h'
          rw [q2] at h3
          exact h3
        by_cases q3 : small n = true
        · rw [if_pos q3] at h2
          cases q4 : lcGo i cond elt (n + 1) xs (env2.set i none) with
          | ok zs env4 =>
            rw [q4] at h2
            have h5 : (R.ok (y :: zs) env4 : R (List D)) = .ok ys env3 := h2
            injection h5 with h6 h7
            exact ⟨y, env2, zs, rfl, q3, by rw [← h7]; exact q4, h6.symm⟩
          | err c ns es env => rw [q4] at h2; cases h2
          | stuck => rw [q4] at h2; cases h2
        · rw [if_neg q3] at h2
          cases h2
      | err c ns es env =>
        have h3 : (match elt env1 with
            | .ok y env2 => if small n = true then (lcGo i cond elt (n + 1) xs (env2.set i none)).bind fun ys env3 => .ok (y :: ys) env3 else .stuck
            | _ => .stuck : R (List D)) = .ok ys env3 := h'
        rw [q2] at h3
        cases h3
      | stuck =>
        have h3 : (match elt env1 with
            | .ok y env2 => if small n = true then (lcGo i cond elt (n + 1) xs (env2.set i none)).bind fun ys env3 => .ok (y :: ys) env3 else .stuck
            | _ => .stuck : R (List D)) = .ok ys env3 := h'
        rw [q2] at h3
        cases h3
    · subst e
      exact h'
  | err c ns es env => rw [q] at h'; cases h'
  | stuck => rw [q] at h'; cases h'
theorem R.bind_ok {α β : Type} {r : R α} {k : α → En → R β} {b : β} {e : En} (h : r.bind k = .ok b e) : ∃ a e1, r = .ok a e1 ∧ k a e1 = .ok b e := by
  cases r with
  | ok a e1 => exact ⟨a, e1, rfl, h⟩
  | err c ns es env => cases h
  | stuck => cases h
/-- the reading of a comprehension -/
theorem tm_lc {tg iter elt : Expr} {scope : Scope} {fi : M (List D)} {gc : M Bool} {fe : M D} {tt : TT} (hcalm : X.calm = true) (i : Nat) (hm : ms.contains i = false) (hio : ms.io.contains i = false)
    (hi : DI X Wx ms tg iter fi) (ht : ∀ B W env σ H Q, Ok (tx X) ms B W env σ H → Po (tx X) WF ms B W σ H (rkB (tx X)) (gc env) Q → tt σ H Q)
    (he : ∀ (s : Shared) (H : Hp) (C : Addr) (cl : List (Str × Addr)) (fp : List Addr), DE (X.blk s H scope (compEnvC scope cl C X.env) fp) WF ms elt fe) {B : Br} {W : Addr → Prop} {env : En} {σ : St} {H : Hp} {Q : VK}
    (o : Ok (tx X) ms B W env σ H) (h : Po (tx X) Wx ms B W σ H (rkF (tx X) ms) (lcM i fi gc fe env) Q) : tLc (tmI X tg iter) (gName i) tt (tmB X scope elt) [i] σ H Q := by
  refine hi _ _ _ _ _ _ o (Po.cont (k1 := rkI (tx X)) h fun ds env1 W1 H1 J n1 o1 sv h1 p hp => ?_)
  cases q0 : lcGo i gc fe 0 ds (env1.set i none) with
  | err c ns es env => rw [q0] at h1; exact h1.elim
  | stuck => rw [q0] at h1; exact h1.elim
  | ok ys env3 =>
    rw [q0] at h1
    have pw : ¬ W1 p := fun z => by
      obtain ⟨u, e⟩ := o1.wf p (.inr z)
      rw [hp] at e; cases e
    refine ⟨fun j m H2 => m = ds.length - j ∧ j ≤ ds.length ∧ ∃ W2 env2 acc vs rest, Nxt (fun c => W1 c ∨ c = p) (upd H1 p (.lst [])) (fun c => W2 c ∨ c = p) H2 ∧ ¬ W2 p ∧ Ok (tx X) ms (B.and p) W2 env2 (σ.set i none) H2 ∧ (env2[i]? = some none ∨ env2[i]? = none) ∧
        H2 p = some (.lst vs) ∧ RelL (tx X) (Bar (B.and p) W2) H2 acc vs ∧ lcGo i gc fe acc.length (ds.drop j) env2 = .ok rest env3 ∧ ys = acc ++ rest,
      ⟨ds.length, by simp, Nat.zero_le _, W1, env1.set i none, [], [], ys, Nxt.refl _ _, pw, (o1.wipe hm hio).bar hp, ?_, upd_same, trivial, q0, rfl⟩, ?_⟩
    · by_cases hl : i < env1.length
      · exact .inl (List.getElem?_set_self hl)
      · exact .inr (List.getElem?_eq_none (by rw [List.length_set]; omega))
    rintro j m H2 ⟨rfl, hj, W2, env2, acc, vs, rest, n2, np2, o2, hen, hp2, r2, g2, ey⟩
    have nn : Nxt W1 H1 (fun c => W2 c ∨ c = p) H2 := by
      refine ⟨fun a u e n => n2.keep a u (Same.upd hp a u e) fun z => ?_, fun a z => ?_, fun a u e => n2.live a u (Same.upd hp a u e)⟩
      · rcases z with z | z
        · exact n z
        · rw [z, hp] at e
          cases e
      · rcases n2.new a z with (z | z) | z
        · exact .inl z
        · exact .inr (by rw [z]; exact hp)
        · exact .inr ((Same.upd hp).free z)
    obtain ⟨s1, s2⟩ := sv (Bar (B.and p) W2) H2 ⟨fun a u e n => nn.keep a u e fun z => n (.inr z), fun a z => by
        rcases z with (z | z) | z
        · exact .inl (.inl z)
        · exact .inr (by rw [z]; exact hp)
        · rcases nn.new a (.inl z) with z | z
          · exact .inl (.inr z)
          · exact .inr z⟩ j
    by_cases hlt : j < ds.length
    · obtain ⟨y1, y2⟩ := s1 ds[j] (List.getElem?_eq_getElem hlt)
      rw [List.drop_eq_getElem_cons hlt] at g2
      obtain ⟨c, env4, gc1, gT, gF⟩ := lc_step g2
      refine .inr ⟨y1, fun H' => ∃ W2 env2 acc vs rest, Nxt (fun c => W1 c ∨ c = p) (upd H1 p (.lst [])) (fun c => W2 c ∨ c = p) H' ∧ ¬ W2 p ∧ Ok (tx X) ms (B.and p) W2 env2 (σ.set i none) H' ∧ (env2[i]? = some none ∨ env2[i]? = none) ∧
        H' p = some (.lst vs) ∧ RelL (tx X) (Bar (B.and p) W2) H' acc vs ∧ lcGo i gc fe acc.length (ds.drop (j + 1)) env2 = .ok rest env3 ∧ ys = acc ++ rest, fun H' q => ⟨ds.length - (j + 1), by omega, rfl, hlt, q⟩, fun x H' y => ?_⟩
      obtain ⟨q1, q2⟩ := y2 x H' y
      have o3 : Ok (tx X) ms (B.and p) W2 (env2.set i (some ds[j])) ((σ.set i none).set i (some x)) H' := (o2.same q1).set hm hio q2
      have back : ((σ.set i none).set i (some x)).set i none = σ.set i none := by rw [List.set_set, List.set_set]
      refine ⟨back, ht _ _ _ _ _ _ o3 ?_⟩
      rw [gc1]
      intro W4 H4 b n4 o4 eb
      have eb' : b = c := eb
      subst eb'
      have np4 : ¬ W4 p := fun z => by
        rcases n4.new p z with z | z
        · exact np2 z
        · rw [q1 _ _ hp2] at z; cases z
      have n24 : Nxt (fun c => W1 c ∨ c = p) (upd H1 p (.lst [])) (fun c => W4 c ∨ c = p) H4 := n2.trans ((Nxt.same q1).trans ⟨fun a u e n => n4.keep a u e fun z => n (.inl z), fun a z => by
        rcases z with z | z
        · rcases n4.new a z with z | z
          · exact .inl (.inl z)
          · exact .inr z
        · exact .inl (.inr z), n4.live⟩)
      have wip : ∀ {env' : En} {W' : Addr → Prop} {H' : Hp}, Ok (tx X) ms (B.and p) W' env' ((σ.set i none).set i (some x)) H' → Ok (tx X) ms (B.and p) W' (env'.set i none) (σ.set i none) H' := fun k => by
        have z := k.wipe hm hio
        rw [back] at z
        exact z
      have wen : ∀ env' : En, (env'.set i none)[i]? = some none ∨ (env'.set i none)[i]? = none := fun env' => by
        by_cases hl : i < env'.length
        · exact .inl (List.getElem?_set_self hl)
        · exact .inr (List.getElem?_eq_none (by rw [List.length_set]; omega))
      cases b with
      | true =>
        obtain ⟨y, env5, zs, e1, e2, e3, e4⟩ := gT rfl
        refine iteT fun s0 H0 C cl fp => blk_de hcalm (he s0 H0 C cl fp) _ _ _ _ _ _ o4 ?_
        rw [e1]
        intro W5 H5 v n5 o5 r5
        have hp5 : H5 p = some (.lst vs) := n5.keep _ _ (n4.keep _ _ (q1 _ _ hp2) np2) np4
        have np5 : ¬ W5 p := fun z => by
          rcases n5.new p z with z | z
          · exact np4 z
          · rw [n4.keep _ _ (q1 _ _ hp2) np2] at z; cases z
        have r6 : RelL (tx X) (Bar (B.and p) W5) H5 acc vs := RelL.ext n5.ext _ (RelL.ext n4.ext _ (RelL.ext (Ext.same q1) _ r2))
        have ew : Ext (Bar (B.and p) W5) H5 (Bar (B.and p) W5) (upd H5 p (.lst (vs ++ [v]))) := ⟨fun a u e n => by rw [upd_ne (fun z => n (.inl (.inr z)))]; exact e, fun a z => .inl z⟩
        refine ⟨vs, hp5, by rw [← r6.length]; exact small_lt e2, W5, env5.set i none, acc ++ [y], vs ++ [v], zs, ?_, np5, (wip o5).other (.inr rfl) np5, wen _, upd_same, RelL.ext ew _ (r6.append ⟨r5, trivial⟩), ?_, ?_⟩
        · refine n24.trans ⟨fun a u e n => ?_, fun a z => ?_, fun a u e => ?_⟩
          · rw [upd_ne (fun z => n (.inr z))]
            exact n5.keep a u e fun z => n (.inl z)
          · rcases z with z | z
            · rcases n5.new a z with z | z
              · exact .inl (.inl z)
              · exact .inr z
            · exact .inl (.inr z)
          · by_cases ea : a = p
            · exact ⟨_, by rw [ea]; exact upd_same⟩
            · obtain ⟨u', e'⟩ := n5.live a u e
              exact ⟨u', by rw [upd_ne ea]; exact e'⟩
        · rw [List.length_append]
          exact e3
        · rw [ey, e4, List.append_assoc]
          rfl
      | false =>
        refine iteF ⟨W4, env4.set i none, acc, vs, rest, n24, np4, wip o4, wen _, n4.keep _ _ (q1 _ _ hp2) np2, RelL.ext n4.ext _ (RelL.ext (Ext.same q1) _ r2), gF rfl, ey⟩
    · have e : j = ds.length := by omega
      subst e
      rw [List.drop_length] at g2
      have g3 : (R.ok [] env2 : R (List D)) = .ok rest env3 := g2
      injection g3 with g4 g5
      subst g4 g5
      rw [List.append_nil] at ey
      subst ey
      refine .inl ⟨s2 rfl, h1 (fun c => W2 c ∨ c = p) H2 _ nn (o2.unblk o1 hm hio nn hen) ⟨p, vs, ys, rfl, rfl, .inr rfl, hp, hp2, RelL.ext ⟨fun a u e n => e, fun a z => ?_⟩ _ r2, fun k e hk hek hs => ?_⟩⟩
      · rcases z with z | z | z
        · exact .inl (.inl (.inl z))
        · exact .inl (.inr z)
        · exact .inl (.inl (.inr z))
      · have q : k ≠ i := fun z => by rw [z, hm] at hk; cases hk
        rw [List.getElem?_set_ne (Ne.symm q)] at hek
        obtain ⟨z1, _⟩ := o2.cellAt hk hek (by rw [List.getElem?_set_ne (Ne.symm q)]; exact hs)
        exact np2 z1
theorem df_lc (i : Nat) {x : Str} {px pos : Pos} {iter elt : Expr} {ifs : List Expr} {scope : Scope} {fi : M (List D)} {gc : M Bool} {fe : M D} (hi : DI X Wx ms (.Name x px) iter fi) (ht : DTs X ms scope ifs gc)
    (he : ∀ (s : Shared) (H : Hp) (C : Addr) (cl : List (Str × Addr)) (fp : List Addr), DE (X.blk s H scope (compEnvC scope cl C X.env) fp) WF ms elt fe)
    (hc : X.calm = true) (hN : X.N.Nodup) (ok : BlkOk X.N X.env.scope scope [(x, i)])
    (hg : ∀ (s : Shared) (H : Hp) (C : Addr) (cl : List (Str × Addr)) (fp : List Addr), PG (X.blk s H scope (compEnvC scope cl C X.env) fp) (.Name x px) (gName i))
    (hm : ms.contains i = false := by rfl) (hio : ms.io.contains i = false := by rfl) (hs : ∀ x, foldedSetIterable iter X.env x = pure x := by intro _; rfl) : DF X Wx ms (.ListComp elt [⟨.Name x px, iter, ifs, 0⟩] scope pos) (lcM i fi gc fe) := fun B W env σ H Q o h => by
  obtain ⟨tt, ht1, ht2⟩ := ht
  exact PE.tm (pe_lc hc hN pi_tm ok hg ht1 (fun s H C cl fp => ⟨fun pins s1 σ H1 Q I q => q s H C cl fp pins s1 I⟩) hs) (tm_lc hc i hm hio hi ht2 he o h)
/-- y = [..] -/
theorem tmS_lcF {kr : Rk (tx X) D V} (k i : Nat) {x y : Str} {px py pos spos : Pos} {iter elt : Expr} {ifs : List Expr} {scope : Scope} {fi : M (List D)} {gc : M Bool} {fe : M D} (hi : DI X Wx ms (.Name x px) iter fi) (ht : DTs X ms scope ifs gc)
    (he : ∀ (s : Shared) (H : Hp) (C : Addr) (cl : List (Str × Addr)) (fp : List Addr), DE (X.blk s H scope (compEnvC scope cl C X.env) fp) WF ms elt fe)
    (hc : X.calm = true) (hN : X.N.Nodup) (ok : BlkOk X.N X.env.scope scope [(x, i)])
    (hg : ∀ (s : Shared) (H : Hp) (C : Addr) (cl : List (Str × Addr)) (fp : List Addr), PG (X.blk s H scope (compEnvC scope cl C X.env) fp) (.Name x px) (gName i))
    (hy : X.N[k]? = some y := by rfl) (hyl : X.env.scope.names.lookup y = some .local := by rfl) (hsw : swapsWith (.ListComp elt [⟨.Name x px, iter, ifs, 0⟩] scope pos) (some (.Name y py)) spos.line X.env = pure true := by exact sw_true rfl rfl rfl (by decide +kernel))
    (hm : ms.contains i = false := by rfl) (hio : ms.io.contains i = false := by rfl) (hk : ms.contains k = true := by rfl) (hkio : ms.io.contains k = false := by rfl) (hs : ∀ x, foldedSetIterable iter X.env x = pure x := by intro _; rfl) :
    DS X Wx ms kr (.Assign [.Name y py] (.ListComp elt [⟨.Name x px, iter, ifs, 0⟩] scope pos) spos) (sSet k (lcM i fi gc fe)) := fun B W env σ H Dn o h => by
  obtain ⟨tt, ht1, ht2⟩ := ht
  refine PS.tm (ps_setLc (i := k) hc hN hy hyl hsw pi_tm ok hg ht1 (fun s H C cl fp => ⟨fun pins s1 σ H1 Q I q => q s H C cl fp pins s1 I⟩) hs) (tm_lc hc i hm hio hi ht2 he o ?_)
  exact PoS.cont (k1 := rkF (tx X) ms) h fun d env1 W1 H1 v n1 o1 r1 h1 => h1 W1 H1 (σ.set k (some v)) (Nxt.refl W1 H1) (o1.setF hk hkio r1)
theorem tmS_lc {kr : Rk (tx X) D V} (k i : Nat) {x y : Str} {px py pos spos : Pos} {iter elt : Expr} {ifs : List Expr} {scope : Scope} {fi : M (List D)} {gc : M Bool} {fe : M D} (hi : DI X Wx ms (.Name x px) iter fi) (ht : DTs X ms scope ifs gc)
    (he : ∀ (s : Shared) (H : Hp) (C : Addr) (cl : List (Str × Addr)) (fp : List Addr), DE (X.blk s H scope (compEnvC scope cl C X.env) fp) WF ms elt fe)
    (hc : X.calm = true) (hN : X.N.Nodup) (ok : BlkOk X.N X.env.scope scope [(x, i)])
    (hg : ∀ (s : Shared) (H : Hp) (C : Addr) (cl : List (Str × Addr)) (fp : List Addr), PG (X.blk s H scope (compEnvC scope cl C X.env) fp) (.Name x px) (gName i))
    (hy : X.N[k]? = some y := by rfl) (hyl : X.env.scope.names.lookup y = some .local := by rfl) (hsw : swapsWith (.ListComp elt [⟨.Name x px, iter, ifs, 0⟩] scope pos) (some (.Name y py)) spos.line X.env = pure true := by exact sw_true rfl rfl rfl (by decide +kernel))
    (hm : ms.contains i = false := by rfl) (hio : ms.io.contains i = false := by rfl) (hk : ms.contains k = false := by rfl) (hkio : ms.io.contains k = false := by rfl) (hs : ∀ x, foldedSetIterable iter X.env x = pure x := by intro _; rfl) :
    DS X Wx ms kr (.Assign [.Name y py] (.ListComp elt [⟨.Name x px, iter, ifs, 0⟩] scope pos) spos) (sSet k (lcM i fi gc fe)) := fun B W env σ H Dn o h => by
  obtain ⟨tt, ht1, ht2⟩ := ht
  refine PS.tm (ps_setLc (i := k) hc hN hy hyl hsw pi_tm ok hg ht1 (fun s H C cl fp => ⟨fun pins s1 σ H1 Q I q => q s H C cl fp pins s1 I⟩) hs) (tm_lc hc i hm hio hi ht2 he o ?_)
  have key := PoS.cont (k1 := rkD (tx X)) (Q1 := fun v H1 => Dn.nx (σ.set k (some v)) H1) h fun d env1 W1 H1 v n1 o1 r1 h1 => h1 W1 H1 (σ.set k (some v)) (Nxt.refl W1 H1) (o1.set hk hkio r1)
  cases q : lcM i fi gc fe env with
  | ok a env' =>
    rw [q] at key
    intro W' H' v n o' z
    obtain ⟨c, vs, l, rfl, rfl, hw, h0, hl, rl, hf⟩ := z
    refine key (fun b => W' b ∧ b ≠ c) H' _ ⟨n.keep, fun b w => n.new b w.1, n.live⟩ (o'.less hf) ⟨c, vs, rfl, hl, fun b => ?_, RelL.ext ⟨fun b u h _ => h, fun b w => ?_⟩ l rl⟩
    · rcases b with b | b
      · obtain ⟨u, e⟩ := o.wf c (.inl b)
        rw [h0] at e; cases e
      · exact b.2 rfl
    · rcases w with w | w
      · exact .inl (.inl w)
      · exact .inl (.inr w.1)
  | err c ns ds env' =>
    rw [q] at key
    exact key
  | stuck =>
    rw [q] at key
    exact key
end
end DL

set_option Elab.async false
set_option linter.all false
set_option maxRecDepth 100000
set_option maxHeartbeats 4000000
namespace DL
open PySem PySem.Spec L2

/-! ### what a def does -/
inductive Rs where
  | ok (d : D) (io : Option D) | err (c : Nat) (ns : List Nat) (ds : List D) (io : Option D) | stuck
def ioOf (io : Option Nat) (env : En) : Option D := match io with
  | none => none
  | some i => env.getD i none
/-- a def's body run: n slots; io: the place of a list (or an instance) that is handed in and changed; fr: the answer is a new list -/
def runF (n : Nat) (io : Option Nat) (fr : Bool) (body : M Fl) (ds : List D) : Rs := match body (ds.map some ++ List.replicate (n - ds.length) none) with
  | .ok (.rt d) env => .ok d (ioOf io env)
  | .ok .nx env => if fr = true then .stuck else .ok .non (ioOf io env)
  | .err c ns es env => .err c ns es (ioOf io env)
  | _ => .stuck
def IoCell (T : Tx) (io : Option Nat) (vs : List V) (B W : Addr → Prop) (H : Hp) (iod : Option D) : Prop := ∀ i, io = some i → ∃ x dv, vs[i]? = some x ∧ iod = some dv ∧ Cell T (fun a => B a ∨ W a) W H dv x
def Ans (T : Tx) (fr : Bool) (B W W' : Addr → Prop) (H' : Hp) (d : D) (v : V) : Prop := if fr = true then ∃ a vs l, d = .lst l ∧ v = .ref a ∧ W' a ∧ ¬ W a ∧ H' a = some (.lst vs) ∧ RelL T (fun a => B a ∨ W' a) H' l vs else Rel T (fun a => B a ∨ W' a) H' d v
/-- the promise of a def that does m -/
def SpD (T : Tx) (np : Nat) (io : Option Nat) (fr : Bool) (m : List D → Rs) : Sp := fun vs H Q E => ∃ (B W : Addr → Prop) (ds : List D), vs.length = np ∧ ds.length = np ∧ (∀ a, B a ∨ W a → ∃ o, H a = some o) ∧
  (∀ i d v, ds[i]? = some d → vs[i]? = some v → (io ≠ some i → Rel T (fun a => B a ∨ W a) H d v) ∧ (io = some i → Cell T (fun a => B a ∨ W a) W H d v ∧ ∀ a, W a → v = .ref a)) ∧ (io = none → ∀ a, ¬ W a) ∧ (∀ i, io = some i → i < np) ∧
  match m ds with
  | .ok d iod => ∀ W' H' v, Nxt W H W' H' → IoCell T io vs B W' H' iod → Ans T fr B W W' H' d v → Q v H'
  | .err c ns es iod => ∀ W' H' dx ws, Nxt W H W' H' → IoCell T io vs B W' H' iod → H dx = none → H' dx = some (.xd ((nms ns).zip ws)) → ns.length = ws.length → RelL T (fun a => B a ∨ W' a) H' es ws → E (.ref (He.ga T.K (nm c))) (some dx) H'
  | .stuck => False

/-- the slots of a def: those of its parameters that are cells (io), its own cells -/
def MsOk (ms : Ms) (np : Nat) (io : Option Nat) : Prop := (∀ i, i < np → (ms.contains i = true ↔ io = some i)) ∧ ∀ i, io = some i → ms.io.contains i = true
theorem get_start {α : Type} {l : List α} {n i : Nat} {x : α} (h : (l.map some ++ List.replicate n none)[i]? = some (some x)) : l[i]? = some x := by
  by_cases hl : i < l.length
  · rw [List.getElem?_append_left (by rw [List.length_map]; exact hl), List.getElem?_map] at h
    cases q : l[i]? with
    | none => rw [q] at h; cases h
    | some y =>
      rw [q] at h
      have e : some y = some x := Option.some.inj h
      exact e
  · rw [List.getElem?_append_right (by rw [List.length_map]; omega), List.getElem?_replicate] at h
    split at h <;> cases h
theorem start_get {α : Type} {l : List α} {n i : Nat} {x : α} (h : l[i]? = some x) : (l.map some ++ List.replicate n none)[i]? = some (some x) := by
  rw [List.getElem?_append_left (by rw [List.length_map]; exact (List.getElem?_eq_some_iff.mp h).1), List.getElem?_map, h]
  rfl
section
variable {P : Program} {w : World} {K : PySem.W.Frag} {mg : Str → Option Value} {base : Heap} {x qual : Str} {params : Arguments} {body : List Stmt} {scope : Scope} {dvs : List V} {kws : List (Str × V)} {f : Addr} {fd : FuncData}
abbrev xof (P : Program) (w : World) (K : PySem.W.Frag) (mg : Str → Option Value) (base : Heap) (N : List Str) (qual : Str) (scope : Scope) (f : Addr) (cdv : Value) (A : Around) (outer : List Env) (s : Shared) (H : Hp) (E : XK) : Cx := cxOf (L2.CX P w) P w K mg base N qual scope f cdv A outer s H E
/-- a def's entry: its state, what is to be shown of its body -/
theorem sp_enter {N ps : List Str} {ms : Ms} {io : Option Nat} {fr : Bool} {g : M Fl} {vs : List V} {H : Hp} {Q : VK} {E : XK} (hms : MsOk ms ps.length io) (hN : ps.length ≤ N.length) (h : SpD ⟨K, P, w, []⟩ ps.length io fr (runF N.length io fr g) vs H Q E) :
    ∃ (Bx : Br) (W : Addr → Prop) (env : En), Ok ⟨K, P, w, []⟩ ms Bx W env (L2.start N vs) H ∧ PoS ⟨K, P, w, []⟩ (fun cls d _ H => E cls d H) ms (if fr = true then rkR ⟨K, P, w, []⟩ else rkD ⟨K, P, w, []⟩) Bx W H (g env) { nx := fun _ H' => Q .non H', rt := Q } := by
  obtain ⟨B, W, ds, hv, hd, wf, args, hw, hio, h⟩ := h
  have o : Ok ⟨K, P, w, []⟩ ms ⟨B, fun i => if io = some i then vs[i]? else none⟩ W (ds.map some ++ List.replicate (N.length - ds.length) none) (L2.start N vs) H := by
    refine ⟨?_, wf, fun i d hm he => ?_, fun i d hm he => ?_, fun i j d e a hi hj n he hf' s1 s2 => ?_, fun i v h => ?_⟩
    · unfold L2.start
      rw [List.length_append, List.length_append, List.length_map, List.length_map, List.length_replicate, List.length_replicate, hv, hd]
    · have e1 := get_start he
      have il : i < ps.length := by rw [← hd]; exact (List.getElem?_eq_some_iff.mp e1).1
      have iv : i < vs.length := by rw [hv]; exact il
      have e2 : vs[i]? = some vs[i] := List.getElem?_eq_getElem iv
      refine ⟨vs[i], start_get e2, (args i d _ e1 e2).1 fun z => ?_⟩
      rw [(hms.1 i il).mpr z] at hm
      cases hm
    · have e1 := get_start he
      have il : i < ps.length := by rw [← hd]; exact (List.getElem?_eq_some_iff.mp e1).1
      have iv : i < vs.length := by rw [hv]; exact il
      have e2 : vs[i]? = some vs[i] := List.getElem?_eq_getElem iv
      exact ⟨vs[i], start_get e2, ((args i d _ e1 e2).2 ((hms.1 i il).mp hm)).1⟩
    · have i1 : i < ps.length := by rw [← hd]; exact (List.getElem?_eq_some_iff.mp (get_start he)).1
      have j1 : j < ps.length := by rw [← hd]; exact (List.getElem?_eq_some_iff.mp (get_start hf')).1
      have z1 := (hms.1 i i1).mp hi
      have z2 := (hms.1 j j1).mp hj
      rw [z1] at z2
      exact n (Option.some.inj z2)
    · have h' : (if io = some i then vs[i]? else none) = some v := h
      by_cases q : io = some i
      · rw [if_pos q] at h'
        have il := hio i q
        have e1 : ds[i]? = some (ds[i]'(by rw [hd]; exact il)) := List.getElem?_eq_getElem _
        exact ⟨hms.2 i q, (hms.1 i il).mpr q, start_get h', _, start_get e1⟩
      · rw [if_neg q] at h'
        cases h'
  refine ⟨_, _, _, o, ?_⟩
  have cell : ∀ {W' : Addr → Prop} {env' : En} {σ' : L2.St} {H' : Hp}, Ok ⟨K, P, w, []⟩ ms ⟨B, fun i => if io = some i then vs[i]? else none⟩ W' env' σ' H' → IoCell ⟨K, P, w, []⟩ io vs B W' H' (ioOf io env') := fun {W' env' σ' H'} o' i hi => by
    have il := hio i hi
    have e2 : vs[i]? = some (vs[i]'(by rw [hv]; exact il)) := List.getElem?_eq_getElem _
    obtain ⟨f1, f2, f3, d, f4⟩ := o'.fx i _ (show (if io = some i then vs[i]? else none) = some _ by rw [if_pos hi]; exact e2)
    obtain ⟨v, g1, g2⟩ := o'.mu i d f2 f4
    rw [f3] at g1
    have g3 := Option.some.inj (Option.some.inj g1)
    subst g3
    refine ⟨_, d, e2, ?_, g2⟩
    rw [hi]
    show env'.getD i none = some d
    rw [List.getD_eq_getElem?_getD, f4]
    rfl
  have er : runF N.length io fr g ds = match g (ds.map some ++ List.replicate (N.length - ds.length) none) with
    | .ok (.rt d) env => .ok d (ioOf io env)
    | .ok .nx env => if fr = true then .stuck else .ok .non (ioOf io env)
    | .err c ns es env => .err c ns es (ioOf io env)
    | _ => .stuck := rfl
  rw [er] at h
  cases q : g (ds.map some ++ List.replicate (N.length - ds.length) none) with
  | stuck => rw [q] at h; exact h.elim
  | err c ns es env' =>
    rw [q] at h
    exact fun W' H' σ' dx ws n o' z1 z2 z3 z4 => h W' H' dx ws n (cell o') z1 z2 z3 z4
  | ok a env' =>
    rw [q] at h
    cases a with
    | bk => exact h.elim
    | ct => exact h.elim
    | nx =>
      cases fr with
      | true => exact h.elim
      | false => exact fun W' H' σ' n o' => h W' H' .non n (cell o') rfl
    | rt d =>
      cases fr with
      | false => exact fun W' H' σ' v n o' z => h W' H' v n (cell o') z
      | true =>
        intro W' H' σ' v n o' z
        obtain ⟨a, us, l, rfl, rfl, z1, z2, z3, z4⟩ := z
        refine h W' H' _ n (cell o') ⟨a, us, l, rfl, rfl, z1, fun wa => ?_, z2, z3⟩
        cases qi : io with
        | none => exact hw qi a wa
        | some i =>
          have il := hio i qi
          have e1 : ds[i]? = some (ds[i]'(by rw [hd]; exact il)) := List.getElem?_eq_getElem _
          have e2 : vs[i]? = some (vs[i]'(by rw [hv]; exact il)) := List.getElem?_eq_getElem _
          refine z4 i _ (show (if io = some i then vs[i]? else none) = some _ by rw [if_pos qi]; exact e2) (((args i _ _ e1 e2).2 qi).2 a wa)
/-- THE RULE for a def -/
theorem fnD {N ps : List Str} {k : Nat} {ms : Ms} {io : Option Nat} {fr : Bool} {g : M Fl} (F : FunD K x qual params body scope dvs kws f fd) (S : FnScope N ps scope) (hms : MsOk ms ps.length io) (hN : ps.length ≤ N.length)
    (hb : ∀ (cdv : Value) (A : Around) (outer : List Env) (s : Shared) (H : Hp) (E : XK), Room k (A.deeper (PyProof.Rows.envOfC qual scope s.heap.objs.size f cdv)) →
      DSs (xof P w K mg base N qual scope f cdv A outer s H E) (fun cls d _ H => E cls d H) ms (if fr = true then rkR ⟨K, P, w, []⟩ else rkD ⟨K, P, w, []⟩) body g) :
    FnOk P w K mg base (L2.CX P w) (k + 1) f fd ps (SpD ⟨K, P, w, []⟩ ps.length io fr (runF N.length io fr g)) := by
  refine F.ok S (fun vs H Q E h => ?_) (fun cdv A outer s H vs Q E hr h => ⟨_, pss_tm, ?_⟩)
  · obtain ⟨B, W, ds, h1, _⟩ := h
    exact h1
  · obtain ⟨Bx, W, env, o, p⟩ := sp_enter hms hN h
    exact hb cdv A outer s H E hr Bx W env _ _ _ o p
end

/-! ### calls -/
theorem Rel.anti {T : Tx} {B B' : Addr → Prop} {H : Hp} {d : D} {v : V} (h : ∀ a, B' a → B a) (r : Rel T B H d v) : Rel T B' H d v := Rel.ext ⟨fun _ _ e _ => e, fun a b => .inl (h a b)⟩ d r
theorem RelL.anti {T : Tx} {B B' : Addr → Prop} {H : Hp} {d : List D} {v : List V} (h : ∀ a, B' a → B a) (r : RelL T B H d v) : RelL T B' H d v := RelL.ext ⟨fun _ _ e _ => e, fun a b => .inl (h a b)⟩ d r
section
variable {T : Tx} {ms : Ms} {B : Br} {W : Addr → Prop} {env : En} {σ : L2.St} {H H' : Hp}
/-- behind a call that changed nothing of ours -/
theorem Ok.kept (o : Ok T ms B W env σ H) (k : ∀ a u, H a = some u → H' a = some u) : Ok T ms B W env σ H' := o.same k
/-- behind a call that changed our cell at a, slot j; some of its new things are ours now -/
theorem Ok.called {W' : Addr → Prop} {j : Nat} {a : Addr} {d d' : D} (o : Ok T ms B W env σ H) (hj : ms.contains j = true) (he : env[j]? = some (some d)) (hs : σ[j]? = some (some (.ref a))) (hW : ∀ c, W c → W' c) (hn : ∀ c, W' c → W c ∨ H c = none) (hl : ∀ c, W' c → ∃ u, H' c = some u)
    (k : ∀ c u, H c = some u → c ≠ a → H' c = some u) (lv : ∀ c u, H c = some u → ∃ u', H' c = some u') (c : Cell T (Bar B W') W' H' d' (.ref a)) : Ok T ms B W' (env.set j (some d')) σ H' := by
  obtain ⟨hw, u0, hu⟩ := o.cellAt hj he hs
  have ex : Ext (Bar B W) H (Bar B W') H' := ⟨fun c z h n => k c z h fun e => n (.inr (by rw [e]; exact hw)), fun c z => by
    rcases z with z | z
    · exact .inl (.inl z)
    · rcases hn c z with z | z
      · exact .inl (.inr z)
      · exact .inr z⟩
  have get : ∀ {i : Nat} {e : D}, (env.set j (some d'))[i]? = some (some e) → (i = j ∧ e = d') ∨ (i ≠ j ∧ env[i]? = some (some e)) := fun h => set_get h
  refine ⟨by rw [List.length_set, o.len], fun b z => ?_, fun i e hi h => ?_, fun i e hi h => ?_, fun i l e f b hi hl n h1 h2 s1 s2 => ?_, fun i w h => ?_⟩
  · rcases z with z | z
    · obtain ⟨q, hq⟩ := o.wf b (.inl z)
      exact lv b q hq
    · exact hl b z
  · rcases get h with ⟨rfl, rfl⟩ | ⟨n, h⟩
    · rw [hj] at hi; cases hi
    · obtain ⟨w, e1, e2⟩ := o.sl i e hi h
      exact ⟨w, e1, Rel.ext ex e e2⟩
  · rcases get h with ⟨rfl, rfl⟩ | ⟨n, h⟩
    · exact ⟨_, hs, c⟩
    · obtain ⟨w, e1, e2⟩ := o.mu i e hi h
      refine ⟨w, e1, ?_⟩
      have na : w ≠ .ref a := fun z => o.dj i j e d a hi hj n h he (by rw [e1, z]) hs
      cases e with
      | lst l =>
        obtain ⟨b, vs, rfl, e5, e6, e7⟩ := e2
        exact ⟨b, vs, rfl, hW _ e5, k _ _ e6 fun z => na (by rw [z]), RelL.ext ex _ e7⟩
      | obj c ns ds =>
        obtain ⟨b, dx, vs, rfl, e5, e6, e7, e8⟩ := e2
        exact ⟨b, dx, vs, rfl, hW _ e5, k _ _ e6 fun z => na (by rw [z]), e7, RelL.ext ex _ e8⟩
      | _ => exact e2.elim
  · have g1 : ∃ e', env[i]? = some (some e') := by
      rcases get h1 with ⟨rfl, rfl⟩ | ⟨n, h⟩
      · exact ⟨d, he⟩
      · exact ⟨e, h⟩
    have g2 : ∃ e', env[l]? = some (some e') := by
      rcases get h2 with ⟨rfl, rfl⟩ | ⟨n, h⟩
      · exact ⟨d, he⟩
      · exact ⟨f, h⟩
    obtain ⟨e1, g1⟩ := g1
    obtain ⟨e2, g2⟩ := g2
    exact o.dj i l e1 e2 b hi hl n g1 g2 s1 s2
  · obtain ⟨e1, e2, e3, e, e4⟩ := o.fx i w h
    by_cases hi : i = j
    · exact ⟨e1, e2, e3, d', by rw [hi, List.getElem?_set_self (List.getElem?_eq_some_iff.mp he).1]⟩
    · exact ⟨e1, e2, e3, e, by rw [List.getElem?_set_ne (Ne.symm hi)]; exact e4⟩
end
section
variable {X : Cx} {Wx : WX} {ms : Ms} {m : List D → Rs} {ddl : List D} {dvs : List V} {np : Nat}
theorem RelL.nth {T : Tx} {B : Addr → Prop} {H : Hp} : ∀ {ds : List D} {vs : List V} {i : Nat} {d : D} {v : V}, RelL T B H ds vs → ds[i]? = some d → vs[i]? = some v → Rel T B H d v := fun r h1 h2 => by
  obtain ⟨v', e1, e2⟩ := r.get h1
  rw [h2] at e1
  cases e1
  exact e2
/-- the promise at a call without a cell; the answer known -/
theorem sp_call {B : Br} {W : Addr → Prop} {env : En} {σ : L2.St} {H : Hp} {Q : VK} {ds : List D} {vs : List V} (o : Ok (tx X) ms B W env σ H) (r : RelL (tx X) (Bar B W) H ds vs) (hdv : ∀ B H, RelL (tx X) B H ddl dvs) (hn : (ds ++ ddl).length = np)
    (h : Po (tx X) Wx ms B W σ H (rkD (tx X)) (match m (ds ++ ddl) with | .ok d _ => .ok d env | .err c ns es _ => .err c ns es env | .stuck => .stuck) Q) : SpD (tx X) np none false m (vs ++ dvs) H Q (WE Wx σ) := by
  have r2 : RelL (tx X) (Bar B W) H (ds ++ ddl) (vs ++ dvs) := r.append (hdv _ _)
  have an : ∀ a, Bar B W a ∨ False → Bar B W a := fun a z => z.elim id False.elim
  refine ⟨Bar B W, fun _ => False, ds ++ ddl, by rw [← r2.length]; exact hn, hn, fun a z => o.wf a (an a z), fun i d v e1 e2 => ⟨fun _ => Rel.anti an (r2.nth e1 e2), (fun z => by cases z)⟩, fun _ _ z => z, (fun i z => by cases z), ?_⟩
  cases q : m (ds ++ ddl) with
  | stuck => rw [q] at h; exact h
  | ok d iod =>
    rw [q] at h
    intro W' H' v n _ z
    have sm : Same H H' := fun a u e => n.keep a u e fun z => z
    exact h W H' v (Nxt.same sm) (o.same sm) (Rel.anti (fun a b => .inl b) z)
  | err c ns es iod =>
    rw [q] at h
    intro W' H' dx ws n _ z1 z2 z3 z4
    have sm : Same H H' := fun a u e => n.keep a u e fun z => z
    exact h W H' dx ws (Nxt.same sm) (o.same sm) z1 z2 z3 (RelL.anti (fun a b => .inl b) z4)
/-- .. the answer a new list -/
theorem sp_callF {B : Br} {W : Addr → Prop} {env : En} {σ : L2.St} {H : Hp} {Q : VK} {ds : List D} {vs : List V} (o : Ok (tx X) ms B W env σ H) (r : RelL (tx X) (Bar B W) H ds vs) (hdv : ∀ B H, RelL (tx X) B H ddl dvs) (hn : (ds ++ ddl).length = np)
    (h : Po (tx X) Wx ms B W σ H (rkF (tx X) ms) (match m (ds ++ ddl) with | .ok d _ => .ok d env | .err c ns es _ => .err c ns es env | .stuck => .stuck) Q) : SpD (tx X) np none true m (vs ++ dvs) H Q (WE Wx σ) := by
  have r2 : RelL (tx X) (Bar B W) H (ds ++ ddl) (vs ++ dvs) := r.append (hdv _ _)
  have an : ∀ a, Bar B W a ∨ False → Bar B W a := fun a z => z.elim id False.elim
  refine ⟨Bar B W, fun _ => False, ds ++ ddl, by rw [← r2.length]; exact hn, hn, fun a z => o.wf a (an a z), fun i d v e1 e2 => ⟨fun _ => Rel.anti an (r2.nth e1 e2), (fun z => by cases z)⟩, fun _ _ z => z, (fun i z => by cases z), ?_⟩
  cases q : m (ds ++ ddl) with
  | stuck => rw [q] at h; exact h
  | ok d iod =>
    rw [q] at h
    intro W' H' v n _ z
    have sm : Same H H' := fun a u e => n.keep a u e fun z => z
    obtain ⟨a, us, l, rfl, rfl, z1, z2, z3, z4⟩ := z
    have ha : H a = none := (n.new a z1).elim (fun z => z.elim) id
    have ex : Ext (Bar B W) H (Bar B fun c => W c ∨ c = a) H' := ⟨fun c u e _ => sm c u e, fun c z => by
      rcases z with z | z | z
      · exact .inl (.inl z)
      · exact .inl (.inr z)
      · exact .inr (by rw [z]; exact ha)⟩
    refine h (fun c => W c ∨ c = a) H' _ ⟨fun c u e _ => sm c u e, fun c z => ?_, fun c u e => ⟨u, sm c u e⟩⟩ ⟨o.len, fun c z => ?_, fun i d hi e => ?_, fun i d hi e => ?_, o.dj, o.fx⟩
      ⟨a, us, l, rfl, rfl, .inr rfl, ha, z3, RelL.anti (fun c b => ?_) z4, fun i e hi he hs => ?_⟩
    · rcases z with z | z
      · exact .inl z
      · exact .inr (by rw [z]; exact ha)
    · rcases z with z | z | z
      · obtain ⟨u, e⟩ := o.wf c (.inl z)
        exact ⟨u, sm c u e⟩
      · obtain ⟨u, e⟩ := o.wf c (.inr z)
        exact ⟨u, sm c u e⟩
      · exact ⟨_, by rw [z]; exact z3⟩
    · obtain ⟨v, e1, e2⟩ := o.sl i d hi e
      exact ⟨v, e1, Rel.ext ex d e2⟩
    · obtain ⟨v, e1, e2⟩ := o.mu i d hi e
      exact ⟨v, e1, e2.ext ex fun c u w e => ⟨.inl w, sm c u e⟩⟩
    · rcases b with b | b | b
      · exact .inl (.inl b)
      · exact .inl (.inr b)
      · exact .inr (by rw [b]; exact z1)
    · obtain ⟨_, u, hu⟩ := o.cellAt hi he hs
      rw [ha] at hu; cases hu
  | err c ns es iod =>
    rw [q] at h
    intro W' H' dx ws n _ z1 z2 z3 z4
    have sm : Same H H' := fun a u e => n.keep a u e fun z => z
    exact h W H' dx ws (Nxt.same sm) (o.same sm) z1 z2 z3 (RelL.anti (fun a b => .inl b) z4)
end
end DL

set_option Elab.async false
set_option linter.all false
set_option maxRecDepth 100000
set_option maxHeartbeats 4000000
namespace DL
open PySem PySem.Spec L2

/-- a def that is called by place -/
abbrev Fn (X : Cx) (k : Nat) (f : Addr) (np : Nat) (io : Option Nat) (fr : Bool) (m : List D → Rs) : Prop := FnR X.prog X.w X.K X.mg X.base (L2.CX X.prog X.w) k f (SpD (tx X) np io fr m)
section
variable {P : Program} {w : World} {K : PySem.W.Frag} {mg : Str → Option Value} {base : Heap} {k : Nat} {f : Addr} {fd : FuncData} {ps : List Str} {io : Option Nat} {fr : Bool} {m : List D → Rs}
/-- every parameter is given -/
theorem fnR_all (F : FnOk P w K mg base (L2.CX P w) k f fd ps (SpD ⟨K, P, w, []⟩ ps.length io fr m)) (hb : Binds K fd ps []) : FnR P w K mg base (L2.CX P w) k f (SpD ⟨K, P, w, []⟩ ps.length io fr m) :=
  (FnOk.raw F hb .nil).imp fun vs H Q E h => by rw [List.append_nil]; exact h
/-- the last ones are defaults -/
theorem fnR_dfl (n : Nat) (ddl : List D) {dvs : List V} {ds : List Value} (F : FnOk P w K mg base (L2.CX P w) k f fd ps (SpD ⟨K, P, w, []⟩ ps.length io fr m)) (hb : Binds K fd ps ds) (hd : Vals dvs ds) (hdv : ∀ B H, RelL ⟨K, P, w, []⟩ B H ddl dvs) (hn : n + ddl.length = ps.length) (hi : ∀ i, io = some i → i < n) :
    FnR P w K mg base (L2.CX P w) k f (SpD ⟨K, P, w, []⟩ n io fr fun l => m (l ++ ddl)) :=
  (FnOk.raw F hb hd).imp fun vs H Q E h => by
    obtain ⟨B, W, es, h1, h2, h3, h4, h5, h6, h7⟩ := h
    have hl : ddl.length = dvs.length := (hdv B H).length
    refine ⟨B, W, es ++ ddl, by rw [List.length_append, h1, ← hl, hn], by rw [List.length_append, h2, hn], h3, fun i d v e1 e2 => ?_, h5, fun i e => Nat.lt_of_lt_of_le (hi i e) (by omega), ?_⟩
    · by_cases q : i < n
      · rw [List.getElem?_append_left (by omega)] at e1 e2
        exact h4 i d v e1 e2
      · rw [List.getElem?_append_right (by omega)] at e1 e2
        rw [h2] at e1
        rw [h1] at e2
        exact ⟨fun _ => (hdv _ _).nth e1 e2, fun e => absurd (hi i e) q⟩
    · have io_lt : ∀ {W' : Addr → Prop} {H' : Hp} {iod : Option D}, IoCell ⟨K, P, w, []⟩ io (vs ++ dvs) B W' H' iod → IoCell ⟨K, P, w, []⟩ io vs B W' H' iod := fun {W' H' iod} z i e => by
        obtain ⟨x, dv, e1, e2, e3⟩ := z i e
        rw [List.getElem?_append_left (by rw [h1]; exact hi i e)] at e1
        exact ⟨x, dv, e1, e2, e3⟩
      cases q : m (es ++ ddl) with
      | ok d iod =>
        simp only [q] at h7 ⊢
        exact fun W' H' v n c => h7 W' H' v n (io_lt c)
      | err c ns gs iod =>
        simp only [q] at h7 ⊢
        exact fun W' H' dx ws n c => h7 W' H' dx ws n (io_lt c)
      | stuck =>
        simp only [q] at h7
end
section
variable {X : Cx} {k : Nat} {f : Addr} {sp : Sp} {E : St → XK} {x : Str} {p pos : Pos} {e : Expr} {es : List Expr}
theorem run_fnRS {pins : List (Addr × Obj)} {σ : St} {H : Hp} {s : Shared} {Q : VK} {us : List Value} {vs : List V} (F : FnR X.prog X.w X.K X.mg X.base (L2.CX X.prog X.w) k f sp) (hr : Room k X.A) (hx : PassesAt (L2.CX X.prog X.w) X σ (E σ)) (I : Inv X pins σ H s) (r : Vals vs us) (h : sp vs H Q (E σ)) :
    codeAny (model X.prog X.w) X.A (.call (.ref f) ⟨us, []⟩) (fun r s' => match r with | .ok (.ret v) => EP X pins σ Q v s' | .ok _ => False | .error e => X.xe e s') s := by
  refine codeAny_mono (F X.A X.stack s H us vs Q (E σ) hr I.env0 r h) fun r s' hq => ?_
  cases r with
  | error e => exact hx pins H s e s' I hq
  | ok fl =>
    cases fl with
    | ret u => exact I.after hq
    | next => exact False.elim hq
    | brk => exact False.elim hq
    | cont => exact False.elim hq
theorem tm_call (F : FnR X.prog X.w X.K X.mg X.base (L2.CX X.prog X.w) k f sp) (hr : Room k X.A) (hg : Gl X x) (hm : X.mg x = some (.ref f)) (hk : PySem.W.keepIn X.K (.ref f) = true) (hx : ∀ σ, PassesAt (L2.CX X.prog X.w) X σ (E σ)) {σ : St} {H : Hp} {Q : VK}
    (ha : tmA X (e :: es) σ H fun vs H1 => sp vs H1 Q (E σ)) (hdb : (x == ("__debug__" : Str)) = false := by decide) (he : starEach (e :: es) X.env = (false, eval e X.env) :: starEach es X.env := by rfl) (hpl : (backTo pos (starEach es X.env)).any (·.1) = false := by rfl) :
    tm X (.Call (.Name x p) (e :: es) [] pos) σ H Q := fun pins s I => by
  refine wpAny_Call_Name_kw (ld_glob I hg hm ?_ hdb)
  refine PySem.W.callWith_K (h₀ := X.base) I.ok.mod.kin hk (thn (ha pos pins s I) fun us s1 ⟨vs, H1, I1, r, q⟩ => ⟨I1.kIn, ?_⟩) he hpl
  exact wpAny_call (run_fnRS F hr (hx σ) I1 r q)
theorem tm_call0 (F : FnR X.prog X.w X.K X.mg X.base (L2.CX X.prog X.w) k f sp) (hr : Room k X.A) (hg : Gl X x) (hm : X.mg x = some (.ref f)) (hk : PySem.W.keepIn X.K (.ref f) = true) (hx : ∀ σ, PassesAt (L2.CX X.prog X.w) X σ (E σ)) {σ : St} {H : Hp} {Q : VK}
    (ha : sp [] H Q (E σ)) (hdb : (x == ("__debug__" : Str)) = false := by decide) : tm X (.Call (.Name x p) [] [] pos) σ H Q := fun pins s I => by
  refine wpAny_Call_Name_kw (ld_glob I hg hm ?_ hdb)
  exact PySem.W.callWith_K0 I.kIn hk (wpAny_call (run_fnRS (us := []) F hr (hx σ) I .nil ha))
end

/-! ### mirrors of calls -/
def cCall (np : Nat) (m : List D → Rs) (fs : M (List D)) : M D := fun env => (fs env).bind fun ds env1 => if ds.length = np then (match m ds with
  | .ok d _ => .ok d env1
  | .err c ns es _ => .err c ns es env1
  | .stuck => .stuck) else .stuck
def ioRun (j : Nat) (r : Rs) (env : En) : R D := match r with
  | .ok d (some io) => .ok d (env.set j (some io))
  | .err c ns es (some io) => .err c ns es (env.set j (some io))
  | _ => .stuck
def cCallIo (np : Nat) (j : Nat) (m : List D → Rs) (fs : M (List D)) : M D := fun env => match env[j]? with
  | some (some _) => (fs env).bind fun ds env1 => (match env1[j]? with
    | some (some d0) => if ds.length + 1 = np then ioRun j (m (d0 :: ds)) env1 else .stuck
    | _ => .stuck)
  | _ => .stuck
section
variable {X : Cx} {Wx : WX} {ms : Ms} {m : List D → Rs} {np : Nat}
theorem sp_call' {B : Br} {W : Addr → Prop} {env : En} {σ : St} {H : Hp} {Q : VK} {ds : List D} {vs : List V} (o : Ok (tx X) ms B W env σ H) (r : RelL (tx X) (Bar B W) H ds vs)
    (h : Po (tx X) Wx ms B W σ H (rkD (tx X)) (if ds.length = np then (match m ds with | .ok d _ => .ok d env | .err c ns es _ => .err c ns es env | .stuck => .stuck) else .stuck) Q) : SpD (tx X) np none false m vs H Q (WE Wx σ) := by
  by_cases hn : ds.length = np
  · rw [if_pos hn] at h
    have q := sp_call (m := m) (ddl := []) (dvs := []) (np := np) o r (fun _ _ => trivial) (by rw [List.append_nil]; exact hn) (by rw [List.append_nil]; exact h)
    rw [List.append_nil] at q
    exact q
  · rw [if_neg hn] at h
    exact h.elim
theorem sp_callF' {B : Br} {W : Addr → Prop} {env : En} {σ : St} {H : Hp} {Q : VK} {ds : List D} {vs : List V} (o : Ok (tx X) ms B W env σ H) (r : RelL (tx X) (Bar B W) H ds vs)
    (h : Po (tx X) Wx ms B W σ H (rkF (tx X) ms) (if ds.length = np then (match m ds with | .ok d _ => .ok d env | .err c ns es _ => .err c ns es env | .stuck => .stuck) else .stuck) Q) : SpD (tx X) np none true m vs H Q (WE Wx σ) := by
  by_cases hn : ds.length = np
  · rw [if_pos hn] at h
    have q := sp_callF (m := m) (ddl := []) (dvs := []) (np := np) o r (fun _ _ => trivial) (by rw [List.append_nil]; exact hn) (by rw [List.append_nil]; exact h)
    rw [List.append_nil] at q
    exact q
  · rw [if_neg hn] at h
    exact h.elim
/-- our cell, seen by a callee alone -/
theorem Cell.lone {T : Tx} {B : Br} {W : Addr → Prop} {H : Hp} {d : D} {a : Addr} (c : Cell T (Bar B W) W H d (.ref a)) : Cell T (fun c => (Bar B W c ∧ c ≠ a) ∨ c = a) (fun c => c = a) H d (.ref a) ∧ W a := by
  have an : ∀ wa : W a, ∀ c, ((Bar B W c ∧ c ≠ a) ∨ c = a) → Bar B W c := fun wa c z => by
    rcases z with z | z
    · exact z.1
    · exact .inr (by rw [z]; exact wa)
  cases d with
  | lst l =>
    obtain ⟨b, vs, e1, e2, e3, e4⟩ := c
    cases e1
    exact ⟨⟨a, vs, rfl, rfl, e3, RelL.anti (an e2) e4⟩, e2⟩
  | obj c ns ds =>
    obtain ⟨b, dx, vs, e1, e2, e3, e4, e5⟩ := c
    cases e1
    exact ⟨⟨a, dx, vs, rfl, rfl, e3, e4, RelL.anti (an e2) e5⟩, e2⟩
  | _ => exact c.elim
theorem Cell.back {T : Tx} {B : Br} {W W1 W2 : Addr → Prop} {H : Hp} {d : D} {a : Addr} (wa : W2 a) (an : ∀ c, Bar B W2 c → (Bar B W c ∧ c ≠ a) ∨ W1 c) (c : Cell T (fun c => (Bar B W c ∧ c ≠ a) ∨ W1 c) W1 H d (.ref a)) : Cell T (Bar B W2) W2 H d (.ref a) := by
  cases d with
  | lst l =>
    obtain ⟨b, vs, e1, e2, e3, e4⟩ := c
    cases e1
    exact ⟨a, vs, rfl, wa, e3, RelL.anti an e4⟩
  | obj c ns ds =>
    obtain ⟨b, dx, vs, e1, e2, e3, e4, e5⟩ := c
    cases e1
    exact ⟨a, dx, vs, rfl, wa, e3, e4, RelL.anti an e5⟩
  | _ => exact c.elim
theorem Cell.own {T : Tx} {B W : Addr → Prop} {H : Hp} {d : D} {a : Addr} (c : Cell T B W H d (.ref a)) : W a := by
  cases d with
  | lst l =>
    obtain ⟨b, vs, e1, e2, e3, e4⟩ := c
    cases e1
    exact e2
  | obj c ns ds =>
    obtain ⟨b, dx, vs, e1, e2, e3, e4, e5⟩ := c
    cases e1
    exact e2
  | _ => exact c.elim
theorem sp_callIo {fr : Bool} {B : Br} {W : Addr → Prop} {env : En} {σ : St} {H : Hp} {Q : VK} {ds : List D} {vs : List V} {j : Nat} {d0 : D} {a : Addr} (o : Ok (tx X) ms B W env σ H) (hj : ms.contains j = true) (he : env[j]? = some (some d0)) (hs : σ[j]? = some (some (.ref a)))
    (r : RelL (tx X) (Bar B W) H ds vs) (hn : ds.length + 1 = np) (h : Po (tx X) Wx ms B W σ H (if fr = true then rkF (tx X) ms else rkD (tx X)) (ioRun j (m (d0 :: ds)) env) Q) : SpD (tx X) np (some 0) fr m (.ref a :: vs) H Q (WE Wx σ) := by
  obtain ⟨v0, e1, e2⟩ := o.mu j d0 hj he
  rw [hs] at e1
  have e3 := Option.some.inj (Option.some.inj e1)
  subst e3
  obtain ⟨c0, wa⟩ := e2.lone
  have an : ∀ c, ((Bar B W c ∧ c ≠ a) ∨ c = a) → Bar B W c := fun c z => by
    rcases z with z | z
    · exact z.1
    · exact .inr (by rw [z]; exact wa)
  have an2 : ∀ {W1 : Addr → Prop}, W1 a → ∀ c, Bar B W c → (Bar B W c ∧ c ≠ a) ∨ W1 c := fun {W1} w1 c z => by
    by_cases q : c = a
    · exact .inr (by rw [q]; exact w1)
    · exact .inl ⟨z, q⟩
  refine ⟨fun c => Bar B W c ∧ c ≠ a, fun c => c = a, d0 :: ds, by rw [← hn, r.length]; rfl, hn, fun c z => o.wf c (an c z), fun i d v f1 f2 => ?_, (fun z => by cases z), (fun i z => by cases z; omega), ?_⟩
  · cases i with
    | zero =>
      cases f1
      cases f2
      exact ⟨fun z => absurd rfl z, fun _ => ⟨c0, fun c z => by rw [z]⟩⟩
    | succ i => exact ⟨fun _ => Rel.anti an (r.nth (i := i) (by simpa using f1) (by simpa using f2)), (fun z => by cases z)⟩
  have hcell : ∀ {W1 : Addr → Prop} {H1 : Hp} {iod : Option D}, IoCell (tx X) (some 0) (.ref a :: vs) (fun c => Bar B W c ∧ c ≠ a) W1 H1 iod → ∃ dv, iod = some dv ∧ W1 a ∧ Cell (tx X) (fun c => (Bar B W c ∧ c ≠ a) ∨ W1 c) W1 H1 dv (.ref a) := fun {W1 H1 iod} z => by
    obtain ⟨x, dv, f1, f2, f3⟩ := z 0 rfl
    cases f1
    exact ⟨dv, f2, f3.own, f3⟩
  have nx : ∀ {W1 : Addr → Prop} {H1 : Hp}, Nxt (fun c => c = a) H W1 H1 → Nxt W H W H1 := fun {W1 H1} n => ⟨fun c u z nw => n.keep c u z fun e => nw (by rw [e]; exact wa), fun c z => .inl z, n.live⟩
  have ok1 : ∀ {W1 : Addr → Prop} {H1 : Hp} {dv : D}, Nxt (fun c => c = a) H W1 H1 → W1 a → Cell (tx X) (fun c => (Bar B W c ∧ c ≠ a) ∨ W1 c) W1 H1 dv (.ref a) → Ok (tx X) ms B W (env.set j (some dv)) σ H1 := fun {W1 H1 dv} n w1 c1 =>
    o.called hj he hs (fun _ z => z) (fun c z => .inl z) (fun c z => (o.wf c (.inr z)).elim fun u e => n.live c u e) (fun c u z nc => n.keep c u z nc) n.live (c1.back wa (an2 w1))
  cases q : m (d0 :: ds) with
  | stuck => rw [q] at h; exact h
  | ok d iod =>
    rw [q] at h
    intro W1 H1 v n io z
    obtain ⟨dv, rfl, w1, c1⟩ := hcell io
    cases fr with
    | false => exact h W H1 v (nx n) (ok1 n w1 c1) (Rel.anti (an2 w1) z)
    | true =>
      obtain ⟨b, us, l, rfl, rfl, z1, z2, z3, z4⟩ := z
      have hb : H b = none := (n.new b z1).elim (fun e => absurd e z2) id
      have an3 : ∀ c, Bar B (fun c => W c ∨ c = b) c → (Bar B W c ∧ c ≠ a) ∨ W1 c := fun c z => by
        rcases z with z | z | z
        · exact an2 w1 c (.inl z)
        · exact an2 w1 c (.inr z)
        · exact .inr (by rw [z]; exact z1)
      refine h (fun c => W c ∨ c = b) H1 _ ⟨fun c u e nw => n.keep c u e fun z => nw (by rw [z]; exact wa), fun c z => ?_, n.live⟩ (o.called hj he hs (fun _ z => .inl z) (fun c z => ?_) (fun c z => ?_) (fun c u z nc => n.keep c u z nc) n.live (c1.back (.inl wa) an3))
        ⟨b, us, l, rfl, rfl, .inr rfl, hb, z3, RelL.anti an3 z4, fun i e hi he' hs' => ?_⟩
      · exact z.elim .inl fun e => .inr (by rw [e]; exact hb)
      · exact z.elim .inl fun e => .inr (by rw [e]; exact hb)
      · rcases z with z | z
        · obtain ⟨u, e⟩ := o.wf c (.inr z)
          exact n.live c u e
        · exact ⟨_, by rw [z]; exact z3⟩
      · have g1 : ∃ e', env[i]? = some (some e') := by
          rcases set_get he' with ⟨rfl, rfl⟩ | ⟨n, h⟩
          · exact ⟨d0, he⟩
          · exact ⟨e, h⟩
        obtain ⟨e', g1⟩ := g1
        obtain ⟨_, u, hu⟩ := o.cellAt hi g1 hs'
        rw [hb] at hu; cases hu
  | err c ns es iod =>
    rw [q] at h
    intro W1 H1 dx ws n io z1 z2 z3 z4
    obtain ⟨dv, rfl, w1, c1⟩ := hcell io
    have h' : Po (tx X) Wx ms B W σ H (if fr = true then rkF (tx X) ms else rkD (tx X)) (.err c ns es (env.set j (some dv))) Q := h
    exact h' W H1 dx ws (nx n) (ok1 n w1 c1) z1 z2 z3 (RelL.anti (an2 w1) z4)
end

/-! ### rules of calls -/
section
variable {X : Cx} {Wx : WX} {ms : Ms} {m : List D → Rs} {np k : Nat} {f : Addr} {x y : Str} {p p' pos : Pos} {e : Expr} {es : List Expr} {fs : M (List D)}
theorem de_call (F : Fn X k f np none false m) (hr : Room k X.A) (hg : Gl X x) (hm : X.mg x = some (.ref f)) (hk : PySem.W.keepIn X.K (.ref f) = true) (tk : Takes X Wx) (ha : DA X Wx ms (e :: es) fs) (hdb : (x == ("__debug__" : Str)) = false := by decide)
    (he : starEach (e :: es) X.env = (false, eval e X.env) :: starEach es X.env := by rfl) (hpl : (backTo pos (starEach es X.env)).any (·.1) = false := by rfl) : DE X Wx ms (.Call (.Name x p) (e :: es) [] pos) (cCall np m fs) := fun B W env σ H Q o h =>
  tm_call F hr hg hm hk (E := WE Wx) (passAt tk) (ha _ _ _ _ _ _ o (h.cont (k1 := rkL (tx X)) fun ds env1 W1 H1 vs n1 o1 r1 h1 => sp_call' o1 r1 h1)) hdb he hpl
theorem df_call (F : Fn X k f np none true m) (hr : Room k X.A) (hg : Gl X x) (hm : X.mg x = some (.ref f)) (hk : PySem.W.keepIn X.K (.ref f) = true) (tk : Takes X Wx) (ha : DA X Wx ms (e :: es) fs) (hdb : (x == ("__debug__" : Str)) = false := by decide)
    (he : starEach (e :: es) X.env = (false, eval e X.env) :: starEach es X.env := by rfl) (hpl : (backTo pos (starEach es X.env)).any (·.1) = false := by rfl) : DF X Wx ms (.Call (.Name x p) (e :: es) [] pos) (cCall np m fs) := fun B W env σ H Q o h =>
  tm_call F hr hg hm hk (E := WE Wx) (passAt tk) (ha _ _ _ _ _ _ o (h.cont (k1 := rkL (tx X)) fun ds env1 W1 H1 vs n1 o1 r1 h1 => sp_callF' o1 r1 h1)) hdb he hpl
theorem de_call0 (F : Fn X k f np none false m) (hr : Room k X.A) (hg : Gl X x) (hm : X.mg x = some (.ref f)) (hk : PySem.W.keepIn X.K (.ref f) = true) (tk : Takes X Wx) (hdb : (x == ("__debug__" : Str)) = false := by decide) : DE X Wx ms (.Call (.Name x p) [] [] pos) (cCall np m aNil) := fun B W env σ H Q o h =>
  tm_call0 F hr hg hm hk (E := WE Wx) (passAt tk) (sp_call' (ds := []) (vs := []) o trivial h) hdb
theorem df_call0 (F : Fn X k f np none true m) (hr : Room k X.A) (hg : Gl X x) (hm : X.mg x = some (.ref f)) (hk : PySem.W.keepIn X.K (.ref f) = true) (tk : Takes X Wx) (hdb : (x == ("__debug__" : Str)) = false := by decide) : DF X Wx ms (.Call (.Name x p) [] [] pos) (cCall np m aNil) := fun B W env σ H Q o h =>
  tm_call0 F hr hg hm hk (E := WE Wx) (passAt tk) (sp_callF' (ds := []) (vs := []) o trivial h) hdb
/-- .. the first argument a cell of ours -/
theorem tm_callIo {fr : Bool} (j : Nat) (F : Fn X k f np (some 0) fr m) (hr : Room k X.A) (hg : Gl X x) (hm : X.mg x = some (.ref f)) (hk : PySem.W.keepIn X.K (.ref f) = true) (tk : Takes X Wx) (ha : DA X Wx ms es fs) {B : Br} {W : Addr → Prop} {env : En} {σ : St} {H : Hp} {Q : VK} (o : Ok (tx X) ms B W env σ H)
    (h : Po (tx X) Wx ms B W σ H (if fr = true then rkF (tx X) ms else rkD (tx X)) (cCallIo np j m fs env) Q) (hj : ms.contains j = true) (hN : X.N[j]? = some y) (hv : Vis X.env.scope y) (hdy : (y == ("__debug__" : Str)) = false) (hcd : (y == ("__classdict__" : Str)) = false) (hdb : (x == ("__debug__" : Str)) = false)
    (hs : starEach (.Name y p' :: es) X.env = (false, eval (.Name y p') X.env) :: starEach es X.env) (hpl : (backTo pos (starEach es X.env)).any (·.1) = false) : tm X (.Call (.Name x p) (.Name y p' :: es) [] pos) σ H Q := by
  refine tm_call F hr hg hm hk (E := WE Wx) (passAt tk) ?_ hdb hs hpl
  have key : ∀ v, σ[j]? = some (some v) → (tmA X es σ H fun vs H1 => SpD (tx X) np (some 0) fr m (v :: vs) H1 Q (WE Wx σ)) → tmA X (.Name y p' :: es) σ H fun vs H1 => SpD (tx X) np (some 0) fr m vs H1 Q (WE Wx σ) := fun v e1 q =>
    PA.tm (pa_cons (pe_var hN hv hdy hcd) pa_tm hs) ⟨v, e1, q⟩
  have hval : ∃ d, env[j]? = some (some d) := by
    unfold cCallIo at h
    cases q : env[j]? with
    | none =>
      rw [q] at h
      exact h.elim
    | some z =>
      cases z with
      | none =>
        rw [q] at h
        exact h.elim
      | some d => exact ⟨d, rfl⟩
  obtain ⟨d, hd⟩ := hval
  obtain ⟨v, e1, e2⟩ := o.mu j d hj hd
  have hv' : ∃ a, v = .ref a := by
    cases d with
    | lst l =>
      obtain ⟨b, vs, e1, _⟩ := e2
      exact ⟨b, e1⟩
    | obj c ns ds =>
      obtain ⟨b, dx, vs, e1, _⟩ := e2
      exact ⟨b, e1⟩
    | _ => exact e2.elim
  obtain ⟨a, rfl⟩ := hv'
  unfold cCallIo at h
  rw [hd] at h
  refine key _ e1 (ha _ _ _ _ _ _ o (h.cont (k1 := rkL (tx X)) fun ds env1 W1 H1 vs n1 o1 r1 h1 => ?_))
  cases q : env1[j]? with
  | none =>
    rw [q] at h1
    exact h1.elim
  | some z =>
    cases z with
    | none =>
      rw [q] at h1
      exact h1.elim
    | some d0 =>
      simp only [q] at h1
      by_cases hn : ds.length + 1 = np
      · rw [if_pos hn] at h1
        exact sp_callIo o1 hj q e1 r1 hn h1
      · rw [if_neg hn] at h1
        exact h1.elim
theorem de_callIo (j : Nat) (F : Fn X k f np (some 0) false m) (hr : Room k X.A) (hg : Gl X x) (hm : X.mg x = some (.ref f)) (hk : PySem.W.keepIn X.K (.ref f) = true) (tk : Takes X Wx) (ha : DA X Wx ms es fs) (hj : ms.contains j = true := by rfl) (hN : X.N[j]? = some y := by rfl)
    (hv : Vis X.env.scope y := by first | exact Or.inl rfl | exact Or.inr (Or.inl rfl) | exact Or.inr (Or.inr rfl)) (hdy : (y == ("__debug__" : Str)) = false := by decide) (hcd : (y == ("__classdict__" : Str)) = false := by decide) (hdb : (x == ("__debug__" : Str)) = false := by decide)
    (hs : starEach (.Name y p' :: es) X.env = (false, eval (.Name y p') X.env) :: starEach es X.env := by rfl) (hpl : (backTo pos (starEach es X.env)).any (·.1) = false := by rfl) : DE X Wx ms (.Call (.Name x p) (.Name y p' :: es) [] pos) (cCallIo np j m fs) := fun B W env σ H Q o h =>
  tm_callIo j F hr hg hm hk tk ha o h hj hN hv hdy hcd hdb hs hpl
theorem df_callIo (j : Nat) (F : Fn X k f np (some 0) true m) (hr : Room k X.A) (hg : Gl X x) (hm : X.mg x = some (.ref f)) (hk : PySem.W.keepIn X.K (.ref f) = true) (tk : Takes X Wx) (ha : DA X Wx ms es fs) (hj : ms.contains j = true := by rfl) (hN : X.N[j]? = some y := by rfl)
    (hv : Vis X.env.scope y := by first | exact Or.inl rfl | exact Or.inr (Or.inl rfl) | exact Or.inr (Or.inr rfl)) (hdy : (y == ("__debug__" : Str)) = false := by decide) (hcd : (y == ("__classdict__" : Str)) = false := by decide) (hdb : (x == ("__debug__" : Str)) = false := by decide)
    (hs : starEach (.Name y p' :: es) X.env = (false, eval (.Name y p') X.env) :: starEach es X.env := by rfl) (hpl : (backTo pos (starEach es X.env)).any (·.1) = false := by rfl) : DF X Wx ms (.Call (.Name x p) (.Name y p' :: es) [] pos) (cCallIo np j m fs) := fun B W env σ H Q o h =>
  tm_callIo j F hr hg hm hk tk ha o h hj hN hv hdy hcd hdb hs hpl
end
end DL

set_option Elab.async false
set_option linter.all false
set_option maxRecDepth 100000
set_option maxHeartbeats 4000000
namespace DL
open PySem PySem.Spec L2

/-! ### attributes -/
def getF (f : Nat) : List Nat → List D → Option D
  | n :: ns, d :: ds => if Nat.beq f n = true then some d else getF f ns ds
  | _, _ => none
def hasF (f : Nat) : List Nat → Bool
  | n :: ns => if Nat.beq f n = true then true else hasF f ns
  | [] => false
theorem nbeq {i j : Nat} (h : Nat.beq i j = true) : i = j := Nat.eq_of_beq_eq_true h
theorem nm_ne {i j : Nat} (h : ¬ Nat.beq i j = true) : (nm i == nm j) = false := beq_eq_false_iff_ne.mpr fun z => h (by rw [nm_inj z]; exact Nat.beq_refl j)
theorem getF_rel {T : Tx} {B : Addr → Prop} {H : Hp} {f : Nat} {z : D} : ∀ {ns : List Nat} {ds : List D} {vs : List V}, RelL T B H ds vs → ns.length = vs.length → getF f ns ds = some z → ∃ v, ((nms ns).zip vs).lookup (nm f) = some v ∧ Rel T B H z v
  | [], _, _, _, _, h => by unfold getF at h; cases h
  | _ :: _, [], _, _, _, h => by unfold getF at h; cases h
  | n :: ns, d :: ds, [], r, _, _ => r.elim
  | n :: ns, d :: ds, v :: vs, r, l, h => by
    have h' : (if Nat.beq f n = true then some d else getF f ns ds) = some z := h
    show ∃ w, List.lookup (nm f) ((nm n, v) :: (nms ns).zip vs) = some w ∧ _
    by_cases q : Nat.beq f n = true
    · rw [if_pos q] at h'
      have e := Option.some.inj h'
      subst e
      have e2 := nbeq q
      subst e2
      exact ⟨v, by simp only [List.lookup, beq_self_eq_true], r.1⟩
    · rw [if_neg q] at h'
      obtain ⟨w, e1, e2⟩ := getF_rel r.2 (Nat.succ.inj l) h'
      exact ⟨w, by simp only [List.lookup, nm_ne q]; exact e1, e2⟩
theorem noF {f : Nat} : ∀ {ns : List Nat} {vs : List V}, hasF f ns = false → ((nms ns).zip vs).lookup (nm f) = none
  | [], _, _ => rfl
  | n :: ns, [], _ => rfl
  | n :: ns, v :: vs, h => by
    have h' : (if Nat.beq f n = true then true else hasF f ns) = false := h
    show List.lookup (nm f) ((nm n, v) :: (nms ns).zip vs) = none
    by_cases q : Nat.beq f n = true
    · rw [if_pos q] at h'; cases h'
    · rw [if_neg q] at h'
      simp only [List.lookup, nm_ne q]
      exact noF h'
theorem putF_new {f : Nat} {v : V} : ∀ {ns : List Nat} {vs : List V}, ns.length = vs.length → hasF f ns = false → putF (nm f) v ((nms ns).zip vs) = (nms (ns ++ [f])).zip (vs ++ [v])
  | [], [], _, _ => rfl
  | [], _ :: _, l, _ => by cases l
  | _ :: _, [], l, _ => by cases l
  | n :: ns, u :: us, l, h => by
    have h' : (if Nat.beq f n = true then true else hasF f ns) = false := h
    by_cases q : Nat.beq f n = true
    · rw [if_pos q] at h'; cases h'
    · rw [if_neg q] at h'
      have e := putF_new (v := v) (Nat.succ.inj l) h'
      show (if nm n = nm f then _ else (nm n, u) :: putF (nm f) v ((nms ns).zip us)) = (nm n, u) :: ((nms (ns ++ [f])).zip (us ++ [v]))
      rw [if_neg (fun z => q (by rw [nm_inj z]; exact Nat.beq_refl f)), e]
/-- attribute f of an instance of one of the classes cs -/
def fldD (cs : List Nat) (f : Nat) (d : D) : Option D := match d with
  | .obj c ns ds => if cs.contains c = true then getF f ns ds else none
  | _ => none
def Fld (K : PySem.W.Frag) (cs : List Nat) (f : Nat) : Prop := ∀ c, cs.contains c = true → Cls K (He.ga K (nm c)) ∧ NoAttr K (He.ga K (nm c)) (nm f)
section
variable {X : Cx} {Wx : WX} {ms : Ms} {o value : Expr} {x : Str} {p p' pos pos' apos : Pos} {fa : M D}
theorem de_fld (cs : List Nat) (f : Nat) (hc : Fld X.K cs f) (ha : DK X Wx ms o fa) (hx : nm f = x := by rfl) (hb : attributeBase o x X.env (eval o X.env) = eval o X.env := by rfl) : DE X Wx ms (.Attribute o x pos) (op1 (fldD cs f) fa) := by
  subst hx
  exact fun B W env σ H Q ok h => PE.tm (pe_fld pe_tm hb) (ha _ _ _ _ _ _ ok (h.cont (k1 := rkW (tx X)) fun d env1 W1 H1 v n1 o1 r1 h1 => by
    obtain ⟨z, e1, h3⟩ := of_pos h1
    cases d with
    | obj c ns ds =>
      obtain ⟨e2, e3⟩ : cs.contains c = true ∧ getF f ns ds = some z := by
        have e1' : (if cs.contains c = true then getF f ns ds else none) = some z := e1
        by_cases q : cs.contains c = true
        · rw [if_pos q] at e1'
          exact ⟨q, e1'⟩
        · rw [if_neg q] at e1'; cases e1'
      obtain ⟨k1, k2⟩ := hc c e2
      obtain ⟨a, dx, vs, rfl, r2, r3, r4⟩ := r1
      obtain ⟨w, l1, l2⟩ := getF_rel r4 r3 e3
      exact ⟨a, _, dx, _, w, rfl, r2, k1, k2, l1, h3.done o1 l2⟩
    | _ => cases e1))
/-- self.f = value, self our own cell, the attribute new -/
def putD (cs : List Nat) (f : Nat) (d v : D) : Option D := match d with
  | .obj c ns ds => if (cs.contains c && (!hasF f ns && small1k ns.length)) = true then some (.obj c (ns ++ [f]) (ds ++ [v])) else none
  | _ => none
where small1k (n : Nat) : Bool := Nat.blt n 999
def sFld1 (i : Nat) (cs : List Nat) (f : Nat) (fv : M D) : M Fl := fun env => (fv env).bind fun v env1 => match env1[i]? with
  | some (some d) => (match putD cs f d v with
    | some d' => .ok .nx (env1.set i (some d'))
    | none => .stuck)
  | _ => .stuck
theorem ds_fld {kr : Rk (tx X) D V} (i : Nat) (cs : List Nat) (f : Nat) {y : Str} (hc : Fld X.K cs f) (hv : DE X Wx ms value fa) (hm : ms.contains i = true := by rfl) (hx : nm f = x := by rfl) (hN : X.N[i]? = some y := by rfl)
    (hvis : Vis X.env.scope y := by first | exact Or.inl rfl | exact Or.inr (Or.inl rfl) | exact Or.inr (Or.inr rfl)) (hd : (y == ("__debug__" : Str)) = false := by decide) (hcd : (y == ("__classdict__" : Str)) = false := by decide)
    (hs : swapsWith value (some (.Attribute (.Name y p) x pos')) pos.line X.env = pure false := by rfl) : DS X Wx ms kr (.Assign [.Attribute (.Name y p) x pos'] value pos) (sFld1 i cs f fa) := by
  subst hx
  exact fun B W env σ H Dn ok h => PS.tm (ps_fld (pe_var hN hvis hd hcd) pe_tm hs) (hv _ _ _ _ _ _ ok (PoS.cont (k1 := rkD (tx X)) h fun v env1 W1 H1 u n1 o1 r1 h1 => by
    cases q : env1[i]? with
    | none =>
      rw [q] at h1
      exact h1.elim
    | some z =>
      cases z with
      | none =>
        rw [q] at h1
        exact h1.elim
      | some d =>
        rw [q] at h1
        cases d with
        | obj c ns ds =>
          by_cases hq : (cs.contains c && (!hasF f ns && putD.small1k ns.length)) = true
          · obtain ⟨q1, q2⟩ := Bool.and_eq_true_iff.mp hq
            obtain ⟨q3, q4⟩ := Bool.and_eq_true_iff.mp q2
            have q5 : hasF f ns = false := by
              cases e : hasF f ns with
              | false => rfl
              | true => rw [e] at q3; cases q3
            have e1 : putD cs f (.obj c ns ds) v = some (.obj c (ns ++ [f]) (ds ++ [v])) := if_pos hq
            simp only [e1] at h1
            obtain ⟨k1, k2⟩ := hc c q1
            obtain ⟨w, g1, g2⟩ := o1.mu i _ hm q
            obtain ⟨a, dx, vs, rfl, g3, g4, g5, g6⟩ := g2
            have hl : ns.length < 999 := Nat.le_of_ble_eq_true q4
            have hz : ((nms ns).zip vs).length < 1000 := by
              rw [List.length_zip, List.length_map]
              omega
            have hput := putF_new (v := u) g5 q5
            refine ⟨_, g1, a, _, dx, _, rfl, g4, k1, k2, hz, ?_⟩
            rw [hput]
            have ex : Ext (Bar B W1) H1 (Bar B W1) (upd H1 a (.ins (He.ga X.K (nm c)) dx ((nms (ns ++ [f])).zip (vs ++ [u])))) := Ext.write g3
            refine h1 W1 _ _ (Nxt.write g3 ⟨_, g4⟩) (o1.write hm q g1 g3 ⟨_, g4⟩ ⟨a, dx, vs ++ [u], rfl, g3, upd_same, by rw [List.length_append, List.length_append, g5]; rfl, (RelL.ext ex _ g6).append ⟨Rel.ext ex _ r1, trivial⟩⟩)
          · have e1 : putD cs f (.obj c ns ds) v = none := if_neg hq
            simp only [e1] at h1
            exact h1.elim
        | _ => exact h1.elim))
end

/-! ### constants of a class -/
def conD (cs : List (Nat × D)) (f : Nat) (d : D) : Option D := match d with
  | .obj c ns _ => if hasF f ns = true then none else (cs.find? fun p => Nat.beq p.1 c).map (·.2)
  | _ => none
/-- every class of cs has f as that constant -/
def CCon (X : Cx) (cs : List (Nat × D)) (f : Nat) : Prop := ∀ p ∈ cs, Cls X.K (He.ga X.K (nm p.1)) ∧ ∃ v u, Con X.K (He.ga X.K (nm p.1)) (nm f) v u ∧ ∀ B H, Rel (tx X) B H p.2 v
section
variable {X : Cx} {Wx : WX} {ms : Ms} {o : Expr} {x : Str} {pos : Pos} {fa : M D}
theorem de_con (cs : List (Nat × D)) (f : Nat) (hc : CCon X cs f) (ha : DK X Wx ms o fa) (hx : nm f = x := by rfl) (hb : attributeBase o x X.env (eval o X.env) = eval o X.env := by rfl) : DE X Wx ms (.Attribute o x pos) (op1 (conD cs f) fa) := by
  subst hx
  exact fun B W env σ H Q ok h => PE.tm (pe_con pe_tm hb) (ha _ _ _ _ _ _ ok (h.cont (k1 := rkW (tx X)) fun d env1 W1 H1 v n1 o1 r1 h1 => by
    obtain ⟨z, e1, h3⟩ := of_pos h1
    cases d with
    | obj c ns ds =>
      have e1' : (if hasF f ns = true then none else (cs.find? fun p => Nat.beq p.1 c).map (·.2)) = some z := e1
      by_cases q : hasF f ns = true
      · rw [if_pos q] at e1'; cases e1'
      · rw [if_neg q] at e1'
        obtain ⟨p, e2, rfl⟩ := Option.map_eq_some_iff.mp e1'
        have e3 := nbeq (i := p.1) (j := c) (List.find?_some (p := fun p : Nat × D => Nat.beq p.1 c) e2)
        subst e3
        obtain ⟨k1, w, u, k2, k3⟩ := hc p (List.mem_of_find?_eq_some e2)
        obtain ⟨a, dx, vs, rfl, r2, r3, r4⟩ := r1
        exact ⟨a, _, dx, _, w, u, rfl, r2, k1, k2, noF (by cases e : hasF f ns with | false => rfl | true => exact absurd e q), h3.done o1 (k3 _ _)⟩
    | _ => cases e1))
end

/-! ### methods -/
/-- a table of methods by class -/
abbrev MT := List (Nat × (List D → Rs))
def mtGet (t : MT) (c : Nat) : Option (List D → Rs) := (t.find? fun p => Nat.beq p.1 c).map (·.2)
/-- o.m(..): o is read (fa), then the arguments, then the method of its class -/
def cMeth (np : Nat) (f : Nat) (t : MT) (fa : M D) (fs : M (List D)) : M D := fun env => (fa env).bind fun d env1 => match d with
  | .obj c ns ds => if hasF f ns = true then .stuck else (match mtGet t c with
    | some m => (fs env1).bind fun es env2 => if (d :: es).length = np then (match m (d :: es) with
      | .ok d _ => .ok d env2
      | .err c ns es _ => .err c ns es env2
      | .stuck => .stuck) else .stuck
    | none => .stuck)
  | _ => .stuck
/-- each class of the table has the method, which does as the table says -/
def MtOk (X : Cx) (k np : Nat) (f : Nat) (fr : Bool) (t : MT) : Prop := ∀ p ∈ t, Cls X.K (He.ga X.K (nm p.1)) ∧ ∃ g, Meth X.K (He.ga X.K (nm p.1)) (nm f) g ∧ Fn X k g np none fr p.2
theorem mtGet_some {X : Cx} {k np f : Nat} {fr : Bool} {t : MT} {c : Nat} {m : List D → Rs} (h : MtOk X k np f fr t) (e : mtGet t c = some m) : Cls X.K (He.ga X.K (nm c)) ∧ ∃ g, Meth X.K (He.ga X.K (nm c)) (nm f) g ∧ Fn X k g np none fr m := by
  obtain ⟨p, e2, rfl⟩ := Option.map_eq_some_iff.mp e
  have e3 := nbeq (i := p.1) (j := c) (List.find?_some (p := fun p : Nat × (List D → Rs) => Nat.beq p.1 c) e2)
  subst e3
  exact h p (List.mem_of_find?_eq_some e2)
section
variable {X : Cx} {Wx : WX} {ms : Ms} {np k : Nat} {o e : Expr} {es : List Expr} {x : Str} {p pos apos : Pos} {fa : M D} {fs : M (List D)} {pl : Sem Bool}
def tMth (X : Cx) (k : Nat) (m : Str) (Wx : WX) (ta : TE) (t : TA) : TE := fun σ H Q => ta σ H fun x H1 => ∃ a C dx fs g sp, x = .ref a ∧ H1 a = some (.ins C dx fs) ∧ fs.lookup m = none ∧ Cls X.K C ∧ Meth X.K C m g ∧ FnR X.prog X.w X.K X.mg X.base (L2.CX X.prog X.w) k g sp ∧ t σ H1 fun vs H2 => sp (x :: vs) H2 Q (WE Wx σ)
theorem pe_mth {m : Str} {ta : TE} {t : TA} (he : PE X o ta) (hr : Room k X.A) (tk : Takes X Wx) (ha : PA X (e :: es) t)
    (hst : starEach (e :: es) X.env = (false, eval e X.env) :: starEach es X.env) (hpl : (backTo pos (starEach es X.env)).any (·.1) = false)
    (ht : eval (.Call (.Attribute o m apos) (e :: es) [] pos) X.env = (do
      let ov ← eval o X.env
      standAt apos.atName
      let (f, first) ← holding [ov] (getMethod ov m pl)
      callWith pos f first (backTo pos (starEach (e :: es) X.env)) (backToKw pos (keywordEach [] X.env)))) :
    PE X (.Call (.Attribute o m apos) (e :: es) [] pos) (tMth X k m Wx ta t) := by
  refine ⟨fun pins s σ H Q I h => ?_⟩
  refine PySem.W.methodCall_KW (pl := pl) (thn (he.run pins s σ H _ I h) fun u s1 ⟨x, H1, I1, rx, a, C, dx, fs, g, sp, ex, ea, l, c, hm, F, q⟩ => ?_) ht
  subst ex
  obtain rfl : u = Value.ref a := rx
  refine getmeth_ok I1 ea c hm l ?_
  refine PySem.W.callWith_K (first := [.ref a]) (h₀ := X.base) I.ok.mod.kin hm.kp (thn (ha.run pos pins s1 σ H1 _ I1 q) fun us s2 ⟨vs, H2, I2, r, q2⟩ => ⟨I2.kIn, ?_⟩) hst hpl
  exact wpAny_call (run_fnRS (us := .ref a :: us) (vs := .ref a :: vs) (E := WE Wx) F hr (passAt tk σ) I2 (.cons rfl r) q2)
theorem pe_mth0 {m : Str} {ta : TE} (he : PE X o ta) (hr : Room k X.A) (tk : Takes X Wx)
    (ht : eval (.Call (.Attribute o m apos) [] [] pos) X.env = (do
      let ov ← eval o X.env
      standAt apos.atName
      let (f, first) ← holding [ov] (getMethod ov m pl)
      callWith pos f first (backTo pos (starEach [] X.env)) (backToKw pos (keywordEach [] X.env)))) :
    PE X (.Call (.Attribute o m apos) [] [] pos) (tMth X k m Wx ta tNil) := by
  refine ⟨fun pins s σ H Q I h => ?_⟩
  refine PySem.W.methodCall_KW (pl := pl) (thn (he.run pins s σ H _ I h) fun u s1 ⟨x, H1, I1, rx, a, C, dx, fs, g, sp, ex, ea, l, c, hm, F, q⟩ => ?_) ht
  subst ex
  obtain rfl : u = Value.ref a := rx
  refine getmeth_ok I1 ea c hm l ?_
  exact PySem.W.callWith_K0 (first := [.ref a]) I1.kIn hm.kp (wpAny_call (run_fnRS (us := [.ref a]) (vs := [.ref a]) (E := WE Wx) F hr (passAt tk σ) I1 (.cons rfl .nil) q))
/-- the receiver -/
theorem tm_mth_ {fr : Bool} {t : MT} {f : Nat} {m : Str} {t' : TA} (hx : nm f = m) (hT : MtOk X k np f fr t) (ha : DE X Wx ms o fa) (hb : ∀ B W env σ H Q, Ok (tx X) ms B W env σ H → Po (tx X) Wx ms B W σ H (rkL (tx X)) (fs env) Q → t' σ H Q) {B : Br} {W : Addr → Prop} {env : En} {σ : St} {H : Hp} {Q : VK} (ok : Ok (tx X) ms B W env σ H)
    (h : Po (tx X) Wx ms B W σ H (if fr = true then rkF (tx X) ms else rkD (tx X)) (cMeth np f t fa fs env) Q) : tMth X k m Wx (tm X o) t' σ H Q := by
  subst hx
  refine ha _ _ _ _ _ _ ok (h.cont (k1 := rkD (tx X)) fun d env1 W1 H1 v n1 o1 r1 h1 => ?_)
  cases d with
  | obj c ns ds =>
    by_cases q : hasF f ns = true
    · simp only [q, if_true] at h1
      exact h1.elim
    · have q' : hasF f ns = false := by cases e : hasF f ns with | false => rfl | true => exact absurd e q
      simp only [q', Bool.false_eq_true, if_false] at h1
      cases g : mtGet t c with
      | none =>
        rw [g] at h1
        exact h1.elim
      | some m =>
        simp only [g] at h1
        obtain ⟨k1, gf, k2, k3⟩ := mtGet_some hT g
        have r1' : Rel (tx X) (Bar B W1) H1 (.obj c ns ds) v := r1
        obtain ⟨a, dx, vs, rfl, r2, r3, r4, r5⟩ := r1
        refine ⟨a, _, dx, _, gf, _, rfl, r2, noF q', k1, k2, k3, hb _ _ _ _ _ _ o1 (h1.cont (k1 := rkL (tx X)) fun es env2 W2 H2 ws n2 o2 s1 h2 => ?_)⟩
        have rr : RelL (tx X) (Bar B W2) H2 (.obj c ns ds :: es) (.ref a :: ws) := ⟨Rel.ext n2.ext _ r1', s1⟩
        cases fr with
        | false => exact sp_call' o2 rr h2
        | true => exact sp_callF' o2 rr h2
  | _ => exact h1.elim
theorem tm_mth {fr : Bool} {t : MT} {f : Nat} {m : Str} {es : List Expr} (hx : nm f = m) (hT : MtOk X k np f fr t) (ha : DE X Wx ms o fa) (hb : DA X Wx ms es fs) {B : Br} {W : Addr → Prop} {env : En} {σ : St} {H : Hp} {Q : VK} (ok : Ok (tx X) ms B W env σ H)
    (h : Po (tx X) Wx ms B W σ H (if fr = true then rkF (tx X) ms else rkD (tx X)) (cMeth np f t fa fs env) Q) : tMth X k m Wx (tm X o) (tmA X es) σ H Q := tm_mth_ hx hT ha hb ok h
theorem de_mth {t : MT} (f : Nat) {m : Str} (hT : MtOk X k np f false t) (hr : Room k X.A) (tk : Takes X Wx) (ha : DE X Wx ms o fa) (hb : DA X Wx ms (e :: es) fs) (hx : nm f = m := by rfl)
    (hst : starEach (e :: es) X.env = (false, eval e X.env) :: starEach es X.env := by rfl) (hpl : (backTo pos (starEach es X.env)).any (·.1) = false := by rfl)
    (ht : eval (.Call (.Attribute o m apos) (e :: es) [] pos) X.env = (do
      let ov ← eval o X.env
      standAt apos.atName
      let (f, first) ← holding [ov] (getMethod ov m pl)
      callWith pos f first (backTo pos (starEach (e :: es) X.env)) (backToKw pos (keywordEach [] X.env))) := by rfl) : DE X Wx ms (.Call (.Attribute o m apos) (e :: es) [] pos) (cMeth np f t fa fs) := fun B W env σ H Q ok h =>
  PE.tm (pe_mth (pl := pl) pe_tm hr tk pa_tm hst hpl ht) (tm_mth hx hT ha hb ok h)
theorem df_mth {t : MT} (f : Nat) {m : Str} (hT : MtOk X k np f true t) (hr : Room k X.A) (tk : Takes X Wx) (ha : DE X Wx ms o fa) (hb : DA X Wx ms (e :: es) fs) (hx : nm f = m := by rfl)
    (hst : starEach (e :: es) X.env = (false, eval e X.env) :: starEach es X.env := by rfl) (hpl : (backTo pos (starEach es X.env)).any (·.1) = false := by rfl)
    (ht : eval (.Call (.Attribute o m apos) (e :: es) [] pos) X.env = (do
      let ov ← eval o X.env
      standAt apos.atName
      let (f, first) ← holding [ov] (getMethod ov m pl)
      callWith pos f first (backTo pos (starEach (e :: es) X.env)) (backToKw pos (keywordEach [] X.env))) := by rfl) : DF X Wx ms (.Call (.Attribute o m apos) (e :: es) [] pos) (cMeth np f t fa fs) := fun B W env σ H Q ok h =>
  PE.tm (pe_mth (pl := pl) pe_tm hr tk pa_tm hst hpl ht) (tm_mth hx hT ha hb ok h)
theorem de_mth0 {t : MT} (f : Nat) {m : Str} (hT : MtOk X k np f false t) (hr : Room k X.A) (tk : Takes X Wx) (ha : DE X Wx ms o fa) (hx : nm f = m := by rfl)
    (ht : eval (.Call (.Attribute o m apos) [] [] pos) X.env = (do
      let ov ← eval o X.env
      standAt apos.atName
      let (f, first) ← holding [ov] (getMethod ov m pl)
      callWith pos f first (backTo pos (starEach [] X.env)) (backToKw pos (keywordEach [] X.env))) := by rfl) : DE X Wx ms (.Call (.Attribute o m apos) [] [] pos) (cMeth np f t fa aNil) := fun B W env σ H Q ok h =>
  PE.tm (pe_mth0 (pl := pl) pe_tm hr tk ht) (tm_mth_ (fs := aNil) hx hT ha (t' := tNil) (fun B W env σ H Q ok h => h.done (v := []) ok trivial) ok h)
theorem df_mth0 {t : MT} (f : Nat) {m : Str} (hT : MtOk X k np f true t) (hr : Room k X.A) (tk : Takes X Wx) (ha : DE X Wx ms o fa) (hx : nm f = m := by rfl)
    (ht : eval (.Call (.Attribute o m apos) [] [] pos) X.env = (do
      let ov ← eval o X.env
      standAt apos.atName
      let (f, first) ← holding [ov] (getMethod ov m pl)
      callWith pos f first (backTo pos (starEach [] X.env)) (backToKw pos (keywordEach [] X.env))) := by rfl) : DF X Wx ms (.Call (.Attribute o m apos) [] [] pos) (cMeth np f t fa aNil) := fun B W env σ H Q ok h =>
  PE.tm (pe_mth0 (pl := pl) pe_tm hr tk ht) (tm_mth_ (fs := aNil) hx hT ha (t' := tNil) (fun B W env σ H Q ok h => h.done (v := []) ok trivial) ok h)
end

/-! ### new instances -/
def cMake (c : Nat) (np : Nat) (m : List D → Rs) (fs : M (List D)) : M D := fun env => (fs env).bind fun ds env1 => if ds.length + 1 = np then (match m (.obj c [] [] :: ds) with
  | .ok .non (some io) => .ok io env1
  | .err c ns es _ => .err c ns es env1
  | _ => .stuck) else .stuck
section
variable {X : Cx} {Wx : WX} {ms : Ms} {m : List D → Rs} {np k : Nat} {f C : Addr} {x : Str} {p pos : Pos} {e : Expr} {es : List Expr} {fs : M (List D)} {sp : Sp}
theorem run_makeRS {pins : List (Addr × Obj)} {σ : L2.St} {H : Hp} {s : Shared} {Q : VK} {us : List Value} {vs : List V} (M : Mk X.K C f) (F : FnR X.prog X.w X.K X.mg X.base (L2.CX X.prog X.w) k f sp) (hr : Room (k + 1) X.A) (tk : Takes X Wx) (I : Inv X pins σ H s) (r : Vals vs us)
    (h : ∀ x dx, H x = Option.none → H dx = Option.none → dx ≠ x → sp (V.ref x :: vs) (upd (upd H dx (.own x)) x (.ins C dx [])) (fun v H2 => v = .non ∧ Q (.ref x) H2) (WE Wx σ)) :
    wpAny (model X.prog X.w) X.A (call (.ref C) us) (EP X pins σ Q) X.xe s := by
  have hq := h (s.heap.objs.size + 1) s.heap.objs.size (I.hok.fresh (Nat.le_succ _)) (I.hok.fresh (Nat.le_refl _)) (Nat.ne_of_lt (Nat.lt_succ_self _))
  have I2 := Inv.made (C := C) I
  have r2 : Vals (V.ref (s.heap.objs.size + 1) :: vs) (Value.ref (s.heap.objs.size + 1) :: us) := .cons rfl r
  refine wpAny_call (make_map (f := f) I.kIn M.makes M.init (beq_iff_eq.mp M.fn) (codeAny_mono (F _ X.stack _ _ (Value.ref (s.heap.objs.size + 1) :: us) _ _ _ (hr.make C us []) (I2.env0.make C us []) r2 hq) fun r s' hq' => ?_))
  cases r with
  | error e => exact passAt tk σ pins _ _ e s' I2 hq'
  | ok fl =>
    cases fl with
    | ret u =>
      obtain ⟨v, H', I3, rv, ev, q3⟩ := I2.after hq'
      subst ev
      exact ⟨rv, ⟨V.ref (s.heap.objs.size + 1), H', I3, rfl, q3⟩⟩
    | next => exact False.elim hq'
    | brk => exact False.elim hq'
    | cont => exact False.elim hq'
/-- the promise at a new instance -/
theorem sp_make {c : Nat} {B : Br} {W : Addr → Prop} {env : En} {σ : St} {H : Hp} {Q : VK} {ds : List D} {vs : List V} (o : Ok (tx X) ms B W env σ H) (r : RelL (tx X) (Bar B W) H ds vs)
    (h : Po (tx X) Wx ms B W σ H (rkD (tx X)) (if ds.length + 1 = np then (match m (.obj c [] [] :: ds) with | .ok .non (some io) => .ok io env | .err c ns es _ => .err c ns es env | _ => .stuck) else .stuck) Q) :
    ∀ x dx, H x = none → H dx = none → dx ≠ x → SpD (tx X) np (some 0) false m (V.ref x :: vs) (upd (upd H dx (.own x)) x (.ins (He.ga X.K (nm c)) dx [])) (fun v H2 => v = .non ∧ Q (.ref x) H2) (WE Wx σ) := by
  intro x dx hx hd hne
  by_cases hn : ds.length + 1 = np
  · rw [if_pos hn] at h
    have sm0 : ∀ a u, H a = some u → (upd (upd H dx (.own x)) x (.ins (He.ga X.K (nm c)) dx [])) a = some u := fun a u z => by
      rw [upd_ne (ne_of_none z hx), upd_ne (ne_of_none z hd)]
      exact z
    have nb : ¬ Bar B W x := fun b => by
      obtain ⟨u, e⟩ := o.wf x b
      rw [hx] at e; cases e
    have ex : Ext (Bar B W) H (fun a => Bar B W a ∨ a = x) (upd (upd H dx (.own x)) x (.ins (He.ga X.K (nm c)) dx [])) := ⟨fun a u z _ => sm0 a u z, fun a z => z.elim .inl fun z => .inr (by rw [z]; exact hx)⟩
    refine ⟨Bar B W, fun a => a = x, .obj c [] [] :: ds, by rw [← hn, r.length]; rfl, hn, fun a z => ?_, fun i d v e1 e2 => ?_, (fun z => by cases z), (fun i z => by cases z; omega), ?_⟩
    · rcases z with z | z
      · obtain ⟨u, e⟩ := o.wf a z
        exact ⟨u, sm0 a u e⟩
      · exact ⟨_, by rw [z]; exact upd_same⟩
    · cases i with
      | zero =>
        cases e1
        cases e2
        exact ⟨fun z => absurd rfl z, fun _ => ⟨⟨x, dx, [], rfl, rfl, upd_same, rfl, trivial⟩, fun a z => by rw [z]⟩⟩
      | succ i =>
        have e3 : ds[i]? = some d := by simpa using e1
        have e4 : vs[i]? = some v := by simpa using e2
        exact ⟨fun _ => Rel.ext ex d (r.nth e3 e4), (fun z => by cases z)⟩
    have sm : ∀ {W1 : Addr → Prop} {H1 : Hp}, Nxt (fun a => a = x) (upd (upd H dx (.own x)) x (.ins (He.ga X.K (nm c)) dx [])) W1 H1 → Same H H1 := fun {W1 H1} n a u z => n.keep a u (sm0 a u z) (ne_of_none z hx)
    cases q : m (.obj c [] [] :: ds) with
    | stuck => rw [q] at h; exact h
    | ok d iod =>
      rw [q] at h
      cases d with
      | non =>
        cases iod with
        | none => exact h.elim
        | some io =>
          intro W1 H1 v n z1 z2
          refine ⟨z2, ?_⟩
          obtain ⟨y, dv, f1, f2, f3⟩ := z1 0 rfl
          cases f1
          cases f2
          refine h W H1 _ (Nxt.same (sm n)) (o.same (sm n)) ?_
          cases io with
          | lst l =>
            obtain ⟨b, us, g1, g2, g3, g4⟩ := f3
            cases g1
            exact ⟨x, us, rfl, g3, nb, RelL.anti (fun _ z => .inl z) g4⟩
          | obj c' ns' ds' =>
            obtain ⟨b, dx', us, g1, g2, g3, g4, g5⟩ := f3
            cases g1
            exact ⟨x, dx', us, rfl, g3, nb, g4, RelL.anti (fun _ z => .inl z) g5⟩
          | _ => exact f3.elim
      | _ => exact h.elim
    | err c' ns es iod =>
      rw [q] at h
      intro W1 H1 dx' ws n _ z1 z2 z3 z4
      have z1' : H dx' = none := by
        cases e : H dx' with
        | none => rfl
        | some u =>
          rw [sm0 _ _ e] at z1
          cases z1
      exact h W H1 dx' ws (Nxt.same (sm n)) (o.same (sm n)) z1' z2 z3 (RelL.anti (fun _ b => .inl b) z4)
  · rw [if_neg hn] at h
    exact h.elim
/-- the class has this constructor -/
structure MkOk (X : Cx) (k np c : Nat) (m : List D → Rs) : Prop where
  ex : ∃ f, Mk X.K (He.ga X.K (nm c)) f ∧ Fn X k f np (some 0) false m
theorem de_make (c : Nat) (M : MkOk X k np c m) (hr : Room (k + 1) X.A) (hg : Gl X x) (hm : X.mg x = some (.ref (He.ga X.K x))) (tk : Takes X Wx) (ha : DA X Wx ms (e :: es) fs) (hx : nm c = x := by rfl) (hdb : (x == ("__debug__" : Str)) = false := by decide)
    (he : starEach (e :: es) X.env = (false, eval e X.env) :: starEach es X.env := by rfl) (hpl : (backTo pos (starEach es X.env)).any (·.1) = false := by rfl) : DE X Wx ms (.Call (.Name x p) (e :: es) [] pos) (cMake c np m fs) := by
  subst hx
  obtain ⟨f, hM, F⟩ := M.ex
  exact fun B W env σ H Q o h => fun pins s I => by
    refine wpAny_Call_Name_kw (ld_glob I hg hm ?_ hdb)
    refine PySem.W.callWith_K (h₀ := X.base) I.ok.mod.kin hM.kp (thn (ha _ _ _ _ _ (fun vs H1 => ∀ x dx, H1 x = Option.none → H1 dx = Option.none → dx ≠ x → SpD (tx X) np (some 0) false m (V.ref x :: vs) (upd (upd H1 dx (.own x)) x (.ins (He.ga X.K (nm c)) dx [])) (fun v H2 => v = .non ∧ Q (.ref x) H2) (WE Wx σ)) o
      (h.cont (k1 := rkL (tx X)) fun ds env1 W1 H1 vs n1 o1 r1 h1 => sp_make o1 r1 h1) pos pins s I) fun us s1 ⟨vs, H1, I1, r, q⟩ => ⟨I1.kIn, ?_⟩) he hpl
    exact run_makeRS hM F hr tk I1 r q
/-- a table of constructors; the class in a local name -/
def cMakeL (i : Nat) (np : Nat) (t : List (Nat × (List D → Rs))) (fs : M (List D)) : M D := fun env => match env[i]? with
  | some (some (.cls c)) => (match mtGet t c with
    | some m => cMake c np m fs env
    | none => .stuck)
  | _ => .stuck
theorem de_makeL {t : List (Nat × (List D → Rs))} (i : Nat) (hT : ∀ p ∈ t, MkOk X k np p.1 p.2) (hr : Room (k + 1) X.A) (tk : Takes X Wx) (ha : DA X Wx ms (e :: es) fs) (hmu : ms.contains i = false := by rfl) (hN : X.N[i]? = some x := by rfl)
    (hv : Vis X.env.scope x := by first | exact Or.inl rfl | exact Or.inr (Or.inl rfl) | exact Or.inr (Or.inr rfl)) (hdb : (x == ("__debug__" : Str)) = false := by decide) (hcd : (x == ("__classdict__" : Str)) = false := by decide)
    (he : starEach (e :: es) X.env = (false, eval e X.env) :: starEach es X.env := by rfl) (hpl : (backTo pos (starEach es X.env)).any (·.1) = false := by rfl) : DE X Wx ms (.Call (.Name x p) (e :: es) [] pos) (cMakeL i np t fs) := fun B W env σ H Q o h => by
  unfold cMakeL at h
  cases q : env[i]? with
  | none =>
    rw [q] at h
    exact h.elim
  | some z =>
    cases z with
    | none =>
      rw [q] at h
      exact h.elim
    | some d =>
      rw [q] at h
      cases d with
      | cls c =>
        cases g : mtGet t c with
        | none =>
          simp only [g] at h
          exact h.elim
        | some m =>
          simp only [g] at h
          obtain ⟨pr, e2, rfl⟩ := Option.map_eq_some_iff.mp g
          have e3 := nbeq (i := pr.1) (j := c) (List.find?_some (p := fun p : Nat × (List D → Rs) => Nat.beq p.1 c) e2)
          subst e3
          obtain ⟨f, hM, F⟩ := (hT pr (List.mem_of_find?_eq_some e2)).ex
          obtain ⟨v, s1, s2⟩ := o.sl i _ hmu q
          obtain rfl : v = V.ref (He.ga X.K (nm pr.1)) := s2
          intro pins s I
          refine wpAny_Call_Name_kw (thn ((pe_var (pos := p) hN hv hdb hcd).run pins s σ H (fun v H1 => v = .ref (He.ga X.K (nm pr.1)) ∧ H1 = H) I ⟨_, s1, rfl, rfl⟩) fun u s1 ⟨v, H1, I1, r1, q1⟩ => ?_)
          obtain ⟨rfl, rfl⟩ := q1
          cases r1
          refine PySem.W.callWith_K (h₀ := X.base) I.ok.mod.kin hM.kp (thn (ha _ _ _ _ _ (fun vs H1 => ∀ x dx, H1 x = Option.none → H1 dx = Option.none → dx ≠ x → SpD (tx X) np (some 0) false pr.2 (V.ref x :: vs) (upd (upd H1 dx (.own x)) x (.ins (He.ga X.K (nm pr.1)) dx [])) (fun v H2 => v = .non ∧ Q (.ref x) H2) (WE Wx σ)) o
            (Po.cont (k1 := rkL (tx X)) h fun ds env1 W1 H1 vs n1 o1 r1 h1 => sp_make o1 r1 h1) pos pins _ I1) fun us s1 ⟨vs, H1, I1, r, q⟩ => ⟨I1.kIn, ?_⟩) he hpl
          exact run_makeRS hM F hr tk I1 r q
      | _ => exact h.elim
end
end DL

set_option Elab.async false
set_option linter.all false
set_option maxRecDepth 100000
set_option maxHeartbeats 4000000
/-! own exceptions over Exception whose __init__ stores its parameters -/
namespace DL
open PySem PySem.Spec L2
open PySem.W PySem.Calls PyProof.Rows PySem.HandSPX Builtin Builtin.ObjectAttr

abbrev xTail : List Value := [.type "Exception", .type "BaseException", .type "object"]
def overX : List Value → Bool
  | .ref _ :: more => overX more
  | other => other == xTail
theorem overX_or (l : List Value) (h : overX l = true) : (∃ c more, l = .ref c :: more ∧ overX more = true) ∨ l = xTail := by
  cases l with
  | nil => exact .inr (beq_iff_eq.mp h)
  | cons v more =>
    cases v with
    | ref c => exact .inl ⟨c, more, rfl, h⟩
    | _ => exact .inr (beq_iff_eq.mp h)
theorem overX_pass (me : Value) (l : List Value) (h : overX l = true) : refuseLoop me "__setattr__" l = pure () := by
  induction l with
  | nil => exact absurd h (by decide)
  | cons v more ih =>
    rcases overX_or _ h with ⟨c, m2, e, h2⟩ | e
    · obtain ⟨e1, e2⟩ := List.cons.inj e
      rw [e1, e2, refuseLoop_ref]
      exact e2 ▸ ih (e2 ▸ h2)
    · rw [e]
      exact F.store_Exception.passes me
theorem overX_has (n : String) (l : List Value) (h : overX l = true) : l.contains (.type n) = xTail.contains (.type n) := by
  induction l with
  | nil => exact absurd h (by decide)
  | cons v more ih =>
    rcases overX_or _ h with ⟨c, m2, e, h2⟩ | e
    · obtain ⟨e1, e2⟩ := List.cons.inj e
      rw [List.contains_cons, ih (e2 ▸ h2), e1]
      rfl
    · rw [e]
theorem overX_some {l : List Value} (h : overX l = true) : l.isEmpty = false := by
  cases l with
  | nil => exact absurd h (by decide)
  | cons _ _ => rfl

section
variable {prog : Program} {w : World} {A : Around} {E : Value → Shared → Prop} {R : Result → Shared → Prop} {hp : Heap} {g : Array GenState} {dr : Drawn} {t : Nat} {os : OsState}
/-- a name goes into an exception's own dict -/
theorem putIn {M : Model} {dx : Addr} {name : Str} {tk : Tok} {v : Value} {m0 : Str → Option Value} {names : List Str} {Q : Fin → Shared → Prop} (hn : hp.Ns1 dx m0) (hw : Within m0 names) (hz : names.length ≤ 1000)
    (hq : ∀ h' tk', h'.Ns1 dx (fun y => if y = name then some v else m0 y) → Heap.SameBut dx hp h' → Q (.done (.ret .none)) ⟨h', g, dr, tk', os⟩) : wpAny M A (storeInDict dx (.str name tk) name v) Q E ⟨hp, g, dr, t, os⟩ := by
  unfold storeInDict newKeyGuard
  refine wpAny_bind (wpAny_pure (wpAny_bind (wpAny_nsSet1 hn fun h2 n2 sb => ?_)))
  have room : (name :: names).length ≤ sizeLine := by
    rw [List.length_cons, sizeLine_eq]
    omega
  obtain ⟨od, es, ep, g1, g2, g3⟩ := n2.count (Within.cons name v hw)
  refine wpAny_bind (wpAny_lookBehind g1 ?_ ?_)
  · rw [g2]
    exact pastItsLine_dict (Nat.le_trans g3 (Nat.le_succ_of_le room))
  · wp_walk
    exact hq h2 _ n2 sb
/-- the first attribute: the dict is made -/
theorem setFirst {K : W.Frag} {name : Str} {tk : Tok} {v : Value} {x C : Addr} {fv : Array Value} {cd : ClassData} (X : K.In hp) (hx : hp.get? x = some { cls := .ref C, data := .fields fv }) (hcd : W.clsIn K C = some cd) (hm : overX cd.mro = true) (hh : cd.hasDict = true)
    (ha : W.findIn K (.ref C) name = some none)
    (hq : ∀ h' tk' dx, (∀ b o, b ≠ x → hp.get? b = some o → h'.get? b = some o) → hp.objs.size ≤ dx → dx ≠ x → h'.get? x = some { cls := .ref C, dict := some dx, data := .fields fv } → h'.Ns1 dx (fun y => if y = name then some v else none) → R (.ok (.ret .none)) ⟨h', g, dr, tk', os⟩) :
    codeAny (model prog w) A (.call (.builtin "object.__setattr__") ⟨[.ref x, .str name tk, v], []⟩) R ⟨hp, g, dr, t, os⟩ := by
  have inst : W.InstAt hp x { cls := .ref C, data := .fields fv } C none := ⟨hx, rfl, rfl, trivial⟩
  have store := F.store_object
  have nonempty := overX_some hm
  have obj : cd.mro.contains (.type "object") = true := by
    rw [overX_has "object" _ hm]
    decide +kernel
  have apart : x ≠ hp.objs.size := Nat.ne_of_lt (Heap.lt_size hx)
  have isObj : W.Looks (model prog w) hp (isInstance (.ref x) (.type "object")) true := by
    refine inst.type.andThen (W.looks_mroIn X ?_)
    unfold W.mroIn
    rw [hcd, Option.bind_some, if_neg (by rw [nonempty]; decide), obj]
  refine codeAny_call_builtin store.slot.plain store.entry ?_
  refine @W.check_slot (model prog w) _ _ ⟨hp, g, dr, t, os⟩ "object.__setattr__" "object" "__setattr__" (.ref x) [.str name tk, v] [] _ store.kind store.split isObj (store.args (.ref x) (.str name tk) v) ?_
  have seeMro : W.Looks (model prog w) hp (mroOf (.ref C)) cd.mro := (W.looks_clsIn X hcd).andThen .now
  have seeTaker : W.Looks (model prog w) hp (storeTaker? none) none := .now
  have seeCls : W.Looks (model prog w) hp (classData C) cd := W.looks_clsIn X hcd
  rw [W.osa_eq, refuse_eq]
  refine wpAny_bind (wpAny_bind (inst.type.at (wpAny_bind (seeMro.at ?_))))
  rw [overX_pass _ _ hm]
  refine wpAny_pure (wpAny_bind (inst.type.at (wpAny_bind ((W.looks_findIn X ha).at (wpAny_bind (seeTaker.at ?_))))))
  show wpAny _ _ (storeInOwnDict (.ref x) (.ref C) (.str name tk) name v false) _ _ _
  obtain ⟨c1, c2, c3, c4, c5, c6, c7, c8, c9, c10, c11⟩ := cd
  dsimp only at hh
  subst hh
  unfold storeInOwnDict ownDictForStores
  repeat (first | with_reducible refine putIn (m0 := fun _ => none) (names := []) ?_ Within.nil (Nat.zero_le _) ?_ | with_reducible refine wpAny_loadPart_at hx ?_ | with_reducible refine seeCls.at ?_ | wp_step)
  · exact Heap.Ns1.of_empty ⟨_, #[], _, (Heap.get?_update_ne _ _ _ _ apart.symm).trans
      (Heap.get?_push_at rfl rfl), rfl, fun e he => absurd he (by simp), fun _ => rfl⟩
  · intro h2 tk2 n2 sb
    have there : (hp.push { cls := .type "dict", data := .dict #[] }).get? x = some { cls := .ref C, data := .fields fv } := Heap.get?_push_of_some _ hx
    refine hq h2 tk2 hp.objs.size (fun b o hb ho => ?_) (Nat.le_refl _) apart.symm ?_ n2
    · have k1 := sb.2 b (Nat.ne_of_lt (Heap.lt_size ho))
      exact k1.trans ((Heap.get?_update_ne _ _ _ _ hb).trans (Heap.get?_push_of_some _ ho))
    · exact (sb.2 x apart).trans (Heap.get?_update_self _ there rfl)
/-- a further attribute -/
theorem setMore {K : W.Frag} {name : Str} {tk : Tok} {v : Value} {x C dx : Addr} {fv : Array Value} {cd : ClassData} {m0 : Str → Option Value} {names : List Str} (X : K.In hp) (hx : hp.get? x = some { cls := .ref C, dict := some dx, data := .fields fv }) (hns : hp.Ns1 dx m0) (hw : Within m0 names)
    (hz : names.length ≤ 1000) (hcd : W.clsIn K C = some cd) (hm : overX cd.mro = true) (hh : cd.hasDict = true) (ha : W.findIn K (.ref C) name = some none)
    (hq : ∀ h' tk', (∀ b o, b ≠ dx → hp.get? b = some o → h'.get? b = some o) → h'.Ns1 dx (fun y => if y = name then some v else m0 y) → R (.ok (.ret .none)) ⟨h', g, dr, tk', os⟩) :
    codeAny (model prog w) A (.call (.builtin "object.__setattr__") ⟨[.ref x, .str name tk, v], []⟩) R ⟨hp, g, dr, t, os⟩ := by
  obtain ⟨od, es, ep, g1, g2, _⟩ := hns.count hw
  have inst : W.InstAt hp x { cls := .ref C, dict := some dx, data := .fields fv } C (some od) := ⟨hx, rfl, rfl, g1⟩
  have store := F.store_object
  have nonempty := overX_some hm
  have obj : cd.mro.contains (.type "object") = true := by
    rw [overX_has "object" _ hm]
    decide +kernel
  have isObj : W.Looks (model prog w) hp (isInstance (.ref x) (.type "object")) true := by
    refine inst.type.andThen (W.looks_mroIn X ?_)
    unfold W.mroIn
    rw [hcd, Option.bind_some, if_neg (by rw [nonempty]; decide), obj]
  refine codeAny_call_builtin store.slot.plain store.entry ?_
  refine @W.check_slot (model prog w) _ _ ⟨hp, g, dr, t, os⟩ "object.__setattr__" "object" "__setattr__" (.ref x) [.str name tk, v] [] _ store.kind store.split isObj (store.args (.ref x) (.str name tk) v) ?_
  have seeMro : W.Looks (model prog w) hp (mroOf (.ref C)) cd.mro := (W.looks_clsIn X hcd).andThen .now
  have seeTaker : W.Looks (model prog w) hp (storeTaker? none) none := .now
  have seeCls : W.Looks (model prog w) hp (classData C) cd := W.looks_clsIn X hcd
  rw [W.osa_eq, refuse_eq]
  refine wpAny_bind (wpAny_bind (inst.type.at (wpAny_bind (seeMro.at ?_))))
  rw [overX_pass _ _ hm]
  refine wpAny_pure (wpAny_bind (inst.type.at (wpAny_bind ((W.looks_findIn X ha).at (wpAny_bind (seeTaker.at ?_))))))
  show wpAny _ _ (storeInOwnDict (.ref x) (.ref C) (.str name tk) name v false) _ _ _
  obtain ⟨c1, c2, c3, c4, c5, c6, c7, c8, c9, c10, c11⟩ := cd
  dsimp only at hh
  subst hh
  unfold storeInOwnDict ownDictForStores
  repeat (first | with_reducible refine putIn hns hw hz ?_ | with_reducible refine wpAny_loadPart_at hx ?_ | with_reducible refine seeCls.at ?_ | wp_step)
  intro h2 tk2 n2 sb
  exact hq h2 tk2 (fun b o hb ho => (sb.2 b hb).trans ho) n2
end

/-! ### the text of such a class -/
/-- the statements self.f = f, one behind another -/
def Puts : List Str → List Stmt → Prop
  | [], b => b = []
  | f :: fs, b => ∃ (q1 q2 q3 q4 : Pos) (r : List Stmt), b = .Assign [.Attribute (.Name "self" q1) f q2] (.Name f q3) q4 :: r ∧ Puts fs r
/-- names of the parameters are found -/
structure Pars (qual : Str) (scope : Scope) (fs : List Str) : Prop where
  ld : ∀ (L a : Addr) (cd x : Value) (vs : List Value), vs.length = fs.length → ∀ p ∈ (("self" : Str), x) :: fs.zip vs, (bindL (envOfC qual scope L a cd).kindOf ((("self" : Str), x) :: fs.zip vs) fun _ => none) p.1 = some p.2
  kd : ∀ (L a : Addr) (cd : Value) (f : Str), f ∈ ("self" : Str) :: fs → (envOfC qual scope L a cd).kindOf f = some .local
  all : ∀ (x : Value) (vs : List Value), vs.length = fs.length → (((("self" : Str), x) :: fs.zip vs).all fun y => scope.names.lookup y.1 == some .local || scope.names.lookup y.1 == some .cell) = true
  co : scope.isCoroutine = false
  gen : scope.isGenerator = false
  fn : scope.kind = .function
  nd : fs.Nodup
  dbg : ∀ f ∈ ("self" : Str) :: fs, (f == ("__debug__" : Str)) = false
  few : fs.length ≤ 900
structure ExT (K : Frag) (C fI : Addr) (fs : List Str) : Prop where
  cls : ∃ nm q N bs bm sn sub ab col dd k0 k1 k2 k3 k5, K.lookup C = some (excClassObj nm q C N bs bm true sn sub ab col dd k0 k1 k2 k3 k5 "Exception.__new__") ∧ overX bm = true
  sa : findIn K (.ref C) "__setattr__" = some (some (.builtin "object.__setattr__"))
  noN : ∀ f ∈ fs, findIn K (.ref C) f = some none
  iC : findIn K (.ref C) "__init__" = some (some (.ref fI))
  tC : typeIn K (.ref fI) = some (.type "function")
  kC : keepIn K (.ref C) = true
  exC : subIn K (.ref C) (.type "BaseException") = some true
  tyC : typeIn K (.ref C) = some (.type "type")
  fn : ∃ (x qual : Str) (params : Arguments) (body : List Stmt) (scope : Scope) (fd : FuncData), FunD K x qual params body scope [] [] fI fd ∧ Puts fs body ∧ Pars qual scope fs ∧ ∀ (doc pm : Value) (an : Option Addr) (cdv ct kV : Value) (u : Value) (vs : List Value), vs.length = fs.length →
    bindArgs (fnOf x qual params body scope .none kV doc pm an cdv ct) ⟨u :: vs, []⟩ = pure ((("self" : Str), u) :: fs.zip vs)
/-- the exception at x while it is made: its dict holds what done says -/
def ExAt (h : Heap) (x C t1 : Addr) (least : Nat) (done : List (Str × Value)) : Prop := match done with
  | [] => h.get? x = some (excO C t1)
  | _ :: _ => ∃ dx m, least ≤ dx ∧ dx ≠ x ∧ h.get? x = some { cls := .ref C, dict := some dx, data := .fields #[.ref t1, .none, .none, .none, .bool false, .none] } ∧ h.Ns1 dx m ∧ Within m (done.map (·.1)) ∧ ∀ y, m y = done.lookup y
theorem lookup_snoc {done : List (Str × Value)} {f : Str} {v : Value} (hn : f ∉ done.map (·.1)) (y : Str) : (if y = f then some v else done.lookup y) = (done ++ [(f, v)]).lookup y := by
  induction done with
  | nil =>
    by_cases e : y = f
    · rw [if_pos e, e]
      simp [List.lookup]
    · rw [if_neg e]
      have e2 : (y == f) = false := beq_eq_false_iff_ne.mpr e
      simp [List.lookup, e2]
  | cons p r ih =>
    have h1 : f ≠ p.1 := fun e => hn (by rw [e]; exact List.mem_cons_self)
    have h2 : f ∉ r.map (·.1) := fun e => hn (List.mem_cons_of_mem _ e)
    have ih := ih h2
    by_cases e : y = p.1
    · have e2 : (y == p.1) = true := beq_iff_eq.mpr e
      have e3 : ¬ y = f := fun z => h1 (z ▸ e)
      rw [if_neg e3]
      simp [List.lookup, e2]
    · have e2 : (y == p.1) = false := beq_eq_false_iff_ne.mpr e
      simp only [List.cons_append, List.lookup, e2]
      exact ih
section
variable {prog : Program} {w : World} {A : Around} {s : Shared} {K : Frag} {C fI : Addr} {all : List Str}
/-- the body's walk -/
theorem puts_walk {E : Value → Shared → Prop} {Q : Flow → Shared → Prop} (T : ExT K C fI all) {qual : Str} {scope : Scope} (Ps : Pars qual scope all) {L : Addr} {a : Addr} {cd : Value} {x t1 : Addr} {s0 : Shared} {m : Str → Option Value} (hK : K.lookup x = none) (hmx : m ("self" : Str) = some (.ref x)) (hxL : x ≠ L)
    (hL : s0.heap.objs.size ≤ L) (X0 : K.In s0.heap) : ∀ (fs : List Str) (vs : List Value) (body : List Stmt) (done : List (Str × Value)) (h : Heap) (tk : Nat), Puts fs body → vs.length = fs.length → (∀ f ∈ fs, f ∈ all) → fs.Nodup → (∀ f ∈ fs, f ∉ done.map (·.1)) → done.length + fs.length ≤ 900 → (∀ p ∈ fs.zip vs, m p.1 = some p.2) →
      K.In h → h.Ns L m → ExAt h x C t1 (L + 1) done → (∀ b o, b ≠ x → s0.heap.get? b = some o → h.get? b = some o) →
      (∀ h' tk', ExAt h' x C t1 (L + 1) (done ++ fs.zip vs) → (∀ b o, b ≠ x → s0.heap.get? b = some o → h'.get? b = some o) → Q .next { s0 with heap := h', toks := tk' }) →
      wpAny (model prog w) A (execs body (envOfC qual scope L a cd)) Q E { s0 with heap := h, toks := tk }
  | [], vs, body, done, h, tk, hb, hl, _, _, _, _, _, X, hn, ex, kp, hq => by
    have eb : body = [] := hb
    subst eb
    have e : vs = [] := List.length_eq_zero_iff.mp hl
    subst e
    refine wpAny_execs_nil (hq h tk ?_ kp)
    rw [show ([] : List Str).zip ([] : List Value) = [] from rfl, List.append_nil]
    exact ex
  | f :: fs, [], _, _, _, _, _, hl, _, _, _, _, _, _, _, _, _, _ => by cases hl
  | f :: fs, v :: vs, body, done, h, tk, hb, hl, hall, nd, hnew, few, hm, X, hn, ex, kp, hq => by
    obtain ⟨q1, q2, q3, q4, r, rfl, hr⟩ := hb
    have fa : f ∈ all := hall f List.mem_cons_self
    obtain ⟨cnm, cq, cN, cbs, bm, csn, csub, cab, ccol, cdd, k0, k1, k2, k3, k5, hC, hbm⟩ := T.cls
    have hcl : clsIn K C = some { name := cnm, bases := cbs, mro := .ref C :: bm, ns := cN, qualname := cq, hasDict := true, slotNames := csn, subclasses := csub, abstract := cab, collection := ccol, hasDel := false } := by
      unfold clsIn
      rw [hC] <;> rfl
    have nf : f ∉ done.map (·.1) := hnew f List.mem_cons_self
    have next : ∀ h' tk', ExAt h' x C t1 (L + 1) (done ++ [(f, v)]) → (∀ b o, b ≠ x → s0.heap.get? b = some o → h'.get? b = some o) → K.In h' → h'.Ns L m → wpAny (model prog w) A (execs r (envOfC qual scope L a cd)) Q E { s0 with heap := h', toks := tk' } := fun h' tk' ex' kp' X' hn' =>
      puts_walk T Ps hK hmx hxL hL X0 fs vs r (done ++ [(f, v)]) h' tk' hr (Nat.succ.inj hl) (fun g hg => hall g (List.mem_cons_of_mem _ hg)) (List.nodup_cons.mp nd).2 (fun g hg z => by
        rw [List.map_append] at z
        rcases List.mem_append.mp z with z | z
        · exact hnew g (List.mem_cons_of_mem _ hg) z
        · have e : g = f := List.mem_singleton.mp z
          exact (List.nodup_cons.mp nd).1 (e ▸ hg)) (by rw [List.length_append]; simp only [List.length_cons, List.length_nil] at few ⊢; omega) (fun p hp => hm p (List.mem_cons_of_mem _ hp)) X' hn' ex' kp' (fun h2 tk2 e2 k2 => hq h2 tk2 (by
          rw [List.append_assoc] at e2
          exact e2) k2)
    refine wpAny_execs_cons (plainObj_wpAny_Assign_Attribute ?_)
    have ld : ∀ {n : Str} {pos : Pos} {u : Value} {s : Shared} {Q' : Value → Shared → Prop} (_ : s.heap.Ns L m) (_ : n ∈ ("self" : Str) :: all) (_ : m n = some u) (_ : Q' u s), wpAny (model prog w) A (eval (.Name n pos) (envOfC qual scope L a cd)) Q' E s := fun {n pos u s Q'} z1 z2 z3 z4 => wpAny_Name (wpAny_loadName_local Ps.fn (Ps.kd L a cd n z2) z1 z3 z4) (Ps.dbg n z2)
    refine ld hn (List.mem_cons_of_mem _ fa) (hm (f, v) List.mem_cons_self) (ld hn List.mem_cons_self hmx ?_)
    have back : ∀ {h' : Heap} {tk' : Nat} {ex' : Prop}, True := fun {_ _ _} => trivial
    have kin : ∀ {h' : Heap}, (∀ b o, b ≠ x → h.get? b = some o → h'.get? b = some o) → K.In h' := fun {h'} k b o e => k b o (fun z => by rw [z, hK] at e; cases e) (X b o e)
    cases done with
    | nil =>
      have hx : h.get? x = some (excO C t1) := ex
      refine set_plain X (ox := excO C t1) (od := none) ⟨hx, rfl, rfl, trivial⟩ T.sa ?_
      refine setFirst X hx hcl (show overX (.ref C :: bm) = true from hbm) rfl (T.noN f fa) (fun h3 tk3 dx k3 dn dne hx3 hn3 => ?_)
      have k3' : ∀ b o, b ≠ x → h.get? b = some o → h3.get? b = some o := k3
      have big : L + 1 ≤ dx := by
        have z : L < h.objs.size := hn.lt
        exact Nat.le_trans z dn
      exact next h3 tk3 ⟨dx, _, big, dne, hx3, hn3, Within.cons f v Within.nil, fun y => by
        by_cases e : y = f
        · rw [if_pos e, e]; simp [List.lookup]
        · rw [if_neg e]
          have e2 : (y == f) = false := beq_eq_false_iff_ne.mpr e
          simp [List.lookup, e2]⟩ (fun b o hb e => k3 b o hb (kp b o hb e)) (kin k3) (hn.at fun o q => k3 L o (Ne.symm hxL) q)
    | cons p done =>
      obtain ⟨dx, md, g1, g2, hx, g3, g4, g5⟩ := ex
      obtain ⟨od, es, ep, c1, c2, _⟩ := g3.count g4
      refine set_plain X (od := some od) ⟨hx, rfl, rfl, c1⟩ T.sa ?_
      have sz : ((p :: done).map (·.1)).length ≤ 1000 := by
        rw [List.length_map]
        simp only [List.length_cons] at few ⊢
        omega
      refine setMore X hx g3 g4 sz hcl (show overX (.ref C :: bm) = true from hbm) rfl (T.noN f fa) (fun h3 tk3 k3 hn3 => ?_)
      have old : ∀ b o, s0.heap.get? b = some o → b ≠ dx := fun b o e z => by
        have z1 := Heap.lt_size e
        rw [z] at z1
        exact absurd z1 (Nat.not_lt.mpr (Nat.le_trans hL (Nat.le_trans (Nat.le_succ L) g1)))
      have k3' : ∀ b o, b ≠ dx → h.get? b = some o → h3.get? b = some o := k3
      have xdx : x ≠ dx := fun z => g2 z.symm
      have ldx : L ≠ dx := fun z => Nat.not_succ_le_self L (by rw [← z] at g1; exact g1)
      refine next h3 tk3 ⟨dx, _, g1, g2, k3' _ _ xdx hx, hn3, ?_, fun y => ?_⟩ (fun b o hb e => k3' b o (old b o e) (kp b o hb e)) (fun b o e => k3' b o (old b o (X0 b o e)) (X b o e)) (hn.at fun o q => k3' L o ldx q)
      · intro y hy
        have wi := Within.cons f v g4 y hy
        rw [List.map_append]
        rcases List.mem_cons.mp wi with e | e
        · exact List.mem_append_right _ (by rw [e]; exact List.mem_cons_self)
        · exact List.mem_append_left _ e
      · show (if y = f then some v else md y) = _
        rw [g5 y]
        exact lookup_snoc nf y
/-- __init__ at a new exception -/
theorem ex_init {R : Result → Shared → Prop} (T : ExT K C fI all) {x t0 : Addr} {vs : List Value} (hl : vs.length = all.length) (X : K.In s.heap) (hlim : s.heap.NoLimit) (hx : s.heap.get? x = some (excO C t0)) (hnx : K.lookup x = none) (hroom : A.depth < recursionLimit)
    (hq : ∀ h' tk, ExAt h' x C t0 s.heap.objs.size (all.zip vs) → (∀ b o, b ≠ x → s.heap.get? b = some o → h'.get? b = some o) → R (.ok (.ret .none)) { s with heap := h', toks := tk }) :
    codeAny (model prog w) A (.call (.ref fI) ⟨.ref x :: vs, []⟩) R s := by
  obtain ⟨nme, qual, params, body, scope, fd, F, hp, Ps, hb⟩ := T.fn
  obtain ⟨oc, od, dV, kV, doc, pm, an, cdv, ct, osl, rfl, ho, hcd, hD, _⟩ := F.ex
  obtain rfl : dV = .none := by
    rcases hD with ⟨_, z⟩ | ⟨z, _⟩
    · exact z
    · exact absurd rfl z
  refine Att.call_fn (binds := (("self" : Str), .ref x) :: all.zip vs) X hlim ho hcd hroom (BindsTo.of_eq (hb doc pm an cdv ct kV (.ref x) vs hl)) (Ps.all _ vs hl) (fun s₁ IC => ?_) Ps.co Ps.gen Ps.fn
  obtain ⟨h₁, tk₁, rfl⟩ := IC.toInCall.same
  have k : ∀ b o, s.heap.get? b = some o → h₁.get? b = some o := IC.toInCall.keep
  have lds := Ps.ld s.heap.objs.size fI cdv (.ref x) vs hl
  have apart : x ≠ s.heap.objs.size := Nat.ne_of_lt (Heap.lt_size hx)
  refine puts_walk (t1 := t0) (s0 := s) T Ps hnx (lds _ List.mem_cons_self) apart (Nat.le_refl _) X all vs body [] h₁ tk₁ hp hl (fun f hf => hf) Ps.nd (fun f _ z => by cases z) (by have := Ps.few; simp only [List.length_nil]; omega)
    (fun p hp => lds p (List.mem_cons_of_mem _ hp)) (X.keeps k) IC.toInCall.ns (k _ _ hx) (fun b o _ e => k b o e) fun h' tk' ex kp => ?_
  refine hq h' tk' ?_ kp
  rw [List.nil_append] at ex
  cases e : all.zip vs with
  | nil =>
    rw [e] at ex
    exact ex
  | cons p r =>
    rw [e] at ex
    obtain ⟨dx, m, g1, g2⟩ := ex
    exact ⟨dx, m, Nat.le_trans (Nat.le_succ _) g1, g2⟩
end
end DL

set_option Elab.async false
set_option linter.all false
set_option maxRecDepth 100000
set_option maxHeartbeats 4000000
/-! raising such an exception -/
namespace DL
open PySem PySem.Spec L2
open PySem.W PySem.Calls PyProof.Rows PySem.HandSPX Builtin Builtin.ObjectAttr
section
variable {prog : Program} {w : World} {A : Around} {s : Shared} {K : Frag} {C fI : Addr} {all : List Str} {R : Result → Shared → Prop}
/-- an exception that was made: e, apart from all else; its dict -/
structure ExMade (h h' : Heap) (e C : Addr) (kvs : List (Str × Value)) (d : Addr) : Prop where
  keep : ∀ b o, h.get? b = some o → h'.get? b = some o
  new : h.objs.size ≤ e
  obj : ∃ oe vs, h'.get? e = some oe ∧ oe.cls = .ref C ∧ oe.dict = some d ∧ oe.data = .fields vs ∧ vs[1]? = some .none
  dbig : h.objs.size ≤ d
  dne : d ≠ e
  ns : ∃ m, h'.Ns1 d m ∧ ∀ y, m y = kvs.lookup y
theorem ex_made (T : ExT K C fI all) {vs : List Value} (hl : vs.length = all.length) (hne : all ≠ []) (hz : vs.length ≤ sizeLine) (X : K.In s.heap) (hlim : s.heap.NoLimit) (hroom : A.depth + 1 < recursionLimit)
    (hq : ∀ h' tk e d, ExMade s.heap h' e C (all.zip vs) d → R (.ok (.ret (.ref e))) { s with heap := h', toks := tk }) : codeAny (model prog w) A (.call (.ref C) ⟨vs, []⟩) R s := by
  obtain ⟨cnm, cq, cN, cbs, bm, csn, csub, cab, ccol, cdd, k0, k1, k2, k3, k5, hC, hbm⟩ := T.cls
  obtain ⟨hp, g, dr, tk, os⟩ := s
  let h2 : Heap := (hp.push (kdv_tup vs)).push (excO C hp.objs.size)
  have k : ∀ b o, hp.get? b = some o → h2.get? b = some o := fun b o e => Heap.get?_push_of_some _ (Heap.get?_push_of_some _ e)
  have at_ : h2.get? (hp.objs.size + 1) = some (excO C hp.objs.size) := by
    show ((hp.push (kdv_tup vs)).push (excO C hp.objs.size)).get? (hp.objs.size + 1) = _
    heap_get
  have notK : K.lookup (hp.objs.size + 1) = none := by
    cases e : K.lookup (hp.objs.size + 1) with
    | none => rfl
    | some o =>
      have z : hp.get? (hp.objs.size + 1) = some o := X _ _ e
      exact absurd (Nat.lt_of_succ_lt (Heap.lt_size z)) (Nat.lt_irrefl _)
  refine call_own F.excBase_Exception (fun n => overX_has n bm hbm) (X _ _ hC) (looks_findIn X T.iC) (fun me => bind_fn X me T.tC) hz ?_
  refine ex_init (s := ⟨h2, g, dr, tk, os⟩) T hl (X.keeps k) (hlim.keeps k) at_ notK (show A.depth + 1 < recursionLimit from hroom) fun h' tk' ex kp => ?_
  have sz : h2.objs.size = hp.objs.size + 1 + 1 := by
    show ((hp.push (kdv_tup vs)).push (excO C hp.objs.size)).objs.size = _
    rw [Heap.size_push, Heap.size_push]
  cases e : all.zip vs with
  | nil =>
    exfalso
    cases all with
    | nil => exact hne rfl
    | cons f r =>
      cases vs with
      | nil => cases hl
      | cons v r2 => cases e
  | cons p r =>
    rw [e] at ex
    obtain ⟨dx, m, g1, g2, g3, g4, _, g5⟩ := ex
    have old : ∀ b o, hp.get? b = some o → h'.get? b = some o := fun b o z => kp b o (Nat.ne_of_lt (Nat.lt_succ_of_lt (Heap.lt_size z))) (k b o z)
    refine ⟨rfl, hq h' tk' (hp.objs.size + 1) dx ⟨old, Nat.le_succ _, ⟨_, _, g3, rfl, rfl, rfl, rfl⟩, ?_, g2, m, g4, fun y => by rw [g5 y, e]⟩⟩
    have g1' : h2.objs.size ≤ dx := g1
    rw [sz] at g1'
    exact Nat.le_trans (Nat.le_trans (Nat.le_succ _) (Nat.le_succ _)) g1'
end
theorem relO_zip : ∀ {fs : List Str} {vs : List V} {us : List Value}, vs.length = fs.length → Vals vs us → ∀ y, RelO ((fs.zip vs).lookup y) ((fs.zip us).lookup y)
  | [], [], _, _, .nil, y => trivial
  | [], _ :: _, _, h, _, _ => by cases h
  | _ :: _, [], _, h, _, _ => by cases h
  | f :: fs, v :: vs, u :: us, h, .cons r1 r2, y => by
    show RelO (List.lookup y ((f, v) :: fs.zip vs)) (List.lookup y ((f, u) :: fs.zip us))
    by_cases e : y = f
    · have e2 : (y == f) = true := beq_iff_eq.mpr e
      simp only [List.lookup, e2]
      exact r1
    · have e2 : (y == f) = false := beq_eq_false_iff_ne.mpr e
      simp only [List.lookup, e2]
      exact relO_zip (Nat.succ.inj h) r2 y
section
variable {X : Cx} {C fI : Addr} {all : List Str} {x : Str} {a : Expr} {as : List Expr} {p pos pos2 : Pos} {k : Nat}
/-- C(e, ..) of such a class, to be raised -/
def tMkX (C : Addr) (all : List Str) (ta : TA) : L2.St → Hp → XK → Prop := fun σ H Q => ta σ H fun vs H1 => vs.length = all.length ∧ ∀ d, H1 d = none → Q (.ref C) (some d) (upd H1 d (.xd (all.zip vs)))
theorem pmk_own {ta : TA} (T : ExT X.K C fI all) (hne : all ≠ []) (hfew : all.length ≤ 900) (hr : Room k X.A) (ha : PA X (a :: as) ta) (hg : Gl X x) (hm : X.mg x = some (.ref C)) (hdb : (x == ("__debug__" : Str)) = false)
    (he : starEach (a :: as) X.env = (false, eval a X.env) :: starEach as X.env) (hpl : (backTo pos (starEach as X.env)).any (·.1) = false) : PMk X (.Call (.Name x p) (a :: as) [] pos) (tMkX C all ta) := by
  intro pins s σ H Q I h
  refine wpAny_Call_Name_kw (ld_glob I hg hm ?_ hdb)
  refine PySem.W.callWith_K (h₀ := X.base) I.ok.mod.kin T.kC (thn (ha.run pos pins s σ H _ I h) fun us s1 hh => ?_) he hpl
  obtain ⟨vs, H1, I1, r1, ev, q1⟩ := hh
  refine ⟨I1.kIn, ?_⟩
  show wpAny _ _ (call (.ref C) us) _ _ _
  have ul : us.length = all.length := by rw [← ev, r1.length]
  have hlim := I1.nolimit
  obtain ⟨hp, g, dr, tk, os⟩ := s1
  have room : X.A.depth + 1 < recursionLimit := by
    have z := hr.dp
    omega
  have fits : us.length ≤ sizeLine := by
    rw [sizeLine_eq, ul]
    omega
  refine wpAny_call (ex_made T ul hne fits I1.kIn hlim room fun h' tk' e d M => ?_)
  show MkP X pins σ Q (.ref e) ⟨h', g, dr, tk', os⟩
  obtain ⟨oe, fv, hoe, hc, hd, hdat, h1⟩ := M.obj
  obtain ⟨m, hns, hm2⟩ := M.ns
  obtain ⟨G', g1, g2⟩ := restrict h' fun b => decide (b ≠ e)
  have same : ∀ b, b ≠ e → G'.get? b = h'.get? b := fun b hb => g1 b (decide_eq_true hb)
  have gone : G'.get? e = none := g2 e (by simp)
  have old : ∀ b o, hp.get? b = some o → G'.get? b = some o := fun b o q => by
    rw [same b (Nat.ne_of_lt (Nat.lt_of_lt_of_le (Heap.lt_size q) M.new))]
    exact M.keep b o q
  have ob : ObjOk X.prog X.w (upd H1 d (.xd (all.zip vs))) G' d (.xd (all.zip vs)) := by
    refine ⟨m, hns.at (fun o q => (same d M.dne).trans q), fun y => ?_⟩
    rw [hm2 y]
    exact relO_zip ev r1 y
  have J : Inv X pins σ (upd H1 d (.xd (all.zip vs))) ⟨G', g, dr, tk', os⟩ := I1.laid (t' := tk') old M.dbig ob
  have sub : ∀ b o, G'.get? b = some o → h'.get? b = some o := fun b o q => by
    by_cases hb : b = e
    · rw [hb, gone] at q; cases q
    · rw [← same b hb]
      exact q
  refine ⟨e, oe, fv, ⟨G', g, dr, tk', os⟩, _, .ref C, some d, rfl, J, sub, gone, hoe, ⟨hc, hd⟩, hdat, h1, ?_, rfl, I1.bare, raises_own T.exC T.tyC, q1 d (I1.hok.fresh M.dbig)⟩
  rw [upd_ne (Ne.symm M.dne)]
  exact I1.hok.fresh M.new
end
/-- the class c is such a one, with the attributes ns -/
structure ExOk (X : Cx) (c : Nat) (ns : List Nat) : Prop where
  ex : ∃ fI, ExT X.K (He.ga X.K (nm c)) fI (nms ns)
def sRaise (c : Nat) (ns : List Nat) (fs : M (List D)) : M Fl := fun env => (fs env).bind fun ds env1 => if ds.length = ns.length then .err c ns ds env1 else .stuck
section
variable {X : Cx} {Wx : WX} {ms : Ms} {kr : Rk (tx X) D V} {x : Str} {a : Expr} {as : List Expr} {p pos pos2 : Pos} {k : Nat} {fs : M (List D)}
theorem ds_raise (c : Nat) (ns : List Nat) (hc : X.calm = true) (T : ExOk X c ns) (hr : Room k X.A) (hg : Gl X x) (hm : X.mg x = some (.ref (He.ga X.K x))) (tk : Takes X Wx) (ha : DA X Wx ms (a :: as) fs) (hx : nm c = x := by rfl) (hne : (!ns.isEmpty && Nat.ble ns.length 900) = true := by rfl)
    (hdb : (x == ("__debug__" : Str)) = false := by decide) (he : starEach (a :: as) X.env = (false, eval a X.env) :: starEach as X.env := by rfl) (hpl : (backTo pos (starEach as X.env)).any (·.1) = false := by rfl) :
    DS X Wx ms kr (.Raise (some (.Call (.Name x p) (a :: as) [] pos)) none pos2) (sRaise c ns fs) := by
  subst hx
  obtain ⟨fI, T⟩ := T.ex
  obtain ⟨n1, n2⟩ := Bool.and_eq_true_iff.mp hne
  have ne : nms ns ≠ [] := fun z => by
    cases ns with
    | nil => cases n1
    | cons _ _ => cases z
  have few : (nms ns).length ≤ 900 := by
    rw [List.length_map]
    exact Nat.le_of_ble_eq_true n2
  exact fun B W env σ H Dn o h => PS.tm (ps_raise hc tk (pmk_own T ne few hr pa_tm hg hm hdb he hpl)) (ha _ _ _ _ _ _ o (PoS.cont (k1 := rkL (tx X)) h fun ds env1 W1 H1 vs n1 o1 r1 h1 => by
    by_cases hl : ds.length = ns.length
    · rw [if_pos hl] at h1
      refine ⟨by rw [List.length_map, ← hl]; exact r1.length.symm, fun d hd => ?_⟩
      exact h1 W1 _ σ d vs (Nxt.same (Same.upd hd)) (o1.same (Same.upd hd)) hd upd_same (by rw [← hl]; exact r1.length) (RelL.ext (.same (Same.upd hd)) ds r1)
    · rw [if_neg hl] at h1
      exact h1.elim))
end
end DL

set_option Elab.async false
set_option linter.all false
set_option maxRecDepth 100000
set_option maxHeartbeats 4000000
/-! try: clauses with names and without -/
namespace DL
open PySem PySem.Spec L2
open PyProof.Rows

abbrev SuiteT := Addr → Value → Option Addr → Obj → TS
/-- the ends of a suite whose clause has a name in slot i -/
def goneAt (i : Nat) (D : Ends) : Ends := { nx := fun σ H => D.nx (σ.set i none) H, rt := D.rt, bk := fun σ H => D.bk (σ.set i none) H, ct := fun σ H => D.ct (σ.set i none) H }
def suiteWish (o : Option Nat) (ts : SuiteT) (a : Addr) (cls : Value) (d : Option Addr) (oe : Obj) (D : Ends) (σ : L2.St) (H : Hp) : Prop := match o with
  | none => ts a cls d oe D σ H
  | some i => ts a cls d oe (goneAt i D) (σ.set i (some (.ref a))) H
def wG (K : PySem.W.Frag) (Wout : WX) (D : Ends) : List (Value × Option Nat × SuiteT) → WX
  | [] => Wout
  | q :: more => fun cls d σ H => ∃ b, PySem.W.exmOne K cls q.1 = some b ∧ (b = true → ∀ a oe, H a = none → Zc cls d oe → (∃ us, oe.data = .fields us) → suiteWish q.2.1 q.2.2 a cls d oe D σ H) ∧ (b = false → wG K Wout D more cls d σ H)
inductive HdsG (X : Cx) : List ExceptHandler → List (Value × Option Nat × SuiteT) → Prop
  | nil : HdsG X [] []
  | bare {x : Str} {c : Value} {ts : SuiteT} {b₀ : Stmt} {suite : List Stmt} {np hp : Pos} {hds : List ExceptHandler} {l : List (Value × Option Nat × SuiteT)} (hc : Names X x c)
      (hsu : ∀ (a : Addr) (oe : Obj) (cls : Value) (d : Option Addr) (pn : List (Addr × Obj)), Zc cls d oe → (∃ us, oe.data = .fields us) → PSs (X.suite a ((a, oe) :: pn)) (b₀ :: suite) (ts a cls d oe)) (r : HdsG X hds l) :
      HdsG X (.ExceptHandler (some (.Name x np)) none (b₀ :: suite) hp :: hds) ((c, none, ts) :: l)
  | named {x n : Str} {i : Nat} {c : Value} {ts : SuiteT} {b₀ : Stmt} {suite : List Stmt} {np hp : Pos} {hds : List ExceptHandler} {l : List (Value × Option Nat × SuiteT)} (hc : Names X x c) (hi : X.N[i]? = some n) (hln : X.env.kindOf n = some .local)
      (hsu : ∀ (a : Addr) (oe : Obj) (cls : Value) (d : Option Addr) (pn : List (Addr × Obj)), Zc cls d oe → (∃ us, oe.data = .fields us) → PSs (X.suite a ((a, oe) :: pn)) (b₀ :: suite) (ts a cls d oe)) (r : HdsG X hds l) :
      HdsG X (.ExceptHandler (some (.Name x np)) (some n) (b₀ :: suite) hp :: hds) ((c, some i, ts) :: l)
section
variable {X : Cx} {body : List Stmt} {h₀ : ExceptHandler} {hds : List ExceptHandler} {l : List (Value × Option Nat × SuiteT)} {pos : Pos} {tb : WX → TS} {Wout : WX}
theorem ps_tryG (hs : X.stack = X.env :: X.outer) (hf : X.env.frame = some X.env.locals) (hN : X.N.Nodup) (tk : Takes X Wout)
    (hb : ∀ (W : WX) (pn : List (Addr × Obj)) (xe : Value → Shared → Prop), Takes (X.tr pn xe) W → PassesOwn (model X.prog X.w) X.A X.env xe → PSs (X.tr pn xe) body (tb W))
    (hh : HdsG X (h₀ :: hds) l) : PS X (.Try body (h₀ :: hds) [] [] pos) (fun D σ H => tb (wG X.K Wout D l) D σ H) := by
  refine ⟨fun pins s σ H D I h => ?_⟩
  have good := I.ok
  have frames : X.A.frames = some (X.env :: X.outer) := by
    rw [good.frames, hs]
  refine wpAny_Try_except ?_
  refine wpAny_mono ((hb (wG X.K Wout D l) (X.pn ++ pins) (fun e s₁ => wpAny (model X.prog X.w) X.A (noteFrame e X.env)
    (fun _ s₂ => wpAny (model X.prog X.w) X.A (setFlight e none) (fun _ s₃ => wpAny (model X.prog X.w) X.A (handleBy e X.env (h₀ :: hds)) (SP X pins D) X.xe s₃) X.xe s₂) X.xe s₁)
    (fun u s' air => ?_) PassesOwn.looking).run [] s σ H D (I.toTry _) h) (fun f s1 done => ?_) (fun e s1 he => he)
  · obtain ⟨a, Gd, sI, pins2, σ2, H2, cls, d, rfl, In, keepB, slots, sky, na, sameOs, bare, wish⟩ := air
    have Ja : Inv X pins σ2 H2 sI := In.ofTry good
    have skyHere : Sky Gd (X.env :: X.outer) a (Zc cls d) X.env.locals s'.heap := by
      rw [← hs]
      exact sky
    show wpAny (model X.prog X.w) X.A (noteFrame (.ref a) X.env) _ _ _
    refine Sky.land Zc.steady frames hf skyHere fun h3 fly3 up3 => ?_
    have Jb : Inv X pins σ2 H2 { s' with heap := h3 } := Ja.landed keepB fly3.1 (slots.trans up3) sameOs bare
    obtain ⟨oe3, vs3, at3, zc3, fields3⟩ := fly3.there
    have noFrame : a ∉ frs (X.env :: X.outer) := fun hm => by
      obtain ⟨_, o2, e2, hnf⟩ := fly3.2.2.1.mem hm
      rw [at3] at e2
      cases e2
      exact hnf _ fields3
    have notL : a ≠ X.env.locals := fun z => noFrame (List.mem_filterMap.mpr ⟨X.env, List.mem_cons_self, by rw [hf, z]⟩)
    have notF : a ∉ X.fs := fun hm => by
      obtain ⟨e, he, q⟩ := List.mem_filterMap.mp hm
      exact noFrame (List.mem_filterMap.mpr ⟨e, List.mem_cons_of_mem _ he, q⟩)
    have Sa := Jb.suite at3 fields3 na notL notF
    have looksT : PySem.W.Looks (model X.prog X.w) h3 (typeOf (.ref a)) cls := fun A Q E s k q => wpAny_typeOf_ref (k _ _ at3) (by rw [zc3.1]; exact q)
    have named : ∀ {x : Str} {c : Value} {np : Pos} {Q : Value → Shared → Prop} {E : Value → Shared → Prop}, Names X x c → Q c { s' with heap := h3 } → wpAny (model X.prog X.w) (X.A.mark (some (.ref a))) (eval (.Name x np) X.env) Q E { s' with heap := h3 } := fun {x c np Q E} hc q => by
      obtain ⟨g1, g2, g3 | ⟨g4, g5, g6⟩⟩ := hc
      · exact ld_glob (X := X.suite a ((a, oe3) :: (X.pn ++ pins))) Sa g1 g3 q g2
      · exact ld_blt (X := X.suite a ((a, oe3) :: (X.pn ++ pins))) Sa g1 g4 g5 q g6 g2
    have walk : ∀ {hs' : List ExceptHandler} {l' : List (Value × Option Nat × SuiteT)}, HdsG X hs' l' → wG X.K Wout D l' cls d σ2 H2 → wpAny (model X.prog X.w) X.A (handleBy (.ref a) X.env hs') (SP X pins D) X.xe { s' with heap := h3 } := by
      intro hs' l' hk
      induction hk with
      | nil =>
        intro w
        refine wpAny_handleBy_nil ?_
        obtain ⟨_, _, _, oe, vs, T, oT, ts2, m1, m2, m3, m4, _⟩ := id fly3
        unfold PySem.passOn
        refine wpAny_bind (wpAny_field m1 m3 m4 ?_)
        rw [if_neg (show ¬ ((Value.ref T == Value.none) = true) from by simp)]
        have last : wpAny (model X.prog X.w) X.A (setFlight (.ref a) X.env.frame) (fun _ s4 => wpAny (model X.prog X.w) X.A (throw (.ref a) : Sem Flow) (SP X pins D) X.xe s4) X.xe { s' with heap := h3 } := by
          rw [hf]
          refine HandSPX.setFlight_upZ fly3 fun h4 held4 up4 => wpAny_throw (tk _ _ ?_)
          exact ⟨a, Gd, sI, pins, σ2, H2, cls, d, rfl, Ja, keepB, (slots.trans up3).trans up4, .inr (.inr (by rw [hs]; exact held4)), na, sameOs, bare, w⟩
        first
          | exact wpAny_bind (wpAny_pure (wpAny_bind last))
          | exact wpAny_bind last
      | @bare x c ts b₀ suite np hp hds2 l2 hc hsu r ih =>
        intro w
        obtain ⟨b, isIt, hyes, hno⟩ := w
        refine wpAny_handleBy_cons (codeAny_handlers_test ?_) (by intro q; cases q)
        have looksM := PySem.W.exm_one (M := model X.prog X.w) (Jb.kIn) looksT isIt
        refine named hc (looksM.here ?_)
        cases b with
        | true =>
          refine codeAny_handlers_suite ?_
          refine HandSPX.lands_againZ fly3 fun h4 fly4 up4 => ?_
          have Jc : Inv X pins σ2 H2 { s' with heap := h4 } := Ja.landed keepB fly4.1 ((slots.trans up3).trans up4) sameOs bare
          obtain ⟨oe4, vs4, at4, zc4, fields4⟩ := fly4.there
          have Sb := Jc.suite at4 fields4 na notL notF
          refine wpAny_mono ((hsu a oe4 cls d (X.pn ++ pins) zc4 ⟨_, fields4⟩).run [] _ _ H2 _ Sb (hyes rfl a oe4 na zc4 ⟨_, fields4⟩)) (fun f s6 done => ?_) (fun _ _ z => False.elim z)
          cases f with
          | ret u =>
            obtain ⟨v6, σ6, H6, Sc, r6, q6⟩ := done
            exact ⟨_, _, _, Sc.unsuite good, r6, q6⟩
          | _ =>
            obtain ⟨σ6, H6, Sc, q6⟩ := done
            exact ⟨_, _, Sc.unsuite good, q6⟩
        | false =>
          show wpAny _ X.A (handleBy (.ref a) X.env hds2) _ _ _
          exact ih (hno rfl)
      | @named x n i c ts b₀ suite np hp hds2 l2 hc hi hln hsu r ih =>
        intro w
        obtain ⟨b, isIt, hyes, hno⟩ := w
        refine wpAny_handleBy_cons (codeAny_handlers_test ?_) (by intro q; cases q)
        have looksM := PySem.W.exm_one (M := model X.prog X.w) (Jb.kIn) looksT isIt
        refine named hc (looksM.here ?_)
        cases b with
        | true =>
          have loc : Loc X.env.scope n := .inl hln
          refine codeAny_handlers_suite_as ?_
          refine HandSPX.lands_againZ fly3 fun h4 fly4 up4 => ?_
          have Jc : Inv X pins σ2 H2 { s' with heap := h4 } := Ja.landed keepB fly4.1 ((slots.trans up3).trans up4) sameOs bare
          obtain ⟨oe4, vs4, at4, zc4, fields4⟩ := fly4.there
          have Sb := Jc.suite at4 fields4 na notL notF
          refine store_ok (X := X.suite a ((a, oe4) :: (X.pn ++ pins))) (v := .ref a) Sb hN hi loc rfl (fun s5 Sd => ?_) (.inr hln)
          refine wpAny_mono ((hsu a oe4 cls d (X.pn ++ pins) zc4 ⟨_, fields4⟩).run [] s5 _ H2 _ Sd (hyes rfl a oe4 na zc4 ⟨_, fields4⟩)) (fun f s6 done => ?_) (fun _ _ z => False.elim z)
          have fin : ∀ {σ6 : L2.St} {H6 : Hp} {Q : Shared → Prop}, Inv (X.suite a ((a, oe4) :: (X.pn ++ pins))) [] σ6 H6 s6 → (∀ s7, Inv X pins (σ6.set i none) H6 s7 → Q s7) →
            wpAny (model X.prog X.w) X.A (do bindName X.env n .none; unbindBehindTheSuite X.env n hp) (fun _ s7 => Q s7) X.xe s6 := fun {σ6 H6 Q} Sc hq => gone_ok (Sc.unsuite good) hN hi hln hq
          cases f with
          | ret u =>
            obtain ⟨v6, σ6, H6, Sc, r6, q6⟩ := done
            exact fin Sc fun s7 J7 => ⟨_, _, _, J7, r6, q6⟩
          | _ =>
            obtain ⟨σ6, H6, Sc, q6⟩ := done
            exact fin Sc fun s7 J7 => ⟨_, _, J7, q6⟩
        | false =>
          show wpAny _ X.A (handleBy (.ref a) X.env hds2) _ _ _
          exact ih (hno rfl)
    exact walk hh wish
  · cases f with
    | next =>
      obtain ⟨σ3, H3, J3, q⟩ := done
      exact wpAny_execs_nil ⟨σ3, H3, J3.ofTry good, q⟩
    | ret u =>
      obtain ⟨v, σ3, H3, J3, r, q⟩ := done
      exact ⟨v, σ3, H3, J3.ofTry good, r, q⟩
    | _ =>
      obtain ⟨σ3, H3, J3, q⟩ := done
      exact ⟨σ3, H3, J3.ofTry good, q⟩
end

/-! ### the same, of data -/
mutual
/-- no caught exception in it -/
def noX : D → Bool
  | .tup l => noXL l
  | .lst l => noXL l
  | .obj _ _ ds => noXL ds
  | .xc _ _ _ => false
  | _ => true
def noXL : List D → Bool
  | [] => true
  | d :: ds => noX d && noXL ds
end
def cleanE : En → Bool
  | [] => true
  | none :: r => cleanE r
  | some d :: r => noX d && cleanE r
theorem cleanE_at : ∀ {env : En} {i : Nat} {d : D}, cleanE env = true → env[i]? = some (some d) → noX d = true
  | [], _, _, _, h => by simp at h
  | none :: r, 0, _, _, h => by simp at h
  | none :: r, i + 1, d, c, h => cleanE_at (env := r) (i := i) c (by simpa using h)
  | some e :: r, 0, d, c, h => by
    have e1 : e = d := by simpa using h
    rw [← e1]
    exact (Bool.and_eq_true_iff.mp c).1
  | some e :: r, i + 1, d, c, h => cleanE_at (env := r) (i := i) (Bool.and_eq_true_iff.mp c).2 (by simpa using h)
/-- the same but for the pins -/
structure TxEq (T T' : Tx) : Prop where
  K : T.K = T'.K
  P : T.P = T'.P
  w : T.w = T'.w
section
variable {T T' : Tx} {B W : Addr → Prop} {H : Hp}
mutual
theorem Rel.toT (e : TxEq T T') : ∀ (d : D) {v : V}, (noX d = true ∨ T'.pn = []) → Rel T' B H d v → Rel T B H d v
  | .non, _, _, h => h
  | .bl _, _, _, h => h
  | .int _, _, _, h => h
  | .str _, _, _, h => h
  | .tup l, _, c, h => by
    obtain ⟨a, vs, e1, e2, e3⟩ := h
    exact ⟨a, vs, e1, by rw [e.K]; exact e2, RelL.toT e l c e3⟩
  | .lst l, _, c, h => by
    obtain ⟨a, vs, e1, e2, e3, e4⟩ := h
    exact ⟨a, vs, e1, e2, e3, RelL.toT e l c e4⟩
  | .obj _ _ ds, _, c, h => by
    obtain ⟨a, dx, vs, e1, e2, e3, e4, e5⟩ := h
    exact ⟨a, dx, vs, e1, by rw [e.K]; exact e2, e3, e4, RelL.toT e ds c e5⟩
  | .set l, _, _, h => by
    obtain ⟨a, L, e1, e2, e3, e4, e5⟩ := h
    exact ⟨a, L, e1, by rw [e.P, e.w]; exact e2, e3, fun p hp => by rw [e.K]; exact e4 p hp, e5⟩
  | .cls _, _, _, h => by
    show _ = _
    rw [e.K]
    exact h
  | .scr _, _, _, h => by
    obtain ⟨a, e1, e2⟩ := h
    exact ⟨a, e1, by rw [e.K]; exact e2⟩
  | .xc _ _ _, _, c, h => by
    obtain ⟨a, oe, dx, vs, _, e2, _⟩ := h
    rcases c with c | c
    · cases c
    · rw [c] at e2
      cases e2
theorem RelL.toT (e : TxEq T T') : ∀ (ds : List D) {vs : List V}, (noXL ds = true ∨ T'.pn = []) → RelL T' B H ds vs → RelL T B H ds vs
  | [], [], _, _ => trivial
  | [], _ :: _, _, h => h.elim
  | _ :: _, [], _, h => h.elim
  | d :: ds, v :: vs, c, h => ⟨Rel.toT e d (c.elim (fun c => .inl (Bool.and_eq_true_iff.mp c).1) .inr) h.1, RelL.toT e ds (c.elim (fun c => .inl (Bool.and_eq_true_iff.mp c).2) .inr) h.2⟩
end
theorem Cell.toT (e : TxEq T T') {d : D} {v : V} (c : noX d = true ∨ T'.pn = []) (h : Cell T' B W H d v) : Cell T B W H d v := by
  cases d with
  | lst l =>
    obtain ⟨a, vs, e1, e2, e3, e4⟩ := h
    exact ⟨a, vs, e1, e2, e3, RelL.toT e l c e4⟩
  | obj k ns ds =>
    obtain ⟨a, dx, vs, e1, e2, e3, e4, e5⟩ := h
    exact ⟨a, dx, vs, e1, e2, by rw [e.K]; exact e3, e4, RelL.toT e ds c e5⟩
  | _ => exact h.elim
theorem Ok.toT {ms : Ms} {B : Br} {W : Addr → Prop} {env : En} {σ : L2.St} (e : TxEq T T') (c : cleanE env = true ∨ T'.pn = []) (o : Ok T' ms B W env σ H) : Ok T ms B W env σ H :=
  ⟨o.len, o.wf, fun i d h1 h2 => by
      obtain ⟨v, e1, e2⟩ := o.sl i d h1 h2
      exact ⟨v, e1, Rel.toT e d (c.elim (fun c => .inl (cleanE_at c h2)) .inr) e2⟩,
    fun i d h1 h2 => by
      obtain ⟨v, e1, e2⟩ := o.mu i d h1 h2
      exact ⟨v, e1, e2.toT e (c.elim (fun c => .inl (cleanE_at c h2)) .inr)⟩, o.dj, o.fx⟩
end
/-- answers that bear the change -/
def KrT (krf : (T : Tx) → Rk T D V) : Prop := ∀ {T T' : Tx} {σ σ' : L2.St} {env env' : En} {H0 : Hp} {B : Br} {W : Addr → Prop} {H : Hp} {d : D} {v : V}, TxEq T T' → (noX d = true ∨ T'.pn = []) → (krf T').r σ env H0 B W H d v → (krf T).r σ' env' H0 B W H d v
theorem krt_D : KrT rkD := fun {T T' σ σ' env env' H0 B W H d v} e c h => Rel.toT e d c h
theorem krt_R : KrT rkR := fun {T T' σ σ' env env' H0 B W H d v} e c h => by
  obtain ⟨a, vs, l, rfl, e2, e3, e4, e5, e6⟩ := h
  exact ⟨a, vs, l, rfl, e2, e3, e4, RelL.toT e l c e5, e6⟩
structure Hd where
  cls : Nat
  yes : List Nat
  no : List Nat
  slot : Option Nat
  suite : M Fl
def cleanF : Fl → Bool
  | .rt d => noX d
  | _ => true
def wipeE (o : Option Nat) (env : En) : En := match o with
  | none => env
  | some i => env.set i none
def giveE (o : Option Nat) (x : D) (env : En) : En := match o with
  | none => env
  | some i => env.set i (some x)
def runHd (h : Hd) (c : Nat) (ns : List Nat) (ds : List D) (env : En) : R Fl := match h.suite (giveE h.slot (.xc c ns ds) env) with
  | .ok fl env2 => if (cleanE (wipeE h.slot env2) && cleanF fl) = true then .ok fl (wipeE h.slot env2) else .stuck
  | _ => .stuck
def catchM : List Hd → Nat → List Nat → List D → En → R Fl
  | [], c, ns, ds, env => .err c ns ds env
  | h :: r, c, ns, ds, env => if h.yes.contains c = true then runHd h c ns ds env else if h.no.contains c = true then catchM r c ns ds env else .stuck
def sTry (fb : M Fl) (hs : List Hd) : M Fl := fun env => match fb env with
  | .err c ns ds env1 => catchM hs c ns ds env1
  | .ok fl env1 => .ok fl env1
  | .stuck => .stuck
/-- a clause -/
structure HdOk1 (X : Cx) (ms : Ms) (krf : (T : Tx) → Rk T D V) (x : Str) (o : Option Str) (b : List Stmt) (h : Hd) : Prop where
  nme : nm h.cls = x
  cls : Names X x (.ref (He.ga X.K x))
  yes : ∀ c, h.yes.contains c = true → PySem.W.exmOne X.K (.ref (He.ga X.K (nm c))) (.ref (He.ga X.K x)) = some true
  no : ∀ c, h.no.contains c = true → PySem.W.exmOne X.K (.ref (He.ga X.K (nm c))) (.ref (He.ga X.K x)) = some false
  slot : match o, h.slot with
    | none, none => True
    | some n, some i => X.N[i]? = some n ∧ X.env.kindOf n = some .local ∧ ms.contains i = false ∧ ms.io.contains i = false
    | _, _ => False
  run : ∀ (a : Addr) (oe : Obj) (pn : List (Addr × Obj)), DSs (X.suite a ((a, oe) :: pn)) (fun _ _ _ _ => False) ms (krf _) b h.suite
inductive HdsOkD (X : Cx) (ms : Ms) (krf : (T : Tx) → Rk T D V) : List ExceptHandler → List Hd → Prop
  | nil : HdsOkD X ms krf [] []
  | cons {x : Str} {o : Option Str} {b₀ : Stmt} {suite : List Stmt} {np hp : Pos} {h : Hd} {hds : List ExceptHandler} {hs : List Hd} (h1 : HdOk1 X ms krf x o (b₀ :: suite) h) (r : HdsOkD X ms krf hds hs) : HdsOkD X ms krf (.ExceptHandler (some (.Name x np)) o (b₀ :: suite) hp :: hds) (h :: hs)
section
variable {X : Cx} {Wx : WX} {ms : Ms} {krf : (T : Tx) → Rk T D V}
theorem suite_tx {a : Addr} {pn : List (Addr × Obj)} : tx (X.suite a pn) = ⟨X.K, X.prog, X.w, pn.take 1⟩ := rfl
theorem calm_tx (hc : X.calm = true) : tx X = ⟨X.K, X.prog, X.w, []⟩ := by
  show Tx.mk _ _ _ (match X.calm with | true => [] | false => _) = _
  rw [hc]
theorem tr_tx (hc : X.calm = true) {pn : List (Addr × Obj)} {xe : Value → Shared → Prop} : tx (X.tr pn xe) = tx X := by
  show Tx.mk _ _ _ (match X.calm with | true => [] | false => _) = Tx.mk _ _ _ (match X.calm with | true => [] | false => _)
  rw [hc]
abbrev tsOf (X : Cx) (b : List Stmt) : SuiteT := fun a _ _ oe D σ H => ∀ pn, tmSs (X.suite a ((a, oe) :: pn)) b D σ H
/-- the wishes of the clauses -/
def wishOf (X : Cx) : List ExceptHandler → List Hd → List (Value × Option Nat × SuiteT)
  | .ExceptHandler (some (.Name x _)) _ b _ :: hds, h :: hs => (.ref (He.ga X.K x), h.slot, tsOf X b) :: wishOf X hds hs
  | _, _ => []
theorem hdsG_of {hds : List ExceptHandler} {hs : List Hd} (h : HdsOkD X ms krf hds hs) : HdsG X hds (wishOf X hds hs) := by
  induction h with
  | nil => exact .nil
  | @cons x o b₀ suite np hp h hds hs h1 r ih =>
    have sl := h1.slot
    cases o with
    | none =>
      cases q : h.slot with
      | none =>
        show HdsG X _ ((.ref (He.ga X.K x), h.slot, tsOf X (b₀ :: suite)) :: wishOf X hds hs)
        rw [q]
        exact .bare h1.cls (fun a oe cls d pn _ _ => ⟨fun pins s σ H D I z => z pn pins s I⟩) ih
      | some i =>
        rw [q] at sl
        exact sl.elim
    | some n =>
      cases q : h.slot with
      | none =>
        rw [q] at sl
        exact sl.elim
      | some i =>
        rw [q] at sl
        show HdsG X _ ((.ref (He.ga X.K x), h.slot, tsOf X (b₀ :: suite)) :: wishOf X hds hs)
        rw [q]
        exact .named h1.cls sl.1 sl.2.1 (fun a oe cls d pn _ _ => ⟨fun pins s σ H D I z => z pn pins s I⟩) ih
def wipeS (o : Option Nat) (σ : L2.St) : L2.St := match o with
  | none => σ
  | some i => σ.set i none
def endsOf (o : Option Nat) (Dn : Ends) : Ends := match o with
  | none => Dn
  | some i => goneAt i Dn
theorem ends_nx (o : Option Nat) (Dn : Ends) (σ : L2.St) (H : Hp) : (endsOf o Dn).nx σ H = Dn.nx (wipeS o σ) H := by cases o <;> rfl
theorem ends_bk (o : Option Nat) (Dn : Ends) (σ : L2.St) (H : Hp) : (endsOf o Dn).bk σ H = Dn.bk (wipeS o σ) H := by cases o <;> rfl
theorem ends_ct (o : Option Nat) (Dn : Ends) (σ : L2.St) (H : Hp) : (endsOf o Dn).ct σ H = Dn.ct (wipeS o σ) H := by cases o <;> rfl
theorem ends_rt (o : Option Nat) (Dn : Ends) (v : V) (H : Hp) : (endsOf o Dn).rt v H = Dn.rt v H := by cases o <;> rfl
/-- what a suite's ends want -/
theorem suite_pos {T' : Tx} {Wy : WX} (e : TxEq (tx X) T') (hkr : KrT krf) {B : Br} {Dn : Ends} {W W' : Addr → Prop} {H H' : Hp} (h : Hd) {c : Nat} {ns : List Nat} {ds : List D} {env1 : En} (n : Nxt W H W' H')
    (hw : ∀ {W2 : Addr → Prop} {env2 : En} {σ2 : L2.St} {H2 : Hp}, Ok T' ms B W2 env2 σ2 H2 → Ok T' ms B W2 (wipeE h.slot env2) (wipeS h.slot σ2) H2)
    (p : PoS (tx X) Wx ms (krf (tx X)) B W H (runHd h c ns ds env1) Dn) : PoS T' Wy ms (krf T') B W' H' (h.suite (giveE h.slot (.xc c ns ds) env1)) (endsOf h.slot Dn) := by
  unfold runHd at p
  cases q : h.suite (giveE h.slot (.xc c ns ds) env1) with
  | stuck =>
    rw [q] at p
    exact p.elim
  | err c2 ns2 ds2 env2 =>
    rw [q] at p
    exact p.elim
  | ok fl env2 =>
    rw [q] at p
    have p' : PoS (tx X) Wx ms (krf (tx X)) B W H (if (cleanE (wipeE h.slot env2) && cleanF fl) = true then .ok fl (wipeE h.slot env2) else .stuck) Dn := p
    by_cases z : (cleanE (wipeE h.slot env2) && cleanF fl) = true
    · rw [if_pos z] at p'
      obtain ⟨z1, z2⟩ := Bool.and_eq_true_iff.mp z
      cases fl with
      | nx => exact fun W2 H2 σ2 n2 o2 => (ends_nx h.slot Dn σ2 H2).mpr (p' W2 H2 _ (n.trans n2) (Ok.toT e (.inl z1) (hw o2)))
      | bk => exact fun W2 H2 σ2 n2 o2 => (ends_bk h.slot Dn σ2 H2).mpr (p' W2 H2 _ (n.trans n2) (Ok.toT e (.inl z1) (hw o2)))
      | ct => exact fun W2 H2 σ2 n2 o2 => (ends_ct h.slot Dn σ2 H2).mpr (p' W2 H2 _ (n.trans n2) (Ok.toT e (.inl z1) (hw o2)))
      | rt d => exact fun W2 H2 σ2 v n2 o2 k2 => (ends_rt h.slot Dn v H2).mpr (p' W2 H2 _ v (n.trans n2) (Ok.toT e (.inl z1) (hw o2)) (hkr e (.inl z2) ((krf T').mono n.back k2)))
    · rw [if_neg z] at p'
      exact p'.elim
/-- an exception that the clauses get -/
theorem catch_wish (hcalm : X.calm = true) (hkr : KrT krf) {B : Br} {Dn : Ends} {W W' : Addr → Prop} {H H' : Hp} {σ' : L2.St} {env1 : En} {c : Nat} {dx : Addr} {ns : List Nat} {ds : List D} {vs : List V} (n : Nxt W H W' H') (o : Ok (tx X) ms B W' env1 σ' H') (nd : ¬ Bar B W' dx) (hd : H' dx = some (.xd ((nms ns).zip vs)))
    (hl : ns.length = vs.length) (r : RelL (tx X) (Bar B W') H' ds vs) (hH : H dx = none) {hds : List ExceptHandler} {hs : List Hd} (h : HdsOkD X ms krf hds hs) : PoS (tx X) Wx ms (krf (tx X)) B W H (catchM hs c ns ds env1) Dn → wG X.K Wx Dn (wishOf X hds hs) (.ref (He.ga X.K (nm c))) (some dx) σ' H' := by
  induction h with
  | nil => exact fun p => p W' H' σ' dx vs n o hH hd hl r
  | @cons x ox b₀ suite np hp h hds hs h1 rest ih =>
    intro p
    have p' : PoS (tx X) Wx ms (krf (tx X)) B W H (if h.yes.contains c = true then runHd h c ns ds env1 else if h.no.contains c = true then catchM hs c ns ds env1 else .stuck) Dn := p
    by_cases qy : h.yes.contains c = true
    · rw [if_pos qy] at p'
      refine ⟨true, h1.yes c qy, fun _ a oe na zc us => ?_, (fun z => by cases z)⟩
      have e0 : (tx X).pn = [] := by rw [calm_tx hcalm]
      have sl := h1.slot
      have run := h1.run a oe
      obtain ⟨cl, ye, no, slot, su⟩ := h
      cases slot with
      | none =>
        intro pn
        have e1 : TxEq (tx (X.suite a ((a, oe) :: pn))) (tx X) := ⟨rfl, rfl, rfl⟩
        refine run pn B W' _ _ _ _ (Ok.toT e1 (.inr e0) o) ?_
        exact suite_pos (X := X) (T' := tx (X.suite a ((a, oe) :: pn))) (Wy := fun _ _ _ _ => False) ⟨rfl, rfl, rfl⟩ hkr ⟨cl, ye, no, none, su⟩ n (fun z => z) p'
      | some i =>
        cases ox with
        | none => exact sl.elim
        | some nn =>
          intro pn
          have e1 : TxEq (tx (X.suite a ((a, oe) :: pn))) (tx X) := ⟨rfl, rfl, rfl⟩
          have o1 : Ok (tx (X.suite a ((a, oe) :: pn))) ms B W' env1 σ' H' := Ok.toT e1 (.inr e0) o
          have rx : Rel (tx (X.suite a ((a, oe) :: pn))) (Bar B W') H' (.xc c ns ds) (.ref a) := ⟨a, oe, dx, vs, rfl, List.mem_cons_self, zc.1, zc.2, us, hd, nd, hl, RelL.toT e1 ds (.inr e0) r⟩
          refine run pn B W' _ _ _ _ (o1.set sl.2.2.1 sl.2.2.2 rx) ?_
          exact suite_pos (X := X) (T' := tx (X.suite a ((a, oe) :: pn))) (Wy := fun _ _ _ _ => False) ⟨rfl, rfl, rfl⟩ hkr ⟨cl, ye, no, some i, su⟩ n (fun z => z.wipe sl.2.2.1 sl.2.2.2) p'
    · rw [if_neg qy] at p'
      by_cases qn : h.no.contains c = true
      · rw [if_pos qn] at p'
        exact ⟨false, h1.no c qn, (fun z => by cases z), fun _ => ih p'⟩
      · rw [if_neg qn] at p'
        exact p'.elim
/-- a heap's dict is no cell of ours -/
theorem Ok.noXd {T : Tx} {B : Br} {W : Addr → Prop} {env : En} {σ : L2.St} {H : Hp} {dx : Addr} {fs : List (Str × V)} (o : Ok T ms B W env σ H) (hd : H dx = some (.xd fs)) : ∀ i e, ms.contains i = true → env[i]? = some (some e) → σ[i]? ≠ some (some (.ref dx)) := fun i e hi he hs => by
  obtain ⟨v, e1, e2⟩ := o.mu i e hi he
  rw [hs] at e1
  have e3 := Option.some.inj (Option.some.inj e1)
  subst e3
  cases e with
  | lst l =>
    obtain ⟨b, vs, f1, f2, f3, _⟩ := e2
    cases f1
    rw [hd] at f3
    cases f3
  | obj c ns ds =>
    obtain ⟨b, dy, vs, f1, f2, f3, _⟩ := e2
    cases f1
    rw [hd] at f3
    cases f3
  | _ => exact e2.elim
theorem ds_try {body : List Stmt} {fb : M Fl} {h₀ : ExceptHandler} {hds : List ExceptHandler} {hs : List Hd} {pos : Pos} (hcalm : X.calm = true) (hst : X.stack = X.env :: X.outer) (hf : X.env.frame = some X.env.locals) (hN : X.N.Nodup) (tk : Takes X Wx) (hkr : KrT krf)
    (hb : ∀ (Wy : WX) (pn : List (Addr × Obj)) (xe : Value → Shared → Prop), Takes (X.tr pn xe) Wy → PassesOwn (model X.prog X.w) X.A X.env xe → DSs (X.tr pn xe) Wy ms (krf _) body fb) (hh : HdsOkD X ms krf (h₀ :: hds) hs) :
    DS X Wx ms (krf (tx X)) (.Try body (h₀ :: hds) [] [] pos) (sTry fb hs) := fun B W env σ H Dn o h => by
  refine PS.tm (ps_tryG (tb := fun Wy D σ H => ∀ pn xe, Takes (X.tr pn xe) Wy → PassesOwn (model X.prog X.w) X.A X.env xe → tmSs (X.tr pn xe) body D σ H) hst hf hN tk
    (fun Wy pn xe t po => ⟨fun pins s σ H D I z => z pn xe t po pins s I⟩) (hdsG_of hh)) ?_
  intro pn xe t po
  have hb' := hb _ pn xe t po
  unfold DSs at hb'
  rw [tr_tx hcalm] at hb'
  refine hb' B W env σ H Dn o ?_
  unfold sTry at h
  cases q : fb env with
  | stuck =>
    rw [q] at h
    exact h.elim
  | ok fl env1 =>
    rw [q] at h
    cases fl <;> exact h
  | err c ns ds env1 =>
    rw [q] at h
    intro W1 H1 σ1 dx vs n1 o1 z1 z2 z3 z4
    have nb : ¬ Bar B (fun b => W1 b ∧ b ≠ dx) dx := fun z => by
      rcases z with z | z
      · obtain ⟨u, e⟩ := o.wf dx (.inl z)
        rw [z1] at e
        cases e
      · exact z.2 rfl
    have n2 : Nxt W H (fun b => W1 b ∧ b ≠ dx) H1 := ⟨n1.keep, fun b z => n1.new b z.1, n1.live⟩
    have ex : Ext (Bar B W1) H1 (Bar B fun b => W1 b ∧ b ≠ dx) H1 := ⟨fun b u e _ => e, fun b z => by
      rcases z with z | z
      · exact .inl (.inl z)
      · exact .inl (.inr z.1)⟩
    exact catch_wish hcalm hkr n2 (o1.less (o1.noXd z2)) nb z2 z3 (RelL.ext ex ds z4) z1 hh h
end
end DL

set_option Elab.async false
set_option linter.all false
set_option maxRecDepth 100000
set_option maxHeartbeats 4000000
namespace DL
open PySem PySem.Spec L2

/-! ### the caught exception's attributes -/
def XfOk (X : Cx) (cs : List Nat) (f : Nat) : Prop := ∀ c, cs.contains c = true → XfC X.K (He.ga X.K (nm c)) ∧ PySem.W.findIn X.K (.ref (He.ga X.K (nm c))) (nm f) = some none
def vXf (i : Nat) (cs : List Nat) (f : Nat) : M D := fun env => match env[i]? with
  | some (some (.xc c ns ds)) => if cs.contains c = true then M.of (getF f ns ds) env else .stuck
  | _ => .stuck
section
variable {X : Cx} {Wx : WX} {ms : Ms} {a : Addr} {oe : Obj} {pn : List (Addr × Obj)} {x n : Str} {p pos : Pos}
theorem de_xf (i : Nat) (cs : List Nat) (f : Nat) (hc : XfOk X cs f) (hx : nm f = n := by rfl) (hm : ms.contains i = false := by rfl) (hN : X.N[i]? = some x := by rfl) (hv : Vis X.env.scope x := by first | exact Or.inl rfl | exact Or.inr (Or.inl rfl) | exact Or.inr (Or.inr rfl))
    (hd : (x == ("__debug__" : Str)) = false := by decide) (hcd : (x == ("__classdict__" : Str)) = false := by decide) (hb : attributeBase (.Name x p) n X.env (eval (.Name x p) X.env) = eval (.Name x p) X.env := by rfl) : DE (X.suite a ((a, oe) :: pn)) Wx ms (.Attribute (.Name x p) n pos) (vXf i cs f) := by
  subst hx
  intro B W env σ H Q o h
  unfold vXf at h
  cases q : env[i]? with
  | none =>
    rw [q] at h
    exact h.elim
  | some z =>
    cases z with
    | none =>
      rw [q] at h
      exact h.elim
    | some d =>
      rw [q] at h
      cases d with
      | xc c ns ds =>
        by_cases hcs : cs.contains c = true
        · simp only [hcs, if_true] at h
          obtain ⟨z, e1, h3⟩ := of_pos h
          obtain ⟨v, s1, s2⟩ := o.sl i _ hm q
          have s2' := s2
          obtain ⟨a', oe', dx, vs, rfl, e2, e3, e4, e5, e6, e7, e8, e9⟩ := s2
          have e2' : (a', oe') ∈ [(a, oe)] := e2
          obtain ⟨rfl, rfl⟩ := Prod.mk.inj (List.mem_singleton.mp e2')
          obtain ⟨T, hno⟩ := hc c hcs
          obtain ⟨w, l1, l2⟩ := getF_rel e9 e8 e1
          exact PE.tm (pe_xf (cls := oe'.cls) (d := oe'.dict) T hno ⟨rfl, rfl⟩ e5 (pe_var (X := X.suite a' ((a', oe') :: pn)) hN hv hd hcd) hb) ⟨_, s1, rfl, e3, dx, _, w, e4, e6, l1, h3.done o l2⟩
        · have hcs' : cs.contains c = false := Bool.not_eq_true _ ▸ hcs
          simp only [hcs', Bool.false_eq_true, if_false] at h
          exact h.elim
      | _ => exact h.elim
end
end DL

set_option Elab.async false
set_option linter.all false
set_option maxRecDepth 100000
set_option maxHeartbeats 4000000
/-! sets of tuples: set(a tuple), in -/
namespace DL
open PySem PySem.Spec L2 PyProof.Rows
section
variable {P : Program} {w : World} {A : Around} {E : Value → Shared → Prop} {s : Shared}
abbrev bareSet (w : World) : Obj := { cls := .type "set", dict := none, data := .set #[] 0 (.fresh 0 0 (!w.params.followText "set-order")) }
abbrev withSet (w : World) (s : Shared) : Heap := s.heap.push (bareSet w)
/-- set(xs), xs a tuple of tuples of ints -/
theorem call_set_of_tuple {l : Addr} {items : Array Value} (ks : List (Addr × List Int)) {Q : Value → Shared → Prop} (calm : A.handled = none) (tup : s.heap.IsTuple l items) (refs : items.toList = ks.map fun p => Value.ref p.1) (keys : ∀ p ∈ ks, IsT P w s.heap p.2 p.1) (few : ks.length < 64) (room : A.units + 3 < cLine)
    (out : ∀ (h' : Heap) (tk : Nat) L es ep t, SetTR P w h' s.heap.objs.size L es ep t → Got ks ks.length L → (∀ b o, s.heap.get? b = some o → h'.get? b = some o) → Q (.ref s.heap.objs.size) { s with heap := h', toks := tk }) : wpAny (model P w) A (call (.type "set") [.ref l]) Q E s := by
  have count : items.size = ks.length := by
    have q := congrArg List.length refs
    rw [Array.length_toList, List.length_map] at q
    exact q
  obtain ⟨c1, c2, c3⟩ := F.called_set.mro
  have made := F.called_set.made
  have subs := F.called_set.sub
  refine wpAny_call (codeAny_of_tree ?_)
  show wpAny _ _ (callAny (.type "set") _) _ _ _
  refine wpAny_pure ⟨Code.quiet_builtin _ (by decide +kernel), ?_⟩
  refine codeAny_builtin F.entry_type_call ?_
  rw [Around.under_plain (weight_type_call_type "set" [.ref l] []) rfl]
  have k1 := F.called_set.notType
  have k2 := F.called_set.canCreate
  have k3 := F.typeCall_set_1 (.ref l)
  repeat (any_goals (first | assumption | wp_step))
  refine codeAny_mono (code_set_led1 (.ref l) (E := E) (Q₁ := fun obj s₁ => obj = .ref s.heap.objs.size ∧ s₁ = { s with heap := withSet w s }) ⟨rfl, rfl⟩) fun r s₁ hr => ?_
  cases r with
  | error e => exact hr
  | ok fl =>
    cases fl with
    | ret obj =>
      obtain ⟨rfl, rfl⟩ := hr
      have atS : (withSet w s).get? s.heap.objs.size = some (bareSet w) := Heap.get?_push_size _ rfl
      have isS : Shared.TypeIs { s with heap := withSet w s } (.ref s.heap.objs.size) "set" := ⟨_, atS, rfl⟩
      have i1 := F.called_set.init.lookup
      have i2 := F.called_set.init.bind (.ref s.heap.objs.size)
      repeat (any_goals (first | assumption | wp_step))
      refine codeAny_mono (codeAny_call_builtin (R := wants (fun r s₂ => r = .none ∧ ∃ h' tk L es ep t, s₂ = { s with heap := h', toks := tk } ∧ SetTR P w h' s.heap.objs.size L es ep t ∧ Got ks ks.length L ∧ (∀ b o, s.heap.get? b = some o → h'.get? b = some o)) E)
        F.called_set.init.plain F.entry_set_init (check_set_init_1 isS ?_)) fun r₂ s₂ hr₂ => ?_
      · obtain ⟨ot, hot, hct, nt, hdt⟩ := tup
        obtain ⟨ocls, odict, odata, oslots⟩ := ot
        simp only at hct hdt
        subst hct
        subst hdt
        have hot' : (withSet w s).get? l = some { cls := .type "tuple", dict := odict, data := .seq items nt, slots := oslots } := Heap.get?_push_of_some _ hot
        have t1 := F.sub_tuple_set
        have t2 := F.sub_tuple_frozenset
        have t3 : (Value.type "tuple" == Value.type "dict") = false := by decide
        have tupS : (withSet w s).IsTuple l items := ⟨_, hot', rfl, nt, rfl⟩
        unfold Builtin.«set.__init__» noKeywords Builtin.Frozenset.updateFrom
        generalize hPI : pyIter = PI
        wp_walk
        subst hPI
        refine wpAny_pyIter_tuple tupS ?_
        refine wpAny_bind (wpAny_runValue ?_)
        have below : l < s.heap.objs.size := Heap.lt_size hot
        have calm3 : A.in1.in1.in1.handled = none := by simp [calm]
        have sizeS : (withSet w s).objs.size = s.heap.objs.size + 1 := Heap.size_push ..
        have apart : l ≠ (withSet w s).objs.size := by
          rw [sizeS]
          exact Nat.ne_of_lt (Nat.lt_succ_of_lt below)
        have notIn : s.heap.objs.size ∉ [(withSet w s).objs.size, l] := by
          rw [sizeS]
          simp only [List.mem_cons, List.mem_singleton, List.not_mem_nil, or_false, not_or]
          exact ⟨Nat.ne_of_lt (Nat.lt_succ_self _), Nat.ne_of_gt below⟩
        have which : ∀ (i : Nat) (v : Value), items[i]? = some v → ∃ p, ks[i]? = some p ∧ v = .ref p.1 := fun i v hv => by
          have q : items.toList[i]? = some v := by
            rw [Array.getElem?_toList]
            exact hv
          rw [refs, List.getElem?_map] at q
          cases hq : ks[i]? with
          | none =>
            rw [hq] at q
            cases q
          | some p =>
            rw [hq] at q
            exact ⟨p, rfl, (Option.some.inj q).symm⟩
        have nothing : ∀ b, s.heap.objs.size ≤ b → s.heap.get? b = none := fun b hb => by
          cases q : s.heap.get? b with
          | none => rfl
          | some o => exact absurd (Nat.lt_of_lt_of_le (Heap.lt_size q) hb) (Nat.lt_irrefl _)
        refine set_update_tups ((Walks.tuple calm3 _ l apart items).toS) s.heap.objs.size notIn ks count few which s.heap keys (nothing _ (Nat.le_refl _)) (fun b hb => nothing b ?_) room (items.size - 0) 0 _ (by omega) (Nat.zero_le _)
          ⟨⟨_, Heap.get?_push_size _ rfl, rfl, rfl⟩, (tupS.push _)⟩ (fun b o e => Heap.get?_push_of_some _ (Heap.get?_push_of_some _ e)) ?start ?ends
        · rw [List.mem_singleton.mp hb, sizeS]
          exact Nat.le_succ _
        case start =>
          have atS2 := Heap.get?_push_of_some { cls := .type "tuple_iterator", data := .fields #[.ref l, .int 0 0] } atS
          exact ⟨[], #[], 0, _, setTR_fresh atS2, Got.zero ks⟩
        case ends =>
          intro s' L es ep t moved isSet got keep
          obtain ⟨h', g2, d2, tk2, os2⟩ := s'
          have eg : g2 = s.gens := moved.gens
          have ed : d2 = s.drawn := moved.drawn
          have eo : os2 = s.os := moved.os
          subst eg
          subst ed
          subst eo
          show wpAny _ _ _ _ _ _
          refine wpAny_pure ?_
          show wpAny _ _ (ret Value.none) _ _ _
          rw [count] at got
          exact wpAny_pure ⟨rfl, h', tk2, L, es, ep, t, rfl, isSet, got, keep⟩
      · cases r₂ with
        | error e => exact hr₂
        | ok fl₂ =>
          cases fl₂ with
          | ret r =>
            obtain ⟨rfl, h', tk2, L, es, ep, t, rfl, isSet, got, keep⟩ := hr₂
            repeat (any_goals (first | assumption | wp_step))
            exact out _ _ _ _ _ _ isSet got keep
          | _ => exact hr₂.elim
    | _ => exact hr.elim
end
end DL

set_option Elab.async false
set_option linter.all false
set_option maxRecDepth 100000
set_option maxHeartbeats 4000000
/-! x in a set of tuples -/
namespace DL
open PySem PySem.Spec L2 PyProof.Rows
section
variable {P : Program} {w : World} {A : Around} {E : Value → Shared → Prop} {s : Shared} {a : Addr} {L : List (Addr × List Int)} {es : Array (Int × Value)} {ep : Nat} {t : SetTable}
abbrev begin0 (t : SetTable) (z : Int) : SetTable.Probe := runAt t.mask (SetTable.bits z % (t.mask + 1)) (SetTable.bits z)
abbrev hashOf (es : Array (Int × Value)) : Nat → Int := fun i => (es[i]?.map (·.1)).getD 0
theorem no_dummy (m : Nat) : ∀ (n : Nat) (p : SetTable.Probe), p.dummy = none → (nth m p n).dummy = none := by
  intro n
  induction n with
  | zero => exact fun p h => h
  | succ n ih =>
    refine fun p h => ih (adv m p) ?_
    unfold adv
    split <;> exact h
/-- the search as finding asks for it, from the c-th step on -/
theorem find_from (R : SetTR P w s.heap a L es ep t) {x : Addr} {k : List Int} (hx : IsT P w s.heap k x) (hu : A.units < cLine) {last : Nat} (small : last < 10 * SetTable.turns t.mask) (stop : way t.mask (thash P w k) last ∉ t.place.toList)
    (full : ∀ c, c < last → way t.mask (thash P w k) c ∈ t.place.toList) {Q : SetFound → Shared → Prop} (yes : k ∈ L.map (·.2) → ∀ i, Q (.there (some i)) s) (no : k ∉ L.map (·.2) → Q (.free (way t.mask (thash P w k) last) false) s) :
    ∀ (f c : Nat) (stand : Option SetTable.Probe), stand.getD (t.probeStart (thash P w k)) = nth t.mask (begin0 t (thash P w k)) c → c ≤ last → last - c < f →
      (∀ (i : Nat) p, L[i]? = some p → p.2 = k → ∃ c', c ≤ c' ∧ c' < last ∧ t.place.toList[i]? = some (way t.mask (thash P w k) c')) → wpAny (model P w) A (setSearchFrom a (.ref x) (thash P w k) false f stand) Q E s
  | 0, c, stand, _, _, hf, _ => absurd hf (Nat.not_lt_zero _)
  | f + 1, c, stand, at_, le, hf, ahead => by
    obtain ⟨o, ho, exact_, hd⟩ := R.ob
    rw [setSearchFrom_succ]
    refine wpAny_bind (wpAny_setState_of ho hd R.fits ?_)
    dsimp only
    refine wp_if_neg R.gw ?_
    try refine wpAny_bind (wpAny_pure ?_)
    generalize hz : thash P w k = z at *
    have nd := no_dummy t.mask c (begin0 t z) rfl
    have shift : ∀ q, nth t.mask (nth t.mask (begin0 t z) c) q = nth t.mask (begin0 t z) (c + q) := fun q => (nth_add t.mask c _ q).symm
    have step : ∀ q, (nth t.mask (nth t.mask (begin0 t z) c) q).j = way t.mask z (c + q) := fun q => congrArg SetTable.Probe.j (shift q)
    have lastIs : c + (last - c) = last := by omega
    have probe := go_spec t R.tab.ris R.tab.dm (hashOf es) z (10 * SetTable.turns t.mask) (last - c) _ nd (by omega) (fun q hq => by
      rw [step]
      exact full (c + q) (by omega)) (by
      rw [step, lastIs]
      exact stop)
    have hashAt : ∀ (i : Nat) p, L[i]? = some p → hashOf es i = thash P w p.2 := fun i p hp => by
      show (es[i]?.map (·.1)).getD 0 = _
      rw [R.entry hp] <;> rfl
    rcases probe with ⟨q, i, hq, hi, same, before, met⟩ | ⟨before, met⟩
    · have met' : t.probe (hashOf es) z (stand.getD (t.probeStart z)) = some (.candidate (way t.mask z (c + q)) i (nth t.mask (begin0 t z) (c + (q + 1)))) := by
        rw [at_, ← step, ← shift]
        exact met
      rw [met']
      dsimp only
      rw [step] at hi
      have il : i < L.length := by
        have l1 : i < t.place.toList.length := (List.getElem?_eq_some_iff.mp hi).1
        have l2 := R.tab.sz
        rw [List.length_map] at l2
        rw [Array.length_toList] at l1
        omega
      have hp : L[i]? = some L[i] := List.getElem?_eq_getElem il
      generalize hpe : L[i] = p at hp
      have mem : p ∈ L := List.mem_of_getElem? hp
      have isTup := R.tup p mem
      have go : wpAny (model P w) A (searchRest a (.ref x) z false f es t (way t.mask z (c + q)) i (nth t.mask (begin0 t z) (c + (q + 1)))) Q E s := by
        unfold searchRest
        rw [R.entry hp]
        dsimp only
        refine wpAny_bind (wpAny_holding (wpAny_eqBool_tuple hu isTup hx ?_))
        refine wpAny_bind (wpAny_setState_of ho hd R.fits ?_)
        dsimp only
        refine wp_if_neg (by simp) ?_
        try refine wpAny_bind (wpAny_pure ?_)
        rw [sameMem]
        dsimp only
        have live : t.slot (way t.mask z (c + q)) = .live i := slot_live R.tab.ris hi
        simp only [if_true, live, R.entry hp]
        refine wpAny_bind (wpAny_isSame_ref_self (wpAny_bind (wpAny_pure ?_)))
        simp only [if_true]
        by_cases eq : p.2 = k
        · refine wp_if_pos (by simp [eq]) ?_
          exact wpAny_pure (yes (List.mem_map.mpr ⟨p, mem, eq⟩) i)
        · refine wp_if_neg (by simp [eq]) ?_
          rw [← hz]
          refine find_from R hx hu small (by rw [hz]; exact stop) (fun c hc => by rw [hz]; exact full c hc) yes (fun nk => by rw [hz]; exact no nk) f (c + (q + 1)) _ (by rw [hz] <;> rfl) (by omega) (by omega) fun i0 p0 h0 hk0 => ?_
          obtain ⟨c', a1, a2, a3⟩ := ahead i0 p0 h0 hk0
          rw [hz]
          refine ⟨c', ?_, a2, a3⟩
          rcases Nat.lt_trichotomy c' (c + q) with y | y | y
          · exfalso
            refine before (c' - c) i0 (by omega) ?_ ?_
            · rw [step, show c + (c' - c) = c' by omega]
              exact a3
            · rw [hashAt i0 p0 h0, hk0, hz]
          · exfalso
            rw [y] at a3
            have s0 := slot_live R.tab.ris a3
            rw [live] at s0
            injection s0 with s0
            rw [← s0, hp] at h0
            have e0 := Option.some.inj h0
            rw [e0] at eq
            exact eq hk0
          · omega
      by_cases hl : t.led = true
      · refine wp_if_neg (by simp [hl]) ?_
        try refine wpAny_bind (wpAny_pure ?_)
        exact go
      · refine wp_if_pos (by simp [hl]) ?_
        refine wpAny_bind (seen_tup hx (fun y hy => ?_) ?_)
        · obtain ⟨e, he, ee⟩ := List.mem_map.mp hy
          have e1 : e ∈ es ∧ e.1 = z := by simpa using he
          have e2 : e ∈ es.toList := by simpa using e1.1
          rw [R.rows] at e2
          obtain ⟨p2, hp2, e3⟩ := List.mem_map.mp e2
          exact ⟨p2.2, p2.1, by rw [← ee, ← e3], R.tup p2 hp2⟩
        · refine wp_if_neg (by decide) ?_
          try refine wpAny_bind (wpAny_pure ?_)
          exact go
    · have met' : t.probe (hashOf es) z (stand.getD (t.probeStart z)) = some (.empty (way t.mask z last) none) := by
        have e2 : way t.mask z last = (nth t.mask (nth t.mask (begin0 t z) c) (last - c)).j := by
          rw [step, lastIs]
        rw [at_, e2]
        exact met
      rw [met']
      dsimp only
      refine wpAny_pure (no fun hm => ?_)
      obtain ⟨p0, h0, hk0⟩ := List.mem_map.mp hm
      obtain ⟨i0, hi0, e0⟩ := List.getElem_of_mem h0
      have h00 : L[i0]? = some p0 := by rw [List.getElem?_eq_getElem hi0, e0]
      obtain ⟨c', a1, a2, a3⟩ := ahead i0 p0 h00 hk0
      refine before (c' - c) i0 (by omega) ?_ ?_
      · rw [step, show c + (c' - c) = c' by omega]
        exact a3
      · rw [hashAt i0 p0 h00, hk0, hz]
theorem find_at (R : SetTR P w s.heap a L es ep t) {x : Addr} {k : List Int} (hx : IsT P w s.heap k x) (hu : A.units < cLine) {Q : Option Nat → Shared → Prop} (hQ : ∀ r : Option Nat, r.isSome = decide (k ∈ L.map (·.2)) → Q r s) :
    wpAny (model P w) A (setFind a (.ref x) (thash P w k)) Q E s := by
  obtain ⟨o, ho, _, hd⟩ := R.ob
  have room := R.room
  unfold setFind
  rw [show (100000 : Nat) = 99999 + 1 from rfl]
  unfold setFindIn
  refine wpAny_bind (wpAny_setState_of ho hd R.fits ?_)
  dsimp only
  refine wp_if_neg (by simp [byScan, Value.scannable]) ?_
  try refine wpAny_bind (wpAny_pure ?_)
  have below : L.length < t.mask + 1 := by omega
  obtain ⟨K, f1, f2, f3⟩ := R.tab.first (by rw [List.length_map]; omega) (thash P w k)
  have big : K < 100000 := by
    have turns : 10 * SetTable.turns t.mask ≤ 1420 := by
      unfold SetTable.turns
      rcases R.tab.mok with e | e | e <;> omega
    omega
  refine wpAny_bind ?_
  unfold setSearch
  refine find_from R hx hu f1 f2 f3 (fun hm i => ?_) (fun hn => ?_) 100000 0 none rfl (Nat.zero_le _) (by omega) fun i p hp hk => ?_
  · exact wpAny_pure (hQ (some i) (by rw [decide_eq_true hm] <;> rfl))
  · exact wpAny_pure (hQ none (by rw [decide_eq_false hn] <;> rfl))
  · have hi : (L.map fun p => thash P w p.2)[i]? = some (thash P w k) := by
      rw [List.getElem?_map, hp, ← hk] <;> rfl
    have il : i < t.place.toList.length := by
      have l1 : i < L.length := (List.getElem?_eq_some_iff.mp hp).1
      have l2 := R.tab.sz
      rw [List.length_map] at l2
      rw [Array.length_toList]
      omega
    have hj := List.getElem?_eq_getElem il
    obtain ⟨c, hc, e⟩ := R.tab.before f2 hi hj
    exact ⟨c, Nat.zero_le _, hc, by rw [hj, e]⟩
theorem has_at (R : SetTR P w s.heap a L es ep t) {x : Addr} {k : List Int} (hx : IsT P w s.heap k x) (hu : A.units < cLine) {Q : Bool → Shared → Prop} (hQ : ∀ tk, Q (decide (k ∈ L.map (·.2))) { s with toks := tk }) : wpAny (model P w) A (setContains a (.ref x)) Q E s := by
  unfold setContains
  refine wpAny_holding (wpAny_bind (wpAny_pyHash_tuple hu hx ?_))
  refine wpAny_bind (find_at (s := { s with toks := s.toks + (k.length + 1) }) R hx hu fun r hr => ?_)
  refine wpAny_pure ?_
  rw [hr]
  exact hQ _
theorem isSet_of (R : SetTR P w s.heap a L es ep t) : s.TypeIs (.ref a) "set" := by
  obtain ⟨o, ho, ex, _⟩ := R.ob
  exact ⟨o, ho, ex.1⟩
theorem contains_set (R : SetTR P w s.heap a L es ep t) {x : Addr} {k : List Int} (hx : IsT P w s.heap k x) (hu : A.units + 64 < cLine) {Q : Bool → Shared → Prop} (hQ : ∀ tk, Q (decide (k ∈ L.map (·.2))) { s with toks := tk }) : wpAny (model P w) A (contains (.ref a) (.ref x)) Q E s := by
  have isS := isSet_of R
  unfold contains
  try with_reducible refine wpAny_holding ?_
  refine wpAny_bind (wpAny_specialOf isS F.slot_set_contains.lookup ?_)
  show wpAny _ _ (if (some (Value.builtin "set.__contains__") == some Value.none) = true then _ else _) _ E s
  rw [if_neg (by rw [beq_builtin_none]; exact Bool.false_ne_true)]
  refine wpAny_bind (wpAny_callSpecialUnlessNone?_slot (name := Str.ofString "__contains__") isS F.slot_set_contains ?_)
  refine wpAny_call_entry F.slot_set_contains isS entry_set_contains ?_ (F.args_set_contains_2 _ _)
  unfold Builtin.«frozenset.__contains__» Builtin.Frozenset.oneOther
  simp only [List.isEmpty_nil, bind_assoc]
  unfold Builtin.Frozenset.addrOf Builtin.Frozenset.withSetAsKey
  refine wpAny_bind (wpAny_pure ?_)
  try dsimp only
  refine wpAny_bind (wpAny_pure ?_)
  try dsimp only
  refine wpAny_bind (wpAny_tryCatch ?_)
  refine has_at R hx ?_ fun tk => ?_
  · have e : A.in1.units = A.units + 1 := rfl
    omega
  · exact wpAny_pure ⟨_, rfl, wpAny_truthy_bool (hQ tk)⟩
end
end DL

set_option Elab.async false
set_option linter.all false
set_option maxRecDepth 100000
set_option maxHeartbeats 4000000
/-! order: ints, tuples of ints, tuples of tuples of ints ..; sorted -/
namespace DL
open PySem PySem.Spec L2

/-- n levels of tuples over ints -/
def isLv : Nat → D → Bool
  | 0, .int _ => true
  | n + 1, .tup l => l.all (isLv n)
  | _, _ => false
def eqLv : Nat → D → D → Bool
  | 0, .int i, .int j => i == j
  | n + 1, .tup l, .tup m => allF (eqLv n) l m
  | _, _, _ => false
def lexF (e lt : D → D → Bool) : List D → List D → Bool
  | [], [] => false
  | [], _ :: _ => true
  | _ :: _, [] => false
  | x :: xs, y :: ys => if e x y = true then lexF e lt xs ys else lt x y
def ltLv : Nat → D → D → Bool
  | 0, .int i, .int j => decide (i < j)
  | n + 1, .tup l, .tup m => lexF (eqLv n) (ltLv n) l m
  | _, _, _ => false
theorem lv0 {d : D} (h : isLv 0 d = true) : ∃ i, d = .int i := by
  cases d with
  | int i => exact ⟨i, rfl⟩
  | _ => cases h
theorem lvS {n : Nat} {d : D} (h : isLv (n + 1) d = true) : ∃ l, d = .tup l ∧ l.all (isLv n) = true := by
  cases d with
  | tup l => exact ⟨l, rfl, h⟩
  | _ => cases h
theorem all_cons {p : D → Bool} {d : D} {l : List D} (h : (d :: l).all p = true) : p d = true ∧ l.all p = true := Bool.and_eq_true_iff.mp h
/-- what the order's proofs lean on -/
structure Ord1 (p : D → Bool) (e lt : D → D → Bool) : Prop where
  eq : ∀ x y, p x = true → p y = true → (e x y = true ↔ x = y)
  irr : ∀ x, p x = true → lt x x = false
  asym : ∀ x y, p x = true → p y = true → lt x y = true → lt y x = false
  tri : ∀ x y, p x = true → p y = true → lt x y = false → lt y x = false → x = y
  tr : ∀ x y z, p x = true → p y = true → p z = true → lt x y = true → lt y z = true → lt x z = true
section
variable {p : D → Bool} {e lt : D → D → Bool}
theorem allF_eq (O : Ord1 p e lt) : ∀ l m : List D, l.all p = true → m.all p = true → (allF e l m = true ↔ l = m)
  | [], [], _, _ => ⟨fun _ => rfl, fun _ => rfl⟩
  | [], _ :: _, _, _ => ⟨(fun h => by cases h), (fun h => by cases h)⟩
  | _ :: _, [], _, _ => ⟨(fun h => by cases h), (fun h => by cases h)⟩
  | x :: l, y :: m, h1, h2 => by
    obtain ⟨a1, a2⟩ := all_cons h1
    obtain ⟨b1, b2⟩ := all_cons h2
    show (e x y && allF e l m) = true ↔ _
    rw [Bool.and_eq_true_iff, O.eq x y a1 b1, allF_eq O l m a2 b2]
    exact ⟨fun ⟨z1, z2⟩ => by rw [z1, z2], fun z => List.cons.inj z⟩
theorem lex_cons {x y : D} {l m : List D} : lexF e lt (x :: l) (y :: m) = if e x y = true then lexF e lt l m else lt x y := rfl
theorem lex_eq (O : Ord1 p e lt) {x : D} {l m : List D} (h : p x = true) : lexF e lt (x :: l) (x :: m) = lexF e lt l m := by rw [lex_cons, if_pos ((O.eq x x h h).mpr rfl)]
theorem lex_ne (O : Ord1 p e lt) {x y : D} {l m : List D} (h : p x = true) (h' : p y = true) (n : x ≠ y) : lexF e lt (x :: l) (y :: m) = lt x y := by rw [lex_cons, if_neg (fun z => n ((O.eq x y h h').mp z))]
theorem lex_irr (O : Ord1 p e lt) : ∀ l : List D, l.all p = true → lexF e lt l l = false
  | [], _ => rfl
  | x :: l, h => by
    obtain ⟨a1, a2⟩ := all_cons h
    rw [lex_eq O a1]
    exact lex_irr O l a2
theorem lex_asym (O : Ord1 p e lt) : ∀ l m : List D, l.all p = true → m.all p = true → lexF e lt l m = true → lexF e lt m l = false
  | [], [], _, _, h => by cases h
  | [], _ :: _, _, _, _ => rfl
  | _ :: _, [], _, _, h => by cases h
  | x :: l, y :: m, h1, h2, h => by
    obtain ⟨a1, a2⟩ := all_cons h1
    obtain ⟨b1, b2⟩ := all_cons h2
    by_cases q : x = y
    · subst q
      rw [lex_eq O a1] at h ⊢
      exact lex_asym O l m a2 b2 h
    · rw [lex_ne O a1 b1 q] at h
      rw [lex_ne O b1 a1 (Ne.symm q)]
      exact O.asym x y a1 b1 h
theorem lex_tri (O : Ord1 p e lt) : ∀ l m : List D, l.all p = true → m.all p = true → lexF e lt l m = false → lexF e lt m l = false → l = m
  | [], [], _, _, _, _ => rfl
  | [], _ :: _, _, _, h, _ => by cases h
  | _ :: _, [], _, _, _, h => by cases h
  | x :: l, y :: m, h1, h2, h, h' => by
    obtain ⟨a1, a2⟩ := all_cons h1
    obtain ⟨b1, b2⟩ := all_cons h2
    by_cases q : x = y
    · subst q
      rw [lex_eq O a1] at h h'
      rw [lex_tri O l m a2 b2 h h']
    · rw [lex_ne O a1 b1 q] at h
      rw [lex_ne O b1 a1 (Ne.symm q)] at h'
      exact absurd (O.tri x y a1 b1 h h') q
theorem lex_tr (O : Ord1 p e lt) : ∀ l m k : List D, l.all p = true → m.all p = true → k.all p = true → lexF e lt l m = true → lexF e lt m k = true → lexF e lt l k = true
  | [], [], _, _, _, _, h, _ => by cases h
  | _ :: _, [], _, _, _, _, h, _ => by cases h
  | _, _ :: _, [], _, _, _, _, h => by cases h
  | [], _ :: _, _ :: _, _, _, _, _, _ => rfl
  | x :: l, y :: m, z :: k, h1, h2, h3, h, h' => by
    obtain ⟨a1, a2⟩ := all_cons h1
    obtain ⟨b1, b2⟩ := all_cons h2
    obtain ⟨c1, c2⟩ := all_cons h3
    by_cases q : x = y
    · subst q
      by_cases r : x = z
      · subst r
        rw [lex_eq O a1] at h h' ⊢
        exact lex_tr O l m k a2 b2 c2 h h'
      · rw [lex_ne O a1 c1 r] at h' ⊢
        exact h'
    · rw [lex_ne O a1 b1 q] at h
      by_cases r : y = z
      · subst r
        rw [lex_ne O a1 b1 q]
        exact h
      · rw [lex_ne O b1 c1 r] at h'
        have t := O.tr x y z a1 b1 c1 h h'
        have n : x ≠ z := fun u => by
          subst u
          have := O.asym x y a1 b1 h
          rw [h'] at this
          cases this
        rw [lex_ne O a1 c1 n]
        exact t
end
theorem ordLv : ∀ n : Nat, Ord1 (isLv n) (eqLv n) (ltLv n)
  | 0 => by
    refine ⟨fun x y a b => ?_, fun x a => ?_, fun x y a b h => ?_, fun x y a b h h' => ?_, fun x y z a b c h h' => ?_⟩
    · obtain ⟨i, rfl⟩ := lv0 a
      obtain ⟨j, rfl⟩ := lv0 b
      show (i == j) = true ↔ _
      rw [beq_iff_eq]
      exact ⟨fun z => by rw [z], fun z => D.int.inj z⟩
    · obtain ⟨i, rfl⟩ := lv0 a
      exact decide_eq_false (p := i < i) (by omega)
    · obtain ⟨i, rfl⟩ := lv0 a
      obtain ⟨j, rfl⟩ := lv0 b
      have := of_decide_eq_true (p := i < j) h
      exact decide_eq_false (p := j < i) (by omega)
    · obtain ⟨i, rfl⟩ := lv0 a
      obtain ⟨j, rfl⟩ := lv0 b
      have := of_decide_eq_false (p := i < j) h
      have := of_decide_eq_false (p := j < i) h'
      have e : i = j := by omega
      rw [e]
    · obtain ⟨i, rfl⟩ := lv0 a
      obtain ⟨j, rfl⟩ := lv0 b
      obtain ⟨k, rfl⟩ := lv0 c
      have := of_decide_eq_true (p := i < j) h
      have := of_decide_eq_true (p := j < k) h'
      exact decide_eq_true (p := i < k) (by omega)
  | n + 1 => by
    have O := ordLv n
    refine ⟨fun x y a b => ?_, fun x a => ?_, fun x y a b h => ?_, fun x y a b h h' => ?_, fun x y z a b c h h' => ?_⟩
    · obtain ⟨l, rfl, hl⟩ := lvS a
      obtain ⟨m, rfl, hm⟩ := lvS b
      show allF (eqLv n) l m = true ↔ _
      rw [allF_eq O l m hl hm]
      exact ⟨fun z => by rw [z], fun z => D.tup.inj z⟩
    · obtain ⟨l, rfl, hl⟩ := lvS a
      exact lex_irr O l hl
    · obtain ⟨l, rfl, hl⟩ := lvS a
      obtain ⟨m, rfl, hm⟩ := lvS b
      exact lex_asym O l m hl hm h
    · obtain ⟨l, rfl, hl⟩ := lvS a
      obtain ⟨m, rfl, hm⟩ := lvS b
      rw [lex_tri O l m hl hm h h']
    · obtain ⟨l, rfl, hl⟩ := lvS a
      obtain ⟨m, rfl, hm⟩ := lvS b
      obtain ⟨k, rfl, hk⟩ := lvS c
      exact lex_tr O l m k hl hm hk h h'

/-! ### sorting lists of data -/
def insD (lt : D → D → Bool) (x : D) : List D → List D
  | [] => [x]
  | y :: l => if lt y x = true then y :: insD lt x l else x :: y :: l
def isort (lt : D → D → Bool) : List D → List D
  | [] => []
  | x :: l => insD lt x (isort lt l)
theorem insD_perm (lt : D → D → Bool) (x : D) : ∀ l : List D, (insD lt x l).Perm (x :: l)
  | [] => List.Perm.refl _
  | y :: l => by
    unfold insD
    split
    · exact ((insD_perm lt x l).cons y).trans (List.Perm.swap x y l)
    · exact List.Perm.refl _
theorem isort_perm (lt : D → D → Bool) : ∀ l : List D, (isort lt l).Perm l
  | [] => List.Perm.refl _
  | x :: l => (insD_perm lt x _).trans ((isort_perm lt l).cons x)
section
variable {p : D → Bool} {e lt : D → D → Bool}
theorem ntr (O : Ord1 p e lt) {x y z : D} (a : p x = true) (b : p y = true) (c : p z = true) (h : lt y x = false) (h' : lt z y = false) : lt z x = false := by
  cases q : lt z x with
  | false => rfl
  | true =>
    exfalso
    by_cases r : lt x y = true
    · rw [O.tr z x y c a b q r] at h'
      cases h'
    · have e := O.tri x y a b (by cases s : lt x y with | false => rfl | true => exact absurd s r) h
      rw [e] at q
      rw [q] at h'
      cases h'
theorem insD_sorted (O : Ord1 p e lt) {x : D} (hx : p x = true) : ∀ l : List D, l.all p = true → l.Pairwise (fun a b => lt b a = false) → (insD lt x l).Pairwise fun a b => lt b a = false
  | [], _, _ => List.pairwise_singleton _ _
  | y :: l, h, s => by
    obtain ⟨a1, a2⟩ := all_cons h
    obtain ⟨s1, s2⟩ := List.pairwise_cons.mp s
    unfold insD
    split
    · rename_i hyx
      refine List.pairwise_cons.mpr ⟨fun z hz => ?_, insD_sorted O hx l a2 s2⟩
      rcases List.mem_cons.mp ((insD_perm lt x l).mem_iff.mp hz) with q | q
      · rw [q]
        exact O.asym y x a1 hx hyx
      · exact s1 z q
    · rename_i hyx
      have hyx' : lt y x = false := by cases q : lt y x with | false => rfl | true => exact absurd q hyx
      refine List.pairwise_cons.mpr ⟨fun z hz => ?_, s⟩
      rcases List.mem_cons.mp hz with q | q
      · rw [q]
        exact hyx'
      · exact ntr O hx a1 (List.all_eq_true.mp a2 z q) hyx' (s1 z q)
theorem all_perm {l m : List D} (h : l.Perm m) (a : m.all p = true) : l.all p = true := List.all_eq_true.mpr fun x hx => List.all_eq_true.mp a x (h.mem_iff.mp hx)
theorem isort_sorted (O : Ord1 p e lt) : ∀ l : List D, l.all p = true → (isort lt l).Pairwise fun a b => lt b a = false
  | [], _ => List.Pairwise.nil
  | x :: l, h => by
    obtain ⟨a1, a2⟩ := all_cons h
    exact insD_sorted O a1 _ (all_perm (isort_perm lt l) a2) (isort_sorted O l a2)
theorem sorted_uniq (O : Ord1 p e lt) : ∀ l m : List D, l.all p = true → l.Perm m → l.Pairwise (fun a b => lt b a = false) → m.Pairwise (fun a b => lt b a = false) → l = m
  | [], m, _, h, _, _ => h.nil_eq
  | x :: l, [], _, h, _, _ => absurd h.symm.nil_eq (by simp)
  | x :: l, y :: m, a, h, s, s' => by
    have a' : (y :: m).all p = true := all_perm h.symm a
    obtain ⟨a1, a2⟩ := all_cons a
    obtain ⟨b1, b2⟩ := all_cons a'
    obtain ⟨s1, s2⟩ := List.pairwise_cons.mp s
    obtain ⟨t1, t2⟩ := List.pairwise_cons.mp s'
    have exy : x = y := by
      rcases List.mem_cons.mp (h.mem_iff.mp List.mem_cons_self) with q | q
      · exact q
      · rcases List.mem_cons.mp (h.mem_iff.mpr List.mem_cons_self) with r | r
        · exact r.symm
        · exact O.tri x y a1 b1 (t1 x q) (s1 y r)
    subst exy
    rw [sorted_uniq O l m a2 (List.Perm.cons_inv h) s2 t2]
theorem isort_uniq (O : Ord1 p e lt) {l m : List D} (a : m.all p = true) (h : l.Perm m) (s : l.Pairwise fun a b => lt b a = false) : l = isort lt m :=
  sorted_uniq O l _ (all_perm h a) (h.trans (isort_perm lt m).symm) s (isort_sorted O m a)
end
end DL

set_option Elab.async false
set_option linter.all false
set_option maxRecDepth 100000
set_option maxHeartbeats 4000000
/-! sorted, on the heap -/
namespace DL
open PySem PySem.Spec L2 PySem.SeqAt Ob
def pick (l : List D) (j : Nat) : D := l[j]?.getD .non
theorem pick_at {l : List D} {j : Nat} (h : j < l.length) : pick l j = l[j] := by
  unfold pick
  rw [List.getElem?_eq_getElem h]
  rfl
def All2 (R : D → Value → Prop) : List D → List Value → Prop
  | [], [] => True
  | d :: ds, v :: vs => R d v ∧ All2 R ds vs
  | _, _ => False
/-- the value stands for a datum of level n -/
def Rv (h : Heap) : Nat → D → Value → Prop
  | 0, .int i, v => ∃ t, v = .int i t
  | n + 1, .tup l, v => ∃ a items, v = .ref a ∧ h.IsTuple a items ∧ All2 (Rv h n) l items.toList
  | _, _, _ => False
theorem All2.len {R : D → Value → Prop} : ∀ {ds : List D} {vs : List Value}, All2 R ds vs → ds.length = vs.length
  | [], [], _ => rfl
  | [], _ :: _, h => h.elim
  | _ :: _, [], h => h.elim
  | _ :: _, _ :: _, h => congrArg Nat.succ (All2.len h.2)
theorem All2.at {R : D → Value → Prop} : ∀ {ds : List D} {vs : List Value} {j : Nat} (h1 : j < ds.length) (h2 : j < vs.length), All2 R ds vs → R ds[j] vs[j]
  | [], _, _, h, _, _ => absurd h (Nat.not_lt_zero _)
  | _ :: _, [], _, _, h, _ => absurd h (Nat.not_lt_zero _)
  | _ :: _, _ :: _, 0, _, _, r => r.1
  | _ :: ds, _ :: vs, j + 1, h1, h2, r => All2.at (ds := ds) (vs := vs) (Nat.lt_of_succ_lt_succ h1) (Nat.lt_of_succ_lt_succ h2) r.2
theorem rv0 {h : Heap} {d : D} {v : Value} (r : Rv h 0 d v) : ∃ i t, d = .int i ∧ v = .int i t := by
  cases d with
  | int i =>
    obtain ⟨t, e⟩ := r
    exact ⟨i, t, rfl, e⟩
  | _ => exact r.elim
theorem rvS {h : Heap} {n : Nat} {d : D} {v : Value} (r : Rv h (n + 1) d v) : ∃ l a items, d = .tup l ∧ v = .ref a ∧ h.IsTuple a items ∧ All2 (Rv h n) l items.toList := by
  cases d with
  | tup l =>
    obtain ⟨a, items, e1, e2, e3⟩ := r
    exact ⟨l, a, items, rfl, e1, e2, e3⟩
  | _ => exact r.elim
theorem all2_inj {R : D → Value → Prop} (ih : ∀ d e v, R d v → R e v → d = e) : ∀ {l m : List D} {vs : List Value}, All2 R l vs → All2 R m vs → l = m
  | [], [], _, _, _ => rfl
  | [], _ :: _, [], _, h => h.elim
  | [], _ :: _, _ :: _, h, _ => h.elim
  | _ :: _, [], [], h, _ => h.elim
  | _ :: _, [], _ :: _, _, h => h.elim
  | _ :: _, _ :: _, [], h, _ => h.elim
  | d :: l, e :: m, v :: vs, h, h' => by rw [ih d e v h.1 h'.1, all2_inj ih h.2 h'.2]
theorem isTuple_one {h : Heap} {a : Addr} {xs ys : Array Value} (x : h.IsTuple a xs) (y : h.IsTuple a ys) : xs = ys := by
  obtain ⟨o, e1, _, n, e2⟩ := x
  obtain ⟨o', f1, _, n', f2⟩ := y
  rw [e1] at f1
  have e := Option.some.inj f1
  subst e
  rw [e2] at f2
  injection f2
theorem rv_inj {h : Heap} : ∀ (n : Nat) (d e : D) (v : Value), Rv h n d v → Rv h n e v → d = e
  | 0, d, e, v, r, r' => by
    obtain ⟨i, t, rfl, rfl⟩ := rv0 r
    obtain ⟨j, u, rfl, q⟩ := rv0 r'
    injection q with q
    rw [q]
  | n + 1, d, e, v, r, r' => by
    obtain ⟨l, a, xs, rfl, rfl, h1, h2⟩ := rvS r
    obtain ⟨m, b, ys, rfl, q, h3, h4⟩ := rvS r'
    injection q with q
    subst q
    have e := isTuple_one h1 h3
    subst e
    rw [all2_inj (rv_inj n) h2 h4]
theorem rv_lv {h : Heap} : ∀ (n : Nat) (d : D) (v : Value), Rv h n d v → isLv n d = true
  | 0, d, v, r => by
    obtain ⟨i, t, rfl, rfl⟩ := rv0 r
    rfl
  | n + 1, d, v, r => by
    obtain ⟨l, a, xs, rfl, rfl, h1, h2⟩ := rvS r
    have all : ∀ (l : List D) (vs : List Value), All2 (Rv h n) l vs → l.all (isLv n) = true := by
      intro l
      induction l with
      | nil => exact fun _ _ => rfl
      | cons d l ih =>
        intro vs r
        cases vs with
        | nil => exact r.elim
        | cons v vs =>
          rw [List.all_cons, rv_lv n d v r.1, ih vs r.2]
          rfl
    exact all l _ h2
theorem rv_keep {h h' : Heap} (k : ∀ a items, h.IsTuple a items → h'.IsTuple a items) : ∀ (n : Nat) (d : D) (v : Value), Rv h n d v → Rv h' n d v
  | 0, d, v, r => by
    obtain ⟨i, t, rfl, rfl⟩ := rv0 r
    exact ⟨t, rfl⟩
  | n + 1, d, v, r => by
    obtain ⟨l, a, xs, rfl, rfl, h1, h2⟩ := rvS r
    have all : ∀ (l : List D) (vs : List Value), All2 (Rv h n) l vs → All2 (Rv h' n) l vs := by
      intro l
      induction l with
      | nil => exact fun vs r => by cases vs with | nil => trivial | cons _ _ => exact r.elim
      | cons d l ih =>
        intro vs r
        cases vs with
        | nil => exact r.elim
        | cons v vs => exact ⟨rv_keep k n d v r.1, ih vs r.2⟩
    exact ⟨a, xs, rfl, k a xs h1, all l _ h2⟩
/-- equality of tuples, place by place -/
theorem range_all (e : D → D → Bool) : ∀ (l m : List D) (f : Nat → Bool), (∀ j (h1 : j < l.length) (h2 : j < m.length), f j = e l[j] m[j]) → ((List.range (min l.length m.length)).all f && l.length == m.length) = allF e l m
  | [], [], f, _ => rfl
  | [], _ :: m, f, _ => by simp [allF]
  | _ :: l, [], f, _ => by simp [allF]
  | x :: l, y :: m, f, h => by
    have ih := range_all e l m (fun j => f (j + 1)) fun j h1 h2 => by
      rw [h (j + 1) (Nat.succ_lt_succ h1) (Nat.succ_lt_succ h2)]
      rfl
    have e1 : min (x :: l).length (y :: m).length = min l.length m.length + 1 := by
      simp only [List.length_cons]
      omega
    rw [e1, List.range_succ_eq_map, List.all_cons, List.all_map]
    have e2 : f 0 = e x y := h 0 (Nat.succ_pos _) (Nat.succ_pos _)
    have e3 : ((x :: l).length == (y :: m).length) = (l.length == m.length) := by
      simp only [List.length_cons]
      rw [Bool.eq_iff_iff, beq_iff_eq, beq_iff_eq]
      omega
    rw [e2, e3, Bool.and_assoc]
    show (e x y && ((List.range (min l.length m.length)).all (f ∘ Nat.succ) && l.length == m.length)) = (e x y && allF e l m)
    rw [← ih]
    rfl
theorem lexAt_shift (e r : Nat → Bool) (z : Bool) : ∀ (k i : Nat), lexAt e r z (i + 1) k = lexAt (fun j => e (j + 1)) (fun j => r (j + 1)) z i k
  | 0, _ => rfl
  | k + 1, i => by
    rw [lexAt_succ, lexAt_succ, lexAt_shift e r z k (i + 1)]
theorem lexAt_lex (e lt : D → D → Bool) : ∀ (l m : List D) (f r : Nat → Bool), (∀ j (h1 : j < l.length) (h2 : j < m.length), f j = e l[j] m[j]) → (∀ j (h1 : j < l.length) (h2 : j < m.length), r j = lt l[j] m[j]) →
    lexAt f r (decide (l.length < m.length)) 0 (min l.length m.length) = lexF e lt l m
  | [], [], f, r, _, _ => rfl
  | [], y :: m, f, r, _, _ => by
    have e1 : min ([] : List D).length (y :: m).length = 0 := by simp
    rw [e1, lexAt_zero]
    exact decide_eq_true (by simp)
  | x :: l, [], f, r, _, _ => by
    have e1 : min (x :: l).length ([] : List D).length = 0 := by simp
    rw [e1, lexAt_zero]
    exact decide_eq_false (by simp)
  | x :: l, y :: m, f, r, h, h' => by
    have ih := lexAt_lex e lt l m (fun j => f (j + 1)) (fun j => r (j + 1)) (fun j h1 h2 => by
      rw [h (j + 1) (Nat.succ_lt_succ h1) (Nat.succ_lt_succ h2)]
      rfl) (fun j h1 h2 => by
      rw [h' (j + 1) (Nat.succ_lt_succ h1) (Nat.succ_lt_succ h2)]
      rfl)
    have e1 : min (x :: l).length (y :: m).length = min l.length m.length + 1 := by
      simp only [List.length_cons]
      omega
    have e3 : decide ((x :: l).length < (y :: m).length) = decide (l.length < m.length) := by
      simp only [List.length_cons, Nat.add_lt_add_iff_right]
    rw [e1, e3, lexAt_succ, h 0 (Nat.succ_pos _) (Nat.succ_pos _), h' 0 (Nat.succ_pos _) (Nat.succ_pos _), lexAt_shift, ih]
    rfl
section
variable {A : Around} {s : Shared}
theorem rv_eq : ∀ (n : Nat) (A : Around) (d e : D) (v u : Value), A.units + n < cLine → Rv s.heap n d v → Rv s.heap n e u → EqAt A s v u (eqLv n d e)
  | 0, A, d, e, v, u, _, r, r' => by
    obtain ⟨i, t, rfl, rfl⟩ := rv0 r
    obtain ⟨j, t', rfl, rfl⟩ := rv0 r'
    exact EqAt.int_int i t j t'
  | n + 1, A, d, e, v, u, hu, r, r' => by
    obtain ⟨l, a, xs, rfl, rfl, h1, h2⟩ := rvS r
    obtain ⟨m, b, ys, rfl, rfl, h3, h4⟩ := rvS r'
    by_cases q : a = b
    · subst q
      have e := rv_inj (n + 1) _ _ _ r r'
      rw [((ordLv (n + 1)).eq _ _ (rv_lv _ _ _ r) (rv_lv _ _ _ r')).mpr e]
      exact EqAt.same _
    · have l1 : l.length = xs.size := by rw [h2.len, Array.length_toList]
      have l2 : m.length = ys.size := by rw [h4.len, Array.length_toList]
      have key := RcAt.tuples (A := A) (s := s) (e := fun j => eqLv n (pick l j) (pick m j)) h1 h3 (by omega) fun j g1 g2 => by
        have k1 : j < l.length := by omega
        have k2 : j < m.length := by omega
        rw [pick_at k1, pick_at k2]
        have z1 := h2.at k1 (by rw [Array.length_toList]; exact g1)
        have z2 := h4.at k2 (by rw [Array.length_toList]; exact g2)
        rw [Array.getElem_toList] at z1 z2
        exact rv_eq n A.in1 _ _ _ _ (by show A.units + 1 + n < _; omega) z1 z2
      refine EqAt.of_refs q ?_
      have e2 : eqLv (n + 1) (.tup l) (.tup m) = allF (eqLv n) l m := rfl
      rw [e2, ← range_all (eqLv n) l m (fun j => eqLv n (pick l j) (pick m j)) fun j k1 k2 => by rw [pick_at k1, pick_at k2], l1, l2]
      exact key
theorem rv_lt : ∀ (n : Nat) (A : Around) (d e : D) (v u : Value), A.units + n < cLine → Rv s.heap n d v → Rv s.heap n e u → RcOp .Lt A s v u (ltLv n d e)
  | 0, A, d, e, v, u, _, r, r' => by
    obtain ⟨i, t, rfl, rfl⟩ := rv0 r
    obtain ⟨j, t', rfl, rfl⟩ := rv0 r'
    exact RcOp.lt_int i j t t'
  | n + 1, A, d, e, v, u, hu, r, r' => by
    obtain ⟨l, a, xs, rfl, rfl, h1, h2⟩ := rvS r
    obtain ⟨m, b, ys, rfl, rfl, h3, h4⟩ := rvS r'
    have l1 : l.length = xs.size := by rw [h2.len, Array.length_toList]
    have l2 : m.length = ys.size := by rw [h4.len, Array.length_toList]
    have get : ∀ {j} (g1 : j < xs.size) (g2 : j < ys.size), ∃ (k1 : j < l.length) (k2 : j < m.length), Rv s.heap n l[j] xs[j] ∧ Rv s.heap n m[j] ys[j] := fun {j} g1 g2 => by
      have k1 : j < l.length := by omega
      have k2 : j < m.length := by omega
      have z1 := h2.at k1 (by rw [Array.length_toList]; exact g1)
      have z2 := h4.at k2 (by rw [Array.length_toList]; exact g2)
      rw [Array.getElem_toList] at z1 z2
      exact ⟨k1, k2, z1, z2⟩
    have key := RcOp.tuples_lt (A := A) (s := s) (e := fun j => eqLv n (pick l j) (pick m j)) (r := fun j => ltLv n (pick l j) (pick m j)) h1 h3 (by omega)
      (fun j g1 g2 => by
        obtain ⟨k1, k2, z1, z2⟩ := get g1 g2
        rw [pick_at k1, pick_at k2]
        exact rv_eq n A.in1 _ _ _ _ (by show A.units + 1 + n < _; omega) z1 z2)
      (fun j g1 g2 _ => by
        obtain ⟨k1, k2, z1, z2⟩ := get g1 g2
        rw [pick_at k1, pick_at k2]
        exact rv_lt n A.in1 _ _ _ _ (by show A.units + 1 + n < _; omega) z1 z2)
    have e2 : ltLv (n + 1) (.tup l) (.tup m) = lexF (eqLv n) (ltLv n) l m := rfl
    rw [e2, ← lexAt_lex (eqLv n) (ltLv n) l m (fun j => eqLv n (pick l j) (pick m j)) (fun j => ltLv n (pick l j) (pick m j)) (fun j k1 k2 => by rw [pick_at k1, pick_at k2]) (fun j k1 k2 => by rw [pick_at k1, pick_at k2]), l1, l2]
    exact key
end
end DL

set_option Elab.async false
set_option linter.all false
set_option maxRecDepth 100000
set_option maxHeartbeats 4000000
/-! sorted: the rule -/
namespace DL
open PySem PySem.Spec L2 PySem.SeqAt Ob PyProof.Rows PySem.W
section
variable {prog : Program} {w : World} {A : Around} {E : Value → Shared → Prop} {s : Shared}
theorem lv_katlex {n : Nat} {b : Bool} (hb : b = (n == 0)) (hu : A.units + n < cLine) {Q : Bool → Shared → Prop} : ∀ (l m : List D) (xs ys : List Value) (i : Nat), All2 (Rv s.heap n) l xs → All2 (Rv s.heap n) m ys → Q (lexF (eqLv n) (ltLv n) l m) s →
    KatLex prog w A b (decide (xs.length < ys.length)) Q (xs.zip ys) i s
  | [], [], [], [], i, _, _, q => kat_nil q
  | [], y :: m, [], v :: ys, i, _, _, q => by
    refine kat_nil ?_
    rw [decide_eq_true (by simp)]
    exact q
  | x :: l, [], v :: xs, [], i, _, _, q => by
    refine kat_nil ?_
    rw [decide_eq_false (by simp)]
    exact q
  | x :: l, y :: m, v :: xs, u :: ys, i, h1, h2, q => by
    have e : decide ((v :: xs).length < (u :: ys).length) = decide (xs.length < ys.length) := by simp only [List.length_cons, Nat.add_lt_add_iff_right]
    rw [e]
    refine kat_cons (rv_eq n A x y v u hu h1.1 h2.1 prog w _ _ ?_)
    rw [lex_cons] at q
    refine kat_go (fun z => kat_yes ?_) fun z => kat_no ?_
    · rw [if_pos z] at q
      exact lv_katlex hb hu l m xs ys (i + 1) h1.2 h2.2 q
    · rw [if_neg (by rw [z]; exact Bool.false_ne_true)] at q
      by_cases c : (b && i == 0) = true
      · rw [c]
        obtain ⟨c1, _⟩ := Bool.and_eq_true_iff.mp c
        rw [hb] at c1
        have n0 : n = 0 := beq_iff_eq.mp c1
        subst n0
        obtain ⟨a, t, rfl, rfl⟩ := rv0 h1.1
        obtain ⟨a', t', rfl, rfl⟩ := rv0 h2.1
        exact oneLt_int q
      · have c' : (b && i == 0) = false := by cases k : (b && i == 0) with | false => rfl | true => exact absurd k c
        rw [c']
        exact kat_one v u (rv_lt n A x y v u hu h1.1 h2.1 prog w _ _ q)
  | [], _, _ :: _, _, _, h, _, _ => h.elim
  | _ :: _, _, [], _, _, h, _, _ => h.elim
  | _, [], _, _ :: _, _, _, h, _ => h.elim
  | _, _ :: _, _, [], _, _, h, _ => h.elim
def kindLv : Nat → SortKind
  | 0 => oneType'
  | n + 1 => tuples' (n == 0)
theorem lv_key (n : Nat) (hu : A.units + n < cLine) {d e : D} {v u : Value} {Q : Bool → Shared → Prop} (h1 : Rv s.heap n d v) (h2 : Rv s.heap n e u) (q : Q (ltLv n d e) s) : wpAny (model prog w) A (keyLt' (kindLv n) v u) Q E s := by
  cases n with
  | zero =>
    obtain ⟨a, t, rfl, rfl⟩ := rv0 h1
    obtain ⟨a', t', rfl, rfl⟩ := rv0 h2
    show wpAny _ _ (keyLt' oneType' _ _) _ _ _
    rw [keyLt'_oneType]
    exact oneLt_int q
  | succ n =>
    obtain ⟨l, a, xs, rfl, rfl, ⟨o1, g1, g2, k1, g3⟩, z1⟩ := rvS h1
    obtain ⟨m, b, ys, rfl, rfl, ⟨o2, g4, g5, k2, g6⟩, z2⟩ := rvS h2
    refine kat_lt g1 g3 g4 g6 ?_
    have e : decide (xs.size < ys.size) = decide (xs.toList.length < ys.toList.length) := by rw [Array.length_toList, Array.length_toList]
    rw [e]
    exact lv_katlex rfl (by omega) l m xs.toList ys.toList 0 z1 z2 q
theorem kat_tups {n : Nat} : ∀ (ds : List D) (vs : List Value), All2 (Rv s.heap (n + 1)) ds vs → (ds.all fun d => match d with | .tup [] => false | _ => true) = true → ∃ fs, KatTups s.heap vs fs ∧ fs.length = vs.length ∧ ∀ f ∈ fs, ∃ e, Rv s.heap n e f
  | [], [], _, _ => ⟨[], trivial, rfl, fun f h => by cases h⟩
  | [], _ :: _, h, _ => h.elim
  | _ :: _, [], h, _ => h.elim
  | d :: ds, v :: vs, h, c => by
    obtain ⟨c1, c2⟩ := Bool.and_eq_true_iff.mp c
    obtain ⟨fs, f1, f2, f3⟩ := kat_tups ds vs h.2 c2
    obtain ⟨l, a, xs, rfl, rfl, ⟨o1, g1, g2, k1, g3⟩, z1⟩ := rvS h.1
    cases l with
    | nil => cases c1
    | cons x l =>
      cases hx : xs.toList with
      | nil =>
        rw [hx] at z1
        exact z1.elim
      | cons f r =>
        rw [hx] at z1
        have e0 : xs[0]? = some f := by
          rw [← Array.getElem?_toList, hx]
          rfl
        exact ⟨f :: fs, ⟨⟨a, o1, xs, k1, rfl, g1, g2, g3, e0⟩, f1⟩, congrArg Nat.succ f2, fun g hg => by
          rcases List.mem_cons.mp hg with q | q
          · rw [q]
            exact ⟨x, z1.1⟩
          · exact f3 g q⟩
theorem rv_type {M : Model} {n : Nat} {d : D} {v : Value} (h : Rv s.heap n d v) : W.Looks M s.heap (typeOf v) (.type (if n = 0 then "int" else "tuple")) := by
  cases n with
  | zero =>
    obtain ⟨a, t, rfl, rfl⟩ := rv0 h
    exact W.Looks.now
  | succ n =>
    obtain ⟨l, a, xs, rfl, rfl, ⟨o1, g1, g2, k1, g3⟩, z1⟩ := rvS h
    have e : (if n + 1 = 0 then "int" else "tuple") = "tuple" := if_neg (Nat.succ_ne_zero n)
    rw [e, ← g2]
    exact (Looks.ld g1).andThen .now
theorem all_ints : ∀ (ds : List D) (vs : List Value), All2 (Rv s.heap 0) ds vs → ∃ ns, IntsAre vs ns
  | [], [], _ => ⟨[], .nil⟩
  | [], _ :: _, h => h.elim
  | _ :: _, [], h => h.elim
  | d :: ds, v :: vs, h => by
    obtain ⟨ns, k⟩ := all_ints ds vs h.2
    obtain ⟨a, t, rfl, rfl⟩ := rv0 h.1
    exact ⟨a :: ns, .cons a t k⟩
theorem lv_kind (n : Nat) {ds : List D} {vs : List Value} {Q : SortKind → Shared → Prop} (h : All2 (Rv s.heap n) ds vs) (h2 : 2 ≤ vs.length) (c : n = 0 ∨ (ds.all fun d => match d with | .tup [] => false | _ => true) = true) (q : Q (kindLv n) s) :
    wpAny (model prog w) A (keyKind' vs.toArray) Q E s := by
  cases n with
  | zero =>
    obtain ⟨ns, k⟩ := all_ints ds vs h
    match vs, k, h2 with
    | v1 :: v2 :: rest, k, _ =>
      rw [keyKind_ints k]
      exact wpAny_pure q
    | [], _, h => exact absurd h (by decide)
    | [v], _, h => exact absurd h (by simp)
  | succ n =>
    obtain ⟨fs, f1, f2, f3⟩ := kat_tups ds vs h (c.resolve_left (Nat.succ_ne_zero n))
    refine kat_kind (T := .type (if n = 0 then "int" else "tuple")) f1 (by omega) (fun f hf => ?_) (by simp) ?_
    · obtain ⟨e, he⟩ := f3 f hf
      exact rv_type he
    · have e : (Value.type (if n = 0 then "int" else "tuple") != Value.type "tuple") = (n == 0) := by
        by_cases z : n = 0
        · subst z
          decide
        · rw [if_neg z]
          have : (n == 0) = false := beq_eq_false_iff_ne.mpr z
          rw [this]
          decide
      rw [e]
      exact q
end
end DL

set_option Elab.async false
set_option linter.all false
set_option maxRecDepth 100000
set_option maxHeartbeats 4000000
/-! sorted of a list, of a tuple -/
namespace DL
open PySem PySem.Spec L2 PySem.SeqAt Ob PyProof.Rows PySem.W SrtO
section
variable {prog : Program} {w : World} {A : Around} {E : Value → Shared → Prop} {s : Shared}
abbrev rawL : Obj := { cls := .type "list", data := .seq ([] : List Value).toArray }
/-- the list that a collecting lays -/
abbrev gathered (h : Heap) (items : Array Value) : Heap := (h.push rawL).update h.objs.size (Obj.mapSeq (· ++ items))
theorem gather {Q : List Value → Shared → Prop} (it : Addr) {T : String} {o : Obj} {items : Array Value} {n : Nat} (hT : T = "list" ∨ T = "tuple") (ho : s.heap.get? it = some o) (hc : o.cls = .type T) (hd : o.data = .seq items n) (hsz : items.size ≤ sizeLine)
    (hQ : Q items.toList { s with heap := gathered s.heap items }) : wpAny (model prog w) A (collect (.ref it)) Q E s := by
  unfold collect
  refine wpAny_bind (wpAny_runValue (codeAny_builtin F.entry_proto_collect ?_))
  rw [Around.under_plainId F.plain_proto_collect _]
  show wpAny _ A.in1 (newList [] >>= fun l => again (.builtin "list.__iadd__" ⟨[l, .ref it], []⟩)) _ _ s
  refine wpAny_bind (wpAny_newObj_type ?_)
  refine wpAny_pure ⟨plainId_quiet F.plain_list_iadd _, ?_⟩
  refine codeAny_builtin F.entry_list_iadd ?_
  rw [Around.under_plainId F.plain_list_iadd _]
  show wpAny _ A.in1 (Builtin.List.listExtendWith (.ref s.heap.objs.size) (.ref it) (.ref s.heap.objs.size)) _ _ _
  have atL : (s.heap.push rawL).get? s.heap.objs.size = some rawL := Heap.get?_push_size _ rfl
  have grown := Heap.get?_update_self (Obj.mapSeq (· ++ items)) atL rfl
  have same : ((#[] : Array Value) ++ items).toList = items.toList := by simp
  have last : wpAny (model prog w) A (match Value.ref s.heap.objs.size with
      | Value.ref a => do
        match (← load a).data with
          | Data.seq xs _ => pure xs.toList
          | _ => unsupported "internal:collect"
      | _ => unsupported "internal:collect") Q E { s with heap := gathered s.heap items } := by
    show wpAny _ A (load s.heap.objs.size >>= _) _ _ _
    refine wpAny_bind (wpAny_load grown (wpAny_pure ?_))
    show Q ((#[] : Array Value) ++ items).toList _
    rw [same]
    exact hQ
  refine wpAny_mono (wpAny_extend_seq (hsz := hsz) (A := A) (R := fun r s' => r = .ok (.ret (.ref s.heap.objs.size)) ∧ s' = { s with heap := gathered s.heap items }) (s := { s with heap := s.heap.push rawL }) _ it _ 0 hT atL (Heap.get?_push_of_some _ ho) hc hd ⟨rfl, rfl⟩)
    (fun fin s' h => ?_) (fun e s' h => ?_)
  · cases fin with
    | done f =>
      obtain ⟨e, rfl⟩ := h
      cases e
      exact last
    | again c' =>
      refine ⟨h.1, codeAny_mono h.2 fun r s'' hr => ?_⟩
      obtain ⟨rfl, rfl⟩ := hr
      exact last
  · exact absurd h.1 (by simp)
theorem sorted_seq {l : Addr} {T : String} {o : Obj} {vs : List Value} {k : Nat} {ltv : Value → Value → Bool} {Q : Value → Shared → Prop} (O : Swo ltv) (hT : T = "list" ∨ T = "tuple") (ho : s.heap.get? l = some o) (hc : o.cls = .type T) (hd : o.data = .seq vs.toArray k) (hz : vs.length ≤ sizeLine)
    (hS : 2 ≤ vs.length → ∀ (h₁ : Heap) (a : Addr), h₁.get? a = some (seqObj "list" vs.toArray 0) → (∀ b o, s.heap.get? b = some o → b ≠ a ∧ h₁.get? b = some o) → SortableO prog w A.in1.in1 { s with heap := h₁ } a vs ltv)
    (h : ∀ (out : List Value) (p : Addr) (h' : Heap) (c : Nat), Srtd ltv out → Stb ltv out vs → (∀ b o, s.heap.get? b = some o → h'.get? b = some o) → s.heap.objs.size ≤ p → h'.get? p = some (seqObj "list" out.toArray c) → Q (.ref p) { s with heap := h' }) :
    wpAny (model prog w) A (call (.builtin "sorted") [.ref l]) Q E s := by
  refine Calls.call_function_entry kind_sorted plain_sorted entry_sorted (args_sorted1 _) ?_
  unfold Builtin.«sorted»
  refine wpAny_bind (m := checkCount "sorted" 1 1 _) (wpAny_pure ?_)
  refine wpAny_bind (gather l hT ho hc hd (by rw [List.size_toArray]; exact hz) ?_)
  have size1 : (gathered s.heap vs.toArray).objs.size = s.heap.objs.size + 1 := by rw [Heap.size_update, Heap.size_push]
  have k1 : ∀ b o', s.heap.get? b = some o' → (gathered s.heap vs.toArray).get? b = some o' := fun b o' hb =>
    (Heap.get?_update_other _ _ (Nat.ne_of_gt (Heap.lt_size hb))).trans (Heap.get?_push_of_some _ hb)
  generalize gathered s.heap vs.toArray = h1 at size1 k1
  have big : s.heap.objs.size ≤ h1.objs.size := by omega
  refine wpAny_bind (wpAny_newList ?_ (by simpa using hz))
  have at1 : (h1.push (seqObj "list" vs.toArray 0)).get? h1.objs.size = some (seqObj "list" vs.toArray 0) := Heap.get?_push_size _ rfl
  have keep : ∀ b o, s.heap.get? b = some o → b ≠ h1.objs.size ∧ (h1.push (seqObj "list" vs.toArray 0)).get? b = some o := fun b o q => by
    have q1 := k1 b o q
    exact ⟨Nat.ne_of_lt (Heap.lt_size q1), Heap.get?_push_of_some _ q1⟩
  show wpAny _ _ _ _ _ { s with heap := h1.push (seqObj "list" vs.toArray 0) }
  refine wpAny_bind (wpAny_holding (wpAny_call_entry slot_list_sort ⟨_, at1, rfl⟩ entry_list_sort (list_sort_ord O at1 hz (fun h2 => hS h2 _ _ at1 keep) fun out hs hb => ⟨_, rfl, ?_⟩) (args_list_sort _)))
  obtain ⟨c, hc'⟩ := sortedHeap_at (vs := vs) (out := out.toArray) at1
  refine wpAny_pure ⟨_, rfl, h out h1.objs.size _ c hs hb (fun b o q => ?_) big hc'⟩
  obtain ⟨n1, q1⟩ := keep b o q
  rw [sortedHeap_old n1 (Heap.lt_size q1)]
  exact q1
end
theorem tup_keep {h h' : Heap} (k : ∀ b o, h.get? b = some o → h'.get? b = some o) (a : Addr) (items : Array Value) (x : h.IsTuple a items) : h'.IsTuple a items := by
  obtain ⟨o, e, r⟩ := x
  exact ⟨o, k _ _ e, r⟩
/-- the datum that a value stands for (none of it: a datum all the same) -/
noncomputable def keyAt (h : Heap) (n : Nat) (v : Value) : D := open Classical in if q : ∃ d, Rv h n d v then Classical.choose q else (match n with | 0 => .int 0 | _ => .tup [])
theorem keyAt_rv {h : Heap} {n : Nat} {v : Value} {d : D} (r : Rv h n d v) : keyAt h n v = d := by
  unfold keyAt
  rw [dif_pos ⟨d, r⟩]
  exact rv_inj n _ _ v (Classical.choose_spec (p := fun d => Rv h n d v) ⟨d, r⟩) r
theorem keyAt_lv (h : Heap) (n : Nat) (v : Value) : isLv n (keyAt h n v) = true := by
  unfold keyAt
  by_cases q : ∃ d, Rv h n d v
  · rw [dif_pos q]
    exact rv_lv n _ v (Classical.choose_spec q)
  · rw [dif_neg q]
    cases n <;> rfl
noncomputable def ltAt (h : Heap) (n : Nat) (v u : Value) : Bool := ltLv n (keyAt h n v) (keyAt h n u)
theorem swo_at (h : Heap) (n : Nat) : Swo (ltAt h n) :=
  ⟨fun x y z => (ordLv n).asym _ _ (keyAt_lv h n x) (keyAt_lv h n y) z, fun x y z a b => ntr (ordLv n) (keyAt_lv h n x) (keyAt_lv h n y) (keyAt_lv h n z) a b⟩
theorem all2_mem {R : D → Value → Prop} : ∀ {ds : List D} {vs : List Value}, All2 R ds vs → ∀ v ∈ vs, ∃ d ∈ ds, R d v
  | [], [], _, v, hv => by cases hv
  | [], _ :: _, h, _, _ => h.elim
  | _ :: _, [], h, _, _ => h.elim
  | d :: ds, u :: vs, h, v, hv => by
    rcases List.mem_cons.mp hv with e | e
    · rw [e]
      exact ⟨d, List.mem_cons_self, h.1⟩
    · obtain ⟨d', h1, h2⟩ := all2_mem h.2 v e
      exact ⟨d', List.mem_cons_of_mem _ h1, h2⟩
theorem all2_keys {h : Heap} {n : Nat} : ∀ {ds : List D} {vs : List Value}, All2 (Rv h n) ds vs → vs.map (keyAt h n) = ds
  | [], [], _ => rfl
  | [], _ :: _, h => h.elim
  | _ :: _, [], h => h.elim
  | d :: ds, v :: vs, r => by rw [List.map_cons, keyAt_rv r.1, all2_keys r.2]
theorem sortable_at {prog : Program} {w : World} {A : Around} {s : Shared} {h0 : Heap} {n : Nat} {a : Addr} {ds : List D} {vs : List Value} (hu : A.units + n < cLine) (r : All2 (Rv h0 n) ds vs) (h2 : 2 ≤ vs.length) (c : n = 0 ∨ (ds.all fun d => match d with | .tup [] => false | _ => true) = true)
    (k : ∀ b o, h0.get? b = some o → b ≠ a ∧ s.heap.get? b = some o) : SortableO prog w A s a vs (ltAt h0 n) := by
  intro h' k'
  have kk : ∀ b o, h0.get? b = some o → h'.get? b = some o := fun b o e => k' b o (k b o e).1 (k b o e).2
  have r' : ∀ {ds : List D} {vs : List Value}, All2 (Rv h0 n) ds vs → All2 (Rv h' n) ds vs := by
    intro ds
    induction ds with
    | nil => exact fun {vs} r => by cases vs with | nil => trivial | cons _ _ => exact r.elim
    | cons d ds ih =>
      intro vs r
      cases vs with
      | nil => exact r.elim
      | cons v vs => exact ⟨rv_keep (tup_keep kk) n d v r.1, ih r.2⟩
  refine ⟨kindLv n, fun Q E q => lv_kind (s := { s with heap := h' }) n (r' r) h2 c q, fun p q hp hq => ?_⟩
  obtain ⟨d, _, rd⟩ := all2_mem r p.1 hp
  obtain ⟨e, _, re⟩ := all2_mem r q.1 hq
  refine lv_key (s := { s with heap := h' }) n hu (rv_keep (tup_keep kk) n d _ rd) (rv_keep (tup_keep kk) n e _ re) ⟨rfl, ?_⟩
  show ltLv n d e = ltLv n (keyAt h0 n p.1) (keyAt h0 n q.1)
  rw [keyAt_rv rd, keyAt_rv re]
/-- values back -/
def toV : Value → V
  | .int i _ => .int i
  | .ref a => .ref a
  | _ => .non
section
variable {X : Cx} {pins : List (Addr × Obj)} {σ : L2.St} {H : Hp} {s : Shared} {B : Addr → Prop}
theorem rv_of (I : L2.Inv X pins σ H s) : ∀ (n : Nat) {d : D} {x : V} {v : Value}, isLv n d = true → Rel (tx X) B H d x → RelV x v → Rv s.heap n d v ∧ x = toV v
  | 0, d, x, v, l, r, rv => by
    obtain ⟨i, rfl⟩ := lv0 l
    have e : x = .int i := r
    subst e
    obtain ⟨t, rfl⟩ := (show ∃ t, v = Value.int i t from rv)
    exact ⟨⟨t, rfl⟩, rfl⟩
  | n + 1, d, x, v, l, r, rv => by
    obtain ⟨ds, rfl, hl⟩ := lvS l
    obtain ⟨a, xs, rfl, h1, h2⟩ := r
    have e : v = .ref a := rv
    subst e
    obtain ⟨its, rr, ⟨o, ho, hc, k, hd⟩, _⟩ := I.tuple h1.sq
    have all : ∀ (ds : List D) (xs : List V) (vs : List Value), ds.all (isLv n) = true → RelL (tx X) B H ds xs → Vals xs vs → All2 (Rv s.heap n) ds vs := by
      intro ds
      induction ds with
      | nil =>
        intro xs vs _ r rv
        cases xs with
        | cons _ _ => exact r.elim
        | nil =>
          cases rv
          trivial
      | cons d ds ih =>
        intro xs vs l r rv
        cases xs with
        | nil => exact r.elim
        | cons x xs =>
          cases rv with
          | cons r1 r2 =>
            obtain ⟨l1, l2⟩ := all_cons l
            exact ⟨(rv_of I n l1 r.1 r1).1, ih _ _ l2 r.2 r2⟩
    exact ⟨⟨a, its.toArray, rfl, ⟨o, ho, hc, k, hd⟩, by simpa using all ds xs its hl h2 rr⟩, rfl⟩
theorem rvs_of (I : L2.Inv X pins σ H s) (n : Nat) : ∀ {ds : List D} {xs : List V} {vs : List Value}, ds.all (isLv n) = true → RelL (tx X) B H ds xs → Vals xs vs → All2 (Rv s.heap n) ds vs ∧ xs = vs.map toV ∧ ∀ v ∈ vs, RelV (toV v) v ∧ Rel (tx X) B H (keyAt s.heap n v) (toV v)
  | [], [], _, _, _, .nil => ⟨trivial, rfl, fun v h => by cases h⟩
  | [], _ :: _, _, _, h, _ => h.elim
  | _ :: _, [], _, _, h, _ => h.elim
  | d :: ds, x :: xs, v :: vs, l, r, .cons r1 r2 => by
    obtain ⟨l1, l2⟩ := all_cons l
    obtain ⟨a1, a2⟩ := rv_of I n l1 r.1 r1
    obtain ⟨b1, b2, b3⟩ := rvs_of I n l2 r.2 r2
    refine ⟨⟨a1, b1⟩, by rw [List.map_cons, ← a2, ← b2], fun u hu => ?_⟩
    rcases List.mem_cons.mp hu with e | e
    · rw [e, ← a2, keyAt_rv a1]
      exact ⟨r1, r.1⟩
    · exact b3 u e
end
theorem vals_map : ∀ (vs : List Value), (∀ v ∈ vs, RelV (toV v) v) → Vals (vs.map toV) vs
  | [], _ => .nil
  | v :: vs, h => .cons (h v List.mem_cons_self) (vals_map vs fun u hu => h u (List.mem_cons_of_mem _ hu))
theorem relL_map {T : Tx} {B : Addr → Prop} {H : Hp} {f : Value → D} : ∀ (vs : List Value), (∀ v ∈ vs, Rel T B H (f v) (toV v)) → RelL T B H (vs.map f) (vs.map toV)
  | [], _ => trivial
  | v :: vs, h => ⟨h v List.mem_cons_self, relL_map vs fun u hu => h u (List.mem_cons_of_mem _ hu)⟩
/-- the level of a list's items, where sorted can be asked -/
def lvOf (ds : List D) : Option Nat := if ds.all (isLv 0) = true then some 0 else
  if (ds.length.blt 2 || ds.all fun d => match d with | .tup [] => false | _ => true) = true then (if ds.all (isLv 1) = true then some 1 else if ds.all (isLv 2) = true then some 2 else if ds.all (isLv 3) = true then some 3 else none) else none
theorem lvOf_some {ds : List D} {n : Nat} (h : lvOf ds = some n) : ds.all (isLv n) = true ∧ n ≤ 3 ∧ (2 ≤ ds.length → n = 0 ∨ (ds.all fun d => match d with | .tup [] => false | _ => true) = true) := by
  unfold lvOf at h
  by_cases c0 : ds.all (isLv 0) = true
  · rw [if_pos c0] at h
    have e := Option.some.inj h
    subst e
    exact ⟨c0, by decide, fun _ => .inl rfl⟩
  · rw [if_neg c0] at h
    by_cases c : (ds.length.blt 2 || ds.all fun d => match d with | .tup [] => false | _ => true) = true
    · rw [if_pos c] at h
      have short : 2 ≤ ds.length → n = 0 ∨ (ds.all fun d => match d with | .tup [] => false | _ => true) = true := fun q => by
        rcases Bool.or_eq_true_iff.mp c with z | z
        · have := Nat.le_of_ble_eq_true z
          omega
        · exact .inr z
      by_cases c1 : ds.all (isLv 1) = true
      · rw [if_pos c1] at h
        have e := Option.some.inj h
        subst e
        exact ⟨c1, by decide, short⟩
      · rw [if_neg c1] at h
        by_cases c2 : ds.all (isLv 2) = true
        · rw [if_pos c2] at h
          have e := Option.some.inj h
          subst e
          exact ⟨c2, by decide, short⟩
        · rw [if_neg c2] at h
          by_cases c3 : ds.all (isLv 3) = true
          · rw [if_pos c3] at h
            have e := Option.some.inj h
            subst e
            exact ⟨c3, by decide, short⟩
          · rw [if_neg c3] at h
            cases h
    · rw [if_neg c] at h
      cases h
def sortD (d : D) : Option D := match d with
  | .lst ds => (lvOf ds).map fun n => .lst (isort (ltLv n) ds)
  | .tup ds => (lvOf ds).map fun n => .lst (isort (ltLv n) ds)
  | _ => none
def rSortedD (X : Cx) : List V → Hp → VK → Prop := fun vs H Q => ∃ (a : Addr) (xs : List V) (ds : List D) (n : Nat) (B : Addr → Prop), vs = [V.ref a] ∧ (SqL X.K H a xs ∨ SqT X.K H a xs) ∧ RelL (tx X) B H ds xs ∧ lvOf ds = some n ∧
  ∀ (ys : List V) (p : Addr), RelL (tx X) B H (isort (ltLv n) ds) ys → H p = none → Q (.ref p) (upd H p (.lst ys))
section
variable {X : Cx}
theorem cr_sortedD (hu : X.A.units + 64 < cLine) : CallR X (.builtin "sorted") (rSortedD X) := by
  intro pins s σ H vs us Q I r h
  obtain ⟨a, xs, ds, n, B, rfl, hs, hr, hl, q⟩ := h
  rw [Vals.ref1 r]
  obtain ⟨l1, l2, l3⟩ := lvOf_some hl
  have seen : ∃ (its : List Value) (T : String) (o : Obj) (k : Nat), Vals xs its ∧ (T = "list" ∨ T = "tuple") ∧ s.heap.get? a = some o ∧ o.cls = .type T ∧ o.data = .seq its.toArray k ∧ its.length ≤ sizeLine := by
    rcases hs with hs | hs
    · obtain ⟨its, rv, hp, hz⟩ := I.list hs
      obtain ⟨o, e1, e2, k, e3⟩ := hp.isList
      exact ⟨its, "list", o, k, rv, .inl rfl, e1, e2, e3, by rw [← rv.length]; exact hz⟩
    · obtain ⟨its, rv, ⟨o, e1, e2, k, e3⟩, hz⟩ := I.tuple hs
      exact ⟨its, "tuple", o, k, rv, .inr rfl, e1, e2, e3, by rw [← rv.length]; exact hz⟩
  obtain ⟨its, T, o, k, rv, hT, ho, hc, hd, hz⟩ := seen
  obtain ⟨a1, a2, a3⟩ := rvs_of I n l1 hr rv
  have len : ds.length = its.length := a1.len
  refine sorted_seq (swo_at s.heap n) hT ho hc hd hz (fun h2 h1 b _ kp => sortable_at (h0 := s.heap) (ds := ds) (by show X.A.units + 1 + 1 + n < _; omega) a1 h2 (l3 (by omega)) kp) fun out p h' c srt stb keep big at_ => ?_
  have perm : out.Perm its := stb.perm
  have rel : ∀ v ∈ out, RelV (toV v) v ∧ Rel (tx X) B H (keyAt s.heap n v) (toV v) := fun v hv => a3 v (perm.mem_iff.mp hv)
  have keys : out.map (keyAt s.heap n) = isort (ltLv n) ds := by
    refine isort_uniq (ordLv n) l1 ?_ (List.pairwise_map.mpr srt)
    rw [← all2_keys a1]
    exact perm.map _
  have rl := relL_map (f := keyAt s.heap n) out fun v hv => (rel v hv).2
  rw [keys] at rl
  have lenO : (out.map toV).length ≤ sizeLine := by
    rw [List.length_map, perm.length_eq]
    exact hz
  have hp : H p = none := I.hok.fresh big
  exact ⟨.ref p, upd H p (.lst (out.map toV)), I.laid (t' := s.toks) keep big ⟨lenO, out, c, vals_map out fun v hv => (rel v hv).1, at_⟩, rfl, q _ p rl hp⟩
theorem pu_sorted : Pure1F X (r1N (rSortedD X)) sortD := by
  intro B H x d z Q w r h q
  cases d with
  | lst ds =>
    obtain ⟨n, e1, e2⟩ := Option.map_eq_some_iff.mp h
    obtain ⟨a, vs, rfl, h1, h2⟩ := r
    exact ⟨a, vs, ds, n, B, rfl, .inl (SqL.of h1), h2, e1, fun ys p ry hp => q p ys _ e2.symm hp ry⟩
  | tup ds =>
    obtain ⟨n, e1, e2⟩ := Option.map_eq_some_iff.mp h
    obtain ⟨a, vs, rfl, h1, h2⟩ := r
    exact ⟨a, vs, ds, n, B, rfl, .inr h1.sq, h2, e1, fun ys p ry hp => q p ys _ e2.symm hp ry⟩
  | _ => cases h
end
end DL

set_option Elab.async false
set_option linter.all false
set_option maxRecDepth 100000
set_option maxHeartbeats 4000000
/-! in, is None, set(..), < of tuples, isinstance, slices, truth -/
namespace DL
open PySem PySem.Spec L2

/-! ### is None -/
section
variable {X : Cx}
def isNone (d e : D) : Option D := match e with
  | .non => isN d
  | _ => none
def notNone (d e : D) : Option D := match e with
  | .non => match d with
    | .non => some (.bl false)
    | _ => some (.bl true)
  | _ => none
theorem pu_isN : Pure2 X (fun x y H Q => y = .non ∧ Q (.bl (decide (x = .non))) H) isNone := by
  intro B H x y d e z Q _ r1 r2 h q
  cases e with
  | non =>
    have h' : isN d = some z := h
    rw [rel_non r1] at h'
    have e := Option.some.inj h'
    subst e
    exact ⟨r2, q H _ (Same.refl H) rfl⟩
  | _ => cases h
theorem pu_notN : Pure2 X (fun x y H Q => y = .non ∧ Q (.bl (!decide (x = .non))) H) notNone := by
  intro B H x y d e z Q _ r1 r2 h q
  cases e with
  | non =>
    have k := rel_non r1
    refine ⟨r2, q H _ (Same.refl H) ?_⟩
    cases d with
    | non =>
      have e1 := Option.some.inj (show some (D.bl false) = some z from h)
      have e2 := D.bl.inj (Option.some.inj (show some (D.bl true) = some (D.bl (decide (x = .non))) from k))
      rw [← e1, ← e2]
      rfl
    | _ =>
      have e1 := Option.some.inj (show some (D.bl true) = some z from h)
      have e2 := D.bl.inj (Option.some.inj (show some (D.bl false) = some (D.bl (decide (x = .non))) from k))
      rw [← e1, ← e2]
      rfl
  | _ => cases h

/-! ### in -/
def rInSt (K : PySem.W.Frag) (P : Program) (w : World) (neg : Bool) : R2 := fun x y H Q => ∃ b k a L, x = .ref b ∧ y = .ref a ∧ SqT K H b (k.map V.int) ∧ H a = some (SetTO P w a L) ∧ (∀ p ∈ L, SqT K H p.1 (p.2.map V.int)) ∧ Q (.bl (neg != decide (k ∈ L.map (·.2)))) H
theorem op_inSt (hu : X.A.units + 65 < cLine) : OpR X (compareOp .In) (rInSt X.K X.prog X.w false) := by
  intro pins s σ H x y v u Q I rx ry h
  obtain ⟨b, k, a, L, rfl, rfl, hb, ha, hL, q⟩ := h
  cases rx
  cases ry
  have R0 : SetT0 X.prog X.w s.heap a L := (I.hok a _ ha).1
  obtain ⟨es, ep, t, R⟩ := R0.full fun p hp => I.isT (hL p hp)
  show wpAny _ _ (do return Value.bool (← contains (.ref a) (.ref b))) _ _ s
  refine wpAny_bind (contains_set R (I.isT hb) (by omega) fun tk => wpAny_pure ⟨.bl (decide (k ∈ List.map (fun p : Addr × List Int => p.2) L)), H, I.tok tk, rfl, ?_⟩)
  have e : (false != decide (k ∈ L.map (·.2))) = decide (k ∈ L.map (·.2)) := by cases decide (k ∈ L.map (·.2)) <;> rfl
  rw [e] at q
  exact q
theorem op_notInSt (hu : X.A.units + 65 < cLine) : OpR X (compareOp .NotIn) (rInSt X.K X.prog X.w true) := by
  intro pins s σ H x y v u Q I rx ry h
  obtain ⟨b, k, a, L, rfl, rfl, hb, ha, hL, q⟩ := h
  cases rx
  cases ry
  have R0 : SetT0 X.prog X.w s.heap a L := (I.hok a _ ha).1
  obtain ⟨es, ep, t, R⟩ := R0.full fun p hp => I.isT (hL p hp)
  show wpAny _ _ (do return Value.bool (!(← contains (.ref a) (.ref b)))) _ _ s
  refine wpAny_bind (contains_set R (I.isT hb) (by omega) fun tk => wpAny_pure ⟨.bl (!decide (k ∈ List.map (fun p : Addr × List Int => p.2) L)), H, I.tok tk, rfl, ?_⟩)
  have e : (true != decide (k ∈ L.map (·.2))) = !decide (k ∈ L.map (·.2)) := by cases decide (k ∈ L.map (·.2)) <;> rfl
  rw [e] at q
  exact q
def rInA (X : Cx) : R2 := fun x y H Q => (rInSt X.K X.prog X.w false x y H Q ∨ rInD X.K x y H Q) ∨ rInT X.K x y H Q
def rNotInA (X : Cx) : R2 := fun x y H Q => (rInSt X.K X.prog X.w true x y H Q ∨ rNotInD X.K x y H Q) ∨ rNotInT X.K x y H Q
theorem op_inA (hu : X.A.units + 65 < cLine) : OpR X (compareOp .In) (rInA X) := ((op_inSt hu).or (op_inD hu)).or (op_inT hu)
theorem op_notInA (hu : X.A.units + 65 < cLine) : OpR X (compareOp .NotIn) (rNotInA X) := ((op_notInSt hu).or (op_notInD hu)).or (op_notInT hu)
theorem ints_rel {T : Tx} {B : Addr → Prop} {H : Hp} : ∀ {ds : List D} {ks : List Int} {vs : List V}, intsD ds = some ks → RelL T B H ds vs → vs = ks.map V.int
  | [], ks, vs, e, r => by
    have e' := Option.some.inj e
    subst e'
    cases vs with
    | nil => rfl
    | cons _ _ => exact r.elim
  | d :: ds, ks, vs, e, r => by
    cases d with
    | int i =>
      obtain ⟨k2, e1, rfl⟩ := Option.map_eq_some_iff.mp (show (intsD ds).map (fun r => i :: r) = some ks from e)
      cases vs with
      | nil => exact r.elim
      | cons v vs =>
        have e2 : v = .int i := r.1
        rw [e2, ints_rel e1 r.2]
        rfl
    | _ => cases e
theorem intsOf_tup {d : D} {ks : List Int} (h : intsOf d = some ks) : ∃ l, d = .tup l ∧ intsD l = some ks := by
  cases d with
  | tup l => exact ⟨l, rfl, h⟩
  | _ => cases h
theorem in_set {B : Addr → Prop} {H : Hp} {d : D} {l : List (List Int)} {ks : List Int} {x y : V} (h : intsOf d = some ks) (r1 : Wk (tx X) B H d x) (r2 : Wk (tx X) B H (.set l) y) : ∃ b a L, x = .ref b ∧ y = .ref a ∧ SqT X.K H b (ks.map V.int) ∧ H a = some (SetTO X.prog X.w a L) ∧ (∀ p ∈ L, SqT X.K H p.1 (p.2.map V.int)) ∧ l.contains ks = decide (ks ∈ L.map (·.2)) := by
  obtain ⟨m, rfl, hm⟩ := intsOf_tup h
  obtain ⟨b, vs, rfl, h1, h2⟩ := r1
  obtain ⟨a, L, rfl, g1, _, g2, g3⟩ := r2
  have e := ints_rel hm h2
  subst e
  refine ⟨b, a, L, rfl, rfl, h1.sq, g1, fun p hp => (g2 p hp).sq, ?_⟩
  rw [Bool.eq_iff_iff, List.contains_iff_mem, decide_eq_true_eq]
  exact (g3 ks).symm
theorem pu_in : Pure2 X (rInA X) inD := by
  intro B H x y d e z Q _ r1 r2 h q
  obtain ⟨b, e1, rfl⟩ := Option.map_eq_some_iff.mp h
  cases e with
  | set l =>
    obtain ⟨ks, f1, f2⟩ := Option.map_eq_some_iff.mp (show (intsOf d).map (fun k => l.contains k) = some b from e1)
    obtain ⟨b', a, L, rfl, rfl, g1, g2, g3, g4⟩ := in_set f1 r1 r2
    refine .inl (.inl ⟨b', ks, a, L, rfl, rfl, g1, g2, g3, ?_⟩)
    have e : (false != decide (ks ∈ L.map (·.2))) = b := by
      rw [← f2, g4]
      cases decide (ks ∈ L.map (·.2)) <;> rfl
    rw [e]
    exact q H _ (Same.refl H) rfl
  | lst ds =>
    obtain ⟨c, f2⟩ := ite_some (show (if (okF 12 d && ds.all (okF 12)) = true then some (ds.any fun z => eqF 12 z d) else none) = some b from e1)
    obtain ⟨c1, c2⟩ := Bool.and_eq_true_iff.mp c
    obtain ⟨p, a1, a2⟩ := okF_shaped (by decide) c1
    obtain ⟨p2, b1, b2⟩ := okF_shaped (n := 13) (d := .lst ds) (by decide) c2
    obtain ⟨ps, b3, rfl⟩ := Option.map_eq_some_iff.mp (show (toPL ds).map .list = some p2 from b1)
    refine .inl (.inr ⟨p, ps, wk_dp a1 r1, wk_dp b1 r2, a2, b2, ?_⟩)
    rw [← any_eqv c1 a1 c2 b3, f2]
    exact q H _ (Same.refl H) rfl
  | tup ds =>
    obtain ⟨c, f2⟩ := ite_some (show (if (okF 12 d && ds.all (okF 12)) = true then some (ds.any fun z => eqF 12 z d) else none) = some b from e1)
    obtain ⟨c1, c2⟩ := Bool.and_eq_true_iff.mp c
    obtain ⟨p, a1, a2⟩ := okF_shaped (by decide) c1
    obtain ⟨p2, b1, b2⟩ := okF_shaped (n := 13) (d := .tup ds) (by decide) c2
    obtain ⟨ps, b3, rfl⟩ := Option.map_eq_some_iff.mp (show (toPL ds).map .tuple = some p2 from b1)
    refine .inr ⟨p, ps, wk_dp a1 r1, wk_dp b1 r2, a2, b2, ?_⟩
    rw [← any_eqv c1 a1 c2 b3, f2]
    exact q H _ (Same.refl H) rfl
  | _ => cases e1
theorem pu_notIn : Pure2 X (rNotInA X) notInD := by
  intro B H x y d e z Q _ r1 r2 h q
  obtain ⟨b, e1, rfl⟩ := Option.map_eq_some_iff.mp h
  cases e with
  | set l =>
    obtain ⟨ks, f1, f2⟩ := Option.map_eq_some_iff.mp (show (intsOf d).map (fun k => l.contains k) = some b from e1)
    obtain ⟨b', a, L, rfl, rfl, g1, g2, g3, g4⟩ := in_set f1 r1 r2
    refine .inl (.inl ⟨b', ks, a, L, rfl, rfl, g1, g2, g3, ?_⟩)
    have e : (true != decide (ks ∈ L.map (·.2))) = !b := by
      rw [← f2, g4]
      cases decide (ks ∈ L.map (·.2)) <;> rfl
    rw [e]
    exact q H _ (Same.refl H) rfl
  | lst ds =>
    obtain ⟨c, f2⟩ := ite_some (show (if (okF 12 d && ds.all (okF 12)) = true then some (ds.any fun z => eqF 12 z d) else none) = some b from e1)
    obtain ⟨c1, c2⟩ := Bool.and_eq_true_iff.mp c
    obtain ⟨p, a1, a2⟩ := okF_shaped (by decide) c1
    obtain ⟨p2, b1, b2⟩ := okF_shaped (n := 13) (d := .lst ds) (by decide) c2
    obtain ⟨ps, b3, rfl⟩ := Option.map_eq_some_iff.mp (show (toPL ds).map .list = some p2 from b1)
    refine .inl (.inr ⟨p, ps, wk_dp a1 r1, wk_dp b1 r2, a2, b2, ?_⟩)
    rw [← any_eqv c1 a1 c2 b3, f2]
    exact q H _ (Same.refl H) rfl
  | tup ds =>
    obtain ⟨c, f2⟩ := ite_some (show (if (okF 12 d && ds.all (okF 12)) = true then some (ds.any fun z => eqF 12 z d) else none) = some b from e1)
    obtain ⟨c1, c2⟩ := Bool.and_eq_true_iff.mp c
    obtain ⟨p, a1, a2⟩ := okF_shaped (by decide) c1
    obtain ⟨p2, b1, b2⟩ := okF_shaped (n := 13) (d := .tup ds) (by decide) c2
    obtain ⟨ps, b3, rfl⟩ := Option.map_eq_some_iff.mp (show (toPL ds).map .tuple = some p2 from b1)
    refine .inr ⟨p, ps, wk_dp a1 r1, wk_dp b1 r2, a2, b2, ?_⟩
    rw [← any_eqv c1 a1 c2 b3, f2]
    exact q H _ (Same.refl H) rfl
  | _ => cases e1

/-! ### set(a tuple of tuples of ints) -/
def keysD : List D → Option (List (List Int))
  | [] => some []
  | d :: ds => match intsOf d with
    | some k => (keysD ds).map fun r => k :: r
    | none => none
def setD (d : D) : Option D := match d with
  | .tup ds => if ds.length.blt 64 = true then (keysD ds).map .set else none
  | _ => none
def rSetOfTu (X : Cx) : List V → Hp → VK → Prop := fun xs H Q => ∃ (l : Addr) (ks : List (Addr × List Int)), xs = [V.ref l] ∧ SqT X.K H l (ks.map fun p => V.ref p.1) ∧ (∀ p ∈ ks, SqT X.K H p.1 (p.2.map V.int)) ∧ ks.length < 64 ∧
  ∀ a L, H a = none → (∀ p ∈ L, p ∈ ks) → (∀ p ∈ ks, p.2 ∈ L.map (·.2)) → Q (.ref a) (upd H a (SetTO X.prog X.w a L))
theorem cr_setOfTu (hc : X.calm = true) (hu : X.A.units + 64 < cLine) : CallR X (.type "set") (rSetOfTu X) := by
  intro pins s σ H xs us Q I r h
  obtain ⟨l, ks, rfl, hl, hk, hf, q⟩ := h
  rw [Vals.ref1 r]
  obtain ⟨its, rv, isT, _⟩ := I.tuple hl
  have fresh : H s.heap.objs.size = none := I.hok.fresh (Nat.le_refl _)
  have refs : its.toArray.toList = ks.map fun p => Value.ref p.1 := by simpa using refs_of_vals rv
  refine call_set_of_tuple (P := X.prog) (w := X.w) ks (I.ok.hd hc) isT refs (fun p hp => I.isT (hk p hp)) hf (by omega) fun h' tk L es ep t R g k => ?_
  refine ⟨.ref s.heap.objs.size, upd H s.heap.objs.size (SetTO X.prog X.w s.heap.objs.size L), I.laid (t' := tk) k (Nat.le_refl _) (setTO_new R.t0), rfl, ?_⟩
  exact q _ L fresh (fun p hp => List.mem_of_mem_take (g.sub p hp)) fun p hp => g.all p (by rw [List.take_length]; exact hp)
theorem keys_rel {B : Addr → Prop} {H : Hp} : ∀ {ds : List D} {kl : List (List Int)} {vs : List V}, keysD ds = some kl → RelL (tx X) B H ds vs → ∃ ks : List (Addr × List Int), vs = ks.map (fun p => V.ref p.1) ∧ ks.map (·.2) = kl ∧ ∀ p ∈ ks, TupAt X.K B H p.1 (p.2.map V.int)
  | [], kl, vs, e, r => by
    have e' := Option.some.inj e
    subst e'
    cases vs with
    | nil => exact ⟨[], rfl, rfl, fun p h => by cases h⟩
    | cons _ _ => exact r.elim
  | d :: ds, kl, vs, e, r => by
    have e' : (match intsOf d with
      | some k => (keysD ds).map fun r => k :: r
      | none => none) = some kl := e
    cases q : intsOf d with
    | none =>
      rw [q] at e'
      cases e'
    | some k =>
      rw [q] at e'
      obtain ⟨kl2, e1, rfl⟩ := Option.map_eq_some_iff.mp e'
      cases vs with
      | nil => exact r.elim
      | cons v vs =>
        obtain ⟨ks, g1, g2, g3⟩ := keys_rel e1 r.2
        obtain ⟨m, rfl, hm⟩ := intsOf_tup q
        obtain ⟨b, ws, rfl, h1, h2⟩ := r.1
        have e2 := ints_rel hm h2
        subst e2
        refine ⟨(b, k) :: ks, by rw [g1] <;> rfl, by rw [List.map_cons, g2], fun p hp => ?_⟩
        rcases List.mem_cons.mp hp with z | z
        · rw [z]
          exact h1
        · exact g3 p z
theorem pu_set : Pure1 X (r1N (rSetOfTu X)) setD := by
  intro B H x d z Q w r h q
  cases d with
  | tup ds =>
    obtain ⟨c, e1⟩ : ds.length.blt 64 = true ∧ (keysD ds).map .set = some z := by
      have h' : (if ds.length.blt 64 = true then (keysD ds).map .set else none) = some z := h
      by_cases c : ds.length.blt 64 = true
      · rw [if_pos c] at h'
        exact ⟨c, h'⟩
      · rw [if_neg c] at h'
        cases h'
    obtain ⟨kl, e2, rfl⟩ := Option.map_eq_some_iff.mp e1
    obtain ⟨l, vs, rfl, h1, h2⟩ := r
    obtain ⟨ks, g1, g2, g3⟩ := keys_rel e2 h2
    subst g1
    have few : ks.length < 64 := by
      have l2 := h2.length
      rw [List.length_map] at l2
      rw [← l2]
      exact Nat.le_of_ble_eq_true c
    refine ⟨l, ks, rfl, h1.sq, fun p hp => (g3 p hp).sq, few, fun a L ha s1 s2 => q _ _ (Same.upd ha) ⟨a, L, rfl, upd_same, fresh_bar w ha, fun p hp => (g3 p (s1 p hp)).ext (.same (Same.upd ha)), fun k => ?_⟩⟩
    rw [← g2]
    constructor
    · intro hk
      obtain ⟨p, hp, e⟩ := List.mem_map.mp hk
      exact List.mem_map.mpr ⟨p, s1 p hp, e⟩
    · intro hk
      obtain ⟨p, hp, e⟩ := List.mem_map.mp hk
      rw [← e]
      exact s2 p hp
  | _ => cases h

/-! ### < of tuples -/
def lvPair (d e : D) : Option Nat := if (isLv 0 d && isLv 0 e) = true then some 0 else if (isLv 1 d && isLv 1 e) = true then some 1 else if (isLv 2 d && isLv 2 e) = true then some 2 else if (isLv 3 d && isLv 3 e) = true then some 3 else none
theorem lvPair_some {d e : D} {n : Nat} (h : lvPair d e = some n) : isLv n d = true ∧ isLv n e = true ∧ n ≤ 3 := by
  unfold lvPair at h
  by_cases c0 : (isLv 0 d && isLv 0 e) = true
  · rw [if_pos c0] at h
    have e := Option.some.inj h
    subst e
    exact ⟨(Bool.and_eq_true_iff.mp c0).1, (Bool.and_eq_true_iff.mp c0).2, by decide⟩
  · rw [if_neg c0] at h
    by_cases c1 : (isLv 1 d && isLv 1 e) = true
    · rw [if_pos c1] at h
      have e := Option.some.inj h
      subst e
      exact ⟨(Bool.and_eq_true_iff.mp c1).1, (Bool.and_eq_true_iff.mp c1).2, by decide⟩
    · rw [if_neg c1] at h
      by_cases c2 : (isLv 2 d && isLv 2 e) = true
      · rw [if_pos c2] at h
        have e := Option.some.inj h
        subst e
        exact ⟨(Bool.and_eq_true_iff.mp c2).1, (Bool.and_eq_true_iff.mp c2).2, by decide⟩
      · rw [if_neg c2] at h
        obtain ⟨c3, e⟩ := ite_some h
        subst e
        exact ⟨(Bool.and_eq_true_iff.mp c3).1, (Bool.and_eq_true_iff.mp c3).2, by decide⟩
def ltD (d e : D) : Option D := (lvPair d e).map fun n => .bl (ltLv n d e)
def rLtD (X : Cx) : R2 := fun x y H Q => ∃ (B : Addr → Prop) (d e : D) (n : Nat), Rel (tx X) B H d x ∧ Rel (tx X) B H e y ∧ lvPair d e = some n ∧ Q (.bl (ltLv n d e)) H
theorem op_ltD (hu : X.A.units + 64 < cLine) : OpR X (compareOp .Lt) (rLtD X) := by
  intro pins s σ H x y v u Q I rx ry h
  obtain ⟨B, d, e, n, r1, r2, l, q⟩ := h
  obtain ⟨l1, l2, l3⟩ := lvPair_some l
  exact rv_lt n X.A d e v u (by omega) (rv_of I n l1 r1 rx).1 (rv_of I n l2 r2 ry).1 X.prog X.w _ _ ⟨.bl (ltLv n d e), H, I, rfl, q⟩
theorem lv_wk {B : Addr → Prop} {H : Hp} {n : Nat} {d : D} {x : V} (l : isLv n d = true) (r : Wk (tx X) B H d x) : Rel (tx X) B H d x := by
  cases d with
  | lst _ => cases n <;> cases l
  | obj _ _ _ => cases n <;> cases l
  | _ => exact r
theorem pu_lt : Pure2 X (rLtD X) ltD := by
  intro B H x y d e z Q _ r1 r2 h q
  obtain ⟨n, e1, rfl⟩ := Option.map_eq_some_iff.mp h
  obtain ⟨l1, l2, _⟩ := lvPair_some e1
  exact ⟨B, d, e, n, lv_wk l1 r1, lv_wk l2 r2, e1, q H _ (Same.refl H) rfl⟩
end
end DL

set_option Elab.async false
set_option linter.all false
set_option maxRecDepth 100000
set_option maxHeartbeats 4000000
/-! isinstance, slices, truth -/
namespace DL
open PySem PySem.Spec L2

/-! ### isinstance -/
inductive Ty5 where
  | int | bool | str | list | tuple
def Ty5.nm : Ty5 → String
  | .int => "int"
  | .bool => "bool"
  | .str => "str"
  | .list => "list"
  | .tuple => "tuple"
def isaTy : Ty5 → D → Option Bool
  | .int, .int _ => some true
  | .int, .bl _ => some true
  | .bool, .bl _ => some true
  | .str, .str _ => some true
  | .list, .lst _ => some true
  | .list, .scr _ => some true
  | .tuple, .tup _ => some true
  | _, .non => some false
  | _, .bl _ => some false
  | _, .int _ => some false
  | _, .str _ => some false
  | _, .tup _ => some false
  | _, .lst _ => some false
  | _, _ => none
def tyStr : D → Option String
  | .non => some "NoneType"
  | .bl _ => some "bool"
  | .int _ => some "int"
  | .str _ => some "str"
  | .tup _ => some "tuple"
  | .lst _ => some "list"
  | _ => none
theorem ty_wk {T : Tx} {B : Addr → Prop} {H : Hp} {d : D} {x : V} {t : String} (h : tyStr d = some t) (r : Wk T B H d x) : TyX T.K H x (.type t) := by
  cases d with
  | non =>
    have e := Option.some.inj h
    rw [← e, show x = .non from r]
    exact .base .non
  | bl b =>
    have e := Option.some.inj h
    rw [← e, show x = .bl b from r]
    exact .base (.bl b)
  | int b =>
    have e := Option.some.inj h
    rw [← e, show x = .int b from r]
    exact .base (.int b)
  | str b =>
    have e := Option.some.inj h
    rw [← e, show x = .str (DL.nm b) from r]
    exact .base (.str (DL.nm b))
  | tup l =>
    have e := Option.some.inj h
    obtain ⟨a, vs, rfl, h1, h2⟩ := r
    rw [← e]
    rcases h1 with ⟨h1, _⟩ | ⟨o, its, n, h1, h2, h3, _⟩
    · exact .base (.tup h1)
    · exact .kTuple h1 h2
  | lst l =>
    have e := Option.some.inj h
    obtain ⟨a, vs, rfl, h1, h2⟩ := r
    rw [← e]
    exact .base (.lst h1)
  | _ => cases h
theorem isaTy_kit {K : PySem.W.Frag} {T : Ty5} {d : D} {b : Bool} {t : String} (h : isaTy T d = some b) (ht : tyStr d = some t) : PySem.W.kitOne K (.type t) (.type T.nm) = some b := by
  cases d with
  | obj _ _ _ => cases ht
  | set _ => cases ht
  | cls _ => cases ht
  | scr _ => cases ht
  | xc _ _ _ => cases ht
  | _ =>
    have e1 := Option.some.inj ht
    subst e1
    cases T <;> (have e2 := Option.some.inj h; subst e2; exact kit_ty (by decide +kernel))
def isa1 (T : Ty5) (d : D) : Option D := match tyStr d with
  | some _ => (isaTy T d).map .bl
  | none => none
def isa2 (T T' : Ty5) (d : D) : Option D := match tyStr d with
  | some _ => match isaTy T d with
    | some true => some (.bl true)
    | some false => (isaTy T' d).map .bl
    | none => none
  | none => none
section
variable {X : Cx} {Wx : WX} {ms : Ms} {a : Expr} {fa : M D} {p p1 p2 p3 pos : Pos}
theorem de_isa1 (T : Ty5) {x : Str} (ha : DK X Wx ms a fa) (hg : Gl X "isinstance") (hm : X.mg "isinstance" = none) (hgT : Gl X x) (hmT : X.mg x = none) (hv : bootBuiltins "isinstance" = some (.builtin "isinstance") := by first | rfl | kernel_rfl) (hvT : bootBuiltins x = some (.type T.nm) := by first | rfl | kernel_rfl)
    (hnT : x ≠ "__name__" := by decide) (hdT : (x == ("__debug__" : Str)) = false := by decide) (h1 : starEach [a, .Name x p1] X.env = (false, eval a X.env) :: starEach [.Name x p1] X.env := by rfl) (h2 : starEach [.Name x p1] X.env = (false, eval (.Name x p1) X.env) :: starEach [] X.env := by rfl)
    (hpl : (backTo pos (starEach [.Name x p1] X.env)).any (·.1) = false := by rfl) : DE X Wx ms (.Call (.Name "isinstance" p) [a, .Name x p1] [] pos) (op1 (isa1 T) fa) := fun B W env σ H Q o h =>
  PE.tm (pe_callB call_isi hg hm hv pa_tm (by decide) (by decide) h1 hpl) (PA.tm (pa_cons pe_tm (pa_cons (pe_bltn (v := .ty T.nm) hgT hmT hvT rfl hnT hdT) pa_nil h2) h1) (ha _ _ _ _ _ _ o (h.cont (k1 := rkW (tx X)) fun d env1 W1 H1 v n1 o1 r1 h3 => by
    obtain ⟨z, e1, h4⟩ := of_pos h3
    have e1' : (match tyStr d with
      | some _ => (isaTy T d).map .bl
      | none => none) = some z := e1
    cases q : tyStr d with
    | none =>
      rw [q] at e1'
      cases e1'
    | some t =>
      rw [q] at e1'
      obtain ⟨b, e2, rfl⟩ := Option.map_eq_some_iff.mp e1'
      exact ⟨v, .ty T.nm, .type t, .type T.nm, b, rfl, .ty _, ty_wk q r1, isaTy_kit e2 q, h4.done (v := V.bl b) o1 rfl⟩)))
theorem de_isa2 (T T' : Ty5) {x y : Str} {tx' : Nat} (ha : DK X Wx ms a fa) (hg : Gl X "isinstance") (hm : X.mg "isinstance" = none) (hgT : Gl X x) (hmT : X.mg x = none) (hgT' : Gl X y) (hmT' : X.mg y = none) (hv : bootBuiltins "isinstance" = some (.builtin "isinstance") := by first | rfl | kernel_rfl)
    (hvT : bootBuiltins x = some (.type T.nm) := by first | rfl | kernel_rfl) (hvT' : bootBuiltins y = some (.type T'.nm) := by first | rfl | kernel_rfl) (hnT : x ≠ "__name__" := by decide) (hdT : (x == ("__debug__" : Str)) = false := by decide) (hnT' : y ≠ "__name__" := by decide) (hdT' : (y == ("__debug__" : Str)) = false := by decide)
    (h1 : starEach [a, .Tuple [.Name x p1, .Name y p2] tx' p3] X.env = (false, eval a X.env) :: starEach [.Tuple [.Name x p1, .Name y p2] tx' p3] X.env := by rfl) (h2 : starEach [.Tuple [.Name x p1, .Name y p2] tx' p3] X.env = (false, eval (.Tuple [.Name x p1, .Name y p2] tx' p3) X.env) :: starEach [] X.env := by rfl)
    (h3 : starEach [.Name x p1, .Name y p2] X.env = (false, eval (.Name x p1) X.env) :: starEach [.Name y p2] X.env := by rfl) (h4 : starEach [.Name y p2] X.env = (false, eval (.Name y p2) X.env) :: starEach [] X.env := by rfl)
    (hpl : (backTo pos (starEach [.Tuple [.Name x p1, .Name y p2] tx' p3] X.env)).any (·.1) = false := by rfl) : DE X Wx ms (.Call (.Name "isinstance" p) [a, .Tuple [.Name x p1, .Name y p2] tx' p3] [] pos) (op1 (isa2 T T') fa) := fun B W env σ H Q o h =>
  PE.tm (pe_callB call_isiT hg hm hv pa_tm (by decide) (by decide) h1 hpl) (PA.tm (pa_cons pe_tm (pa_cons (pe_tup (pa_cons (pe_bltn (v := .ty T.nm) hgT hmT hvT rfl hnT hdT) (pa_cons (pe_bltn (v := .ty T'.nm) hgT' hmT' hvT' rfl hnT' hdT') pa_nil h4) h3)) pa_nil h2) h1) (ha _ _ _ _ _ _ o (h.cont (k1 := rkW (tx X)) fun d env1 W1 H1 v n1 o1 r1 h5 => by
    obtain ⟨z, e1, h6⟩ := of_pos h5
    have e1' : (match tyStr d with
      | some _ => match isaTy T d with
        | some true => some (.bl true)
        | some false => (isaTy T' d).map .bl
        | none => none
      | none => none) = some z := e1
    refine ⟨by rw [sizeLine_eq]; show (2 : Nat) ≤ 16777216; decide, fun tp htp => ?_⟩
    cases q : tyStr d with
    | none =>
      rw [q] at e1'
      cases e1'
    | some t =>
      rw [q] at e1'
      have e2' : (match isaTy T d with
        | some true => some (.bl true)
        | some false => (isaTy T' d).map .bl
        | none => none) = some z := e1'
      have sm : Same H1 (upd H1 tp (.tup [.ty T.nm, .ty T'.nm])) := Same.upd htp
      have tyx : TyX X.K (upd H1 tp (.tup [.ty T.nm, .ty T'.nm])) v (.type t) := by
        have k := ty_wk q r1
        cases d with
        | non => rw [show v = .non from r1] at k ⊢; cases (Option.some.inj q); exact .base .non
        | bl b => rw [show v = .bl b from r1] at k ⊢; cases (Option.some.inj q); exact .base (.bl b)
        | int b => rw [show v = .int b from r1] at k ⊢; cases (Option.some.inj q); exact .base (.int b)
        | str b => rw [show v = .str (DL.nm b) from r1] at k ⊢; cases (Option.some.inj q); exact .base (.str (DL.nm b))
        | tup l => exact ty_wk (T := tx X) (B := Bar B W1) q (Rel.ext (.same sm) _ r1)
        | lst l =>
          obtain ⟨a, vs, rfl, g1, g2⟩ := r1
          cases (Option.some.inj q)
          exact .base (.lst (sm _ _ g1))
        | _ => cases q
      cases q2 : isaTy T d with
      | none =>
        rw [q2] at e2'
        cases e2'
      | some b1 =>
        rw [q2] at e2'
        cases b1 with
        | true =>
          have e3 := Option.some.inj e2'
          subst e3
          exact ⟨v, tp, [.ty T.nm, .ty T'.nm], .type t, [.type T.nm, .type T'.nm], true, rfl, upd_same, .cons (.ty _) (.cons (.ty _) .nil), tyx, kitAny_cons (isaTy_kit q2 q) (fun z => by cases z) (fun _ => rfl), h6.same (v := V.bl true) o1 sm rfl⟩
        | false =>
          obtain ⟨b, e3, rfl⟩ := Option.map_eq_some_iff.mp e2'
          refine ⟨v, tp, [.ty T.nm, .ty T'.nm], .type t, [.type T.nm, .type T'.nm], b, rfl, upd_same, .cons (.ty _) (.cons (.ty _) .nil), tyx, kitAny_cons (isaTy_kit q2 q) (fun _ => kitAny_cons (isaTy_kit e3 q) (fun z => ?_) (fun z => z)) (fun z => by cases z), h6.same (v := V.bl b) o1 sm rfl⟩
          rw [z]
          rfl)))
/-- isinstance(o, C), C an own class, o an instance -/
structure IsiC (K : PySem.W.Frag) (C : Addr) : Prop where
  cl : Cls K C
  ha : PySem.W.findIn K (.ref C) "__class__" = some (some (.builtin "object.__class__"))
  hn : PySem.W.specialIn K (.builtin "object.__class__") "__get__" = some (some (.builtin "getset_descriptor.__get__"))
  htk : PySem.W.takesIn K (.builtin "object.__class__") = some true
  hm : PySem.W.mroIn K C (.type "object") = some true
def IsiOk (X : Cx) (t : List (Nat × Bool)) (c : Nat) : Prop := ∀ q ∈ t, IsiC X.K (He.ga X.K (nm q.1)) ∧ PySem.W.kitOne X.K (.ref (He.ga X.K (nm q.1))) (.ref (He.ga X.K (nm c))) = some q.2
def isaOwn (t : List (Nat × Bool)) (d : D) : Option D := match d with
  | .obj c _ _ => (t.find? fun q => Nat.beq q.1 c).map fun q => .bl q.2
  | _ => none
theorem de_isaC (t : List (Nat × Bool)) (c : Nat) {x : Str} (hT : IsiOk X t c) (ha : DK X Wx ms a fa) (hg : Gl X "isinstance") (hm : X.mg "isinstance" = none) (hgC : Gl X x) (hmC : X.mg x = some (.ref (He.ga X.K x))) (hx : nm c = x := by rfl) (hv : bootBuiltins "isinstance" = some (.builtin "isinstance") := by first | rfl | kernel_rfl)
    (hdC : (x == ("__debug__" : Str)) = false := by decide) (h1 : starEach [a, .Name x p1] X.env = (false, eval a X.env) :: starEach [.Name x p1] X.env := by rfl) (h2 : starEach [.Name x p1] X.env = (false, eval (.Name x p1) X.env) :: starEach [] X.env := by rfl)
    (hpl : (backTo pos (starEach [.Name x p1] X.env)).any (·.1) = false := by rfl) : DE X Wx ms (.Call (.Name "isinstance" p) [a, .Name x p1] [] pos) (op1 (isaOwn t) fa) := by
  subst hx
  exact fun B W env σ H Q o h =>
  PE.tm (pe_callB call_isi hg hm hv pa_tm (by decide) (by decide) h1 hpl) (PA.tm (pa_cons pe_tm (pa_cons (pe_glob (v := .ref (He.ga X.K (nm c))) hgC hmC rfl hdC) pa_nil h2) h1) (ha _ _ _ _ _ _ o (h.cont (k1 := rkW (tx X)) fun d env1 W1 H1 v n1 o1 r1 h3 => by
    obtain ⟨z, e1, h4⟩ := of_pos h3
    cases d with
    | obj k ns ds =>
      obtain ⟨q, e2, rfl⟩ := Option.map_eq_some_iff.mp (show (t.find? fun q => Nat.beq q.1 k).map (fun q => D.bl q.2) = some z from e1)
      have e3 := nbeq (i := q.1) (j := k) (List.find?_some (p := fun q : Nat × Bool => Nat.beq q.1 k) e2)
      subst e3
      obtain ⟨k1, k2⟩ := hT q (List.mem_of_find?_eq_some e2)
      obtain ⟨a', dx, vs, rfl, r2, r3, r4⟩ := r1
      exact ⟨_, .ref (He.ga X.K (nm c)), .ref (He.ga X.K (nm q.1)), .ref (He.ga X.K (nm c)), q.2, rfl, .own _, .base (.ins r2 k1.cl k1.ha k1.hn k1.htk k1.hm), k2, h4.done (v := V.bl q.2) o1 rfl⟩
    | _ => cases e1)))
end

/-! ### slices -/
def cutD (l : List D) (lo hi : Option Int) : List D := (l.drop (HT.sIx l.length 0 lo)).take (HT.sIx l.length l.length hi - HT.sIx l.length 0 lo)
theorem cut_rel {T : Tx} {B : Addr → Prop} {H : Hp} {ds : List D} {vs : List V} (r : RelL T B H ds vs) (lo hi : Option Int) : RelL T B H (cutD ds lo hi) (cutV vs lo hi) := by
  unfold cutD cutV
  rw [← r.length]
  exact (r.drop _).take _
/-- a part of a slice: left out, or an expression -/
def vPart (f : Option (M D)) : M (Option Int) := fun env => match f with
  | none => .ok none env
  | some g => (g env).bind fun d env1 => match d with
    | .int i => .ok (some i) env1
    | _ => .stuck
def DP (X : Cx) (Wx : WX) (ms : Ms) (e : Option Expr) (f : M (Option Int)) : Prop := ∃ t : TO, PO X e t ∧ ∀ B W env σ H Q, Ok (tx X) ms B W env σ H → Po (tx X) Wx ms B W σ H (⟨fun _ _ _ _ _ _ a v => v = a, fun _ h => h⟩ : Rk (tx X) (Option Int) (Option Int)) (f env) Q → t σ H Q
section
variable {X : Cx} {Wx : WX} {ms : Ms} {e a : Expr} {lo hi : Option Expr} {fa fe : M D} {fl fh : M (Option Int)} {pos p2 : Pos}
theorem dp_none : DP X Wx ms none (vPart none) := ⟨tNoPart, po_none, fun B W env σ H Q o h => h.done (v := none) o rfl⟩
theorem dp_some (ha : DE X Wx ms e fe) : DP X Wx ms (some e) (vPart (some fe)) := ⟨_, po_some pe_tm, fun B W env σ H Q o h => ha _ _ _ _ _ _ o (Po.cont (k1 := rkD (tx X)) (f := fun d env1 => match d with | .int i => .ok (some i) env1 | _ => .stuck) h fun d env1 W1 H1 v n1 o1 r1 h1 => by
    cases d with
    | int i => exact ⟨i, r1, h1.done (v := some i) o1 rfl⟩
    | _ => exact h1.elim)⟩
/-- a[lo:hi] of a tuple, of a list (a list that is not written to any more) -/
def slD (d : D) (lo hi : Option Int) : Option D := match d with
  | .tup l => some (.tup (cutD l lo hi))
  | .lst l => some (.lst (cutD l lo hi))
  | _ => none
def vSl (g : D → Option Int → Option Int → Option D) (fa : M D) (fl fh : M (Option Int)) : M D := fun env => (fa env).bind fun d env1 => (fl env1).bind fun lo env2 => (fh env2).bind fun hi env3 => M.of (g d lo hi) env3
theorem sIx_le (n : Nat) (o : Option Int) (d : Nat) (h : d ≤ n) : HT.sIx n d o ≤ n := by
  cases o with
  | none => exact h
  | some v =>
    show (if v < 0 then (v + (n : Int)).toNat else min v.toNat n) ≤ n
    by_cases q : v < 0
    · rw [if_pos q]
      omega
    · rw [if_neg q]
      exact Nat.min_le_right _ _
theorem de_slice (ha : DE X Wx ms a fa) (hl : DP X Wx ms lo fl) (hh : DP X Wx ms hi fh) : DE X Wx ms (.Subscript a (.Slice lo hi none p2) pos) (vSl slD fa fl fh) := by
  obtain ⟨tl, hl1, hl2⟩ := hl
  obtain ⟨th, hh1, hh2⟩ := hh
  exact fun B W env σ H Q o h => PE.tm (pe_slice (sl_tupA.or sl_list) pe_tm hl1 hh1) (ha _ _ _ _ _ _ o (h.cont (k1 := rkD (tx X)) fun d env1 W1 H1 v n1 o1 r1 h1 => hl2 _ _ _ _ _ _ o1 (h1.cont fun l env2 W2 H2 l' n2 o2 el h2 => hh2 _ _ _ _ _ _ o2 (h2.cont fun u env3 W3 H3 u' n3 o3 eu h3 => by
    have el' : l' = l := el
    have eu' : u' = u := eu
    subst el' eu'
    obtain ⟨z, e1, h4⟩ := of_pos h3
    cases d with
    | tup ds =>
      have e2 := Option.some.inj e1
      subst e2
      obtain ⟨b, vs, rfl, g1, g2⟩ := Rel.ext n3.ext _ (Rel.ext n2.ext _ r1)
      refine .inl ⟨b, vs, rfl, g1.sq, fun hw => ?_, fun _ p hp => ?_⟩
      · have e3 : cutD ds l' u' = ds := by
          unfold cutD
          have hlen := g2.length
          rw [hlen, hw.1, hw.2, List.drop_zero, Nat.sub_zero, ← hlen, List.take_length]
        rw [e3] at h4
        exact h4.done o3 ⟨b, vs, rfl, g1, g2⟩
      · exact h4.same o3 (Same.upd hp) ⟨p, _, rfl, .inl ⟨upd_same, fresh_bar o3.wf hp⟩, RelL.ext (.same (Same.upd hp)) _ (cut_rel g2 _ _)⟩
    | lst ds =>
      have e2 := Option.some.inj e1
      subst e2
      obtain ⟨b, vs, rfl, g1, g0, g2⟩ := Rel.ext n3.ext _ (Rel.ext n2.ext _ r1)
      exact .inr ⟨b, vs, rfl, SqL.of g1, fun p hp => h4.same o3 (Same.upd hp) ⟨p, _, rfl, upd_same, fresh_bar o3.wf hp, RelL.ext (.same (Same.upd hp)) _ (cut_rel g2 _ _)⟩⟩
    | _ => cases e1))))
/-- the same of a list, a new one -/
def slL (d : D) (lo hi : Option Int) : Option D := match d with
  | .lst l => some (.lst (cutD l lo hi))
  | _ => none
theorem df_slice (ha : DE X Wx ms a fa) (hl : DP X Wx ms lo fl) (hh : DP X Wx ms hi fh) : DF X Wx ms (.Subscript a (.Slice lo hi none p2) pos) (vSl slL fa fl fh) := by
  obtain ⟨tl, hl1, hl2⟩ := hl
  obtain ⟨th, hh1, hh2⟩ := hh
  exact fun B W env σ H Q o h => PE.tm (pe_slice sl_list pe_tm hl1 hh1) (ha _ _ _ _ _ _ o (h.cont (k1 := rkD (tx X)) fun d env1 W1 H1 v n1 o1 r1 h1 => hl2 _ _ _ _ _ _ o1 (h1.cont fun l env2 W2 H2 l' n2 o2 el h2 => hh2 _ _ _ _ _ _ o2 (h2.cont fun u env3 W3 H3 u' n3 o3 eu h3 => by
    have el' : l' = l := el
    have eu' : u' = u := eu
    subst el' eu'
    obtain ⟨z, e1, h4⟩ := of_pos h3
    cases d with
    | lst ds =>
      have e2 := Option.some.inj e1
      subst e2
      obtain ⟨b, vs, rfl, g1, g0, g2⟩ := Rel.ext n3.ext _ (Rel.ext n2.ext _ r1)
      exact ⟨b, vs, rfl, SqL.of g1, fun p hp => h4.made o3 hp (cut_rel g2 _ _)⟩
    | _ => cases e1))))
def revD (d : D) : Option D := match d with
  | .lst l => some (.lst l.reverse)
  | _ => none
theorem df_rev {k : Nat} {p1 p3 : Pos} (ha : DK X Wx ms a fa) : DF X Wx ms (.Subscript a (.Slice none none (some (.UnaryOp .USub (.Constant (.int 1) k p1) p2)) p3) pos) (op1 revD fa) := fun B W env σ H Q o h =>
  PE.tm (pe_revL pe_tm) (ha _ _ _ _ _ _ o (h.cont (k1 := rkW (tx X)) fun d env1 W1 H1 v n1 o1 r1 h1 => by
    obtain ⟨z, e1, h4⟩ := of_pos h1
    cases d with
    | lst ds =>
      have e2 := Option.some.inj e1
      subst e2
      obtain ⟨b, vs, rfl, g1, g2⟩ := r1
      exact ⟨b, vs, rfl, SqL.of g1, fun p hp => h4.made o1 hp g2.reverse⟩
    | _ => cases e1))

/-! ### the truth of a value -/
def truD (d : D) : Option Bool := match d with
  | .non => some false
  | .bl b => some b
  | .int i => some (i != 0)
  | .tup l => some (!l.isEmpty)
  | .lst l => some (!l.isEmpty)
  | _ => none
theorem tru_rel {B : Addr → Prop} {H : Hp} {d : D} {v : V} {b : Bool} (h : truD d = some b) (r : Wk (tx X) B H d v) : TruV X.K v H b := by
  have em : ∀ {ds : List D} {vs : List V}, RelL (tx X) B H ds vs → (!vs.isEmpty) = !ds.isEmpty := fun {ds vs} r => by
    cases ds with
    | nil => cases vs with
      | nil => rfl
      | cons _ _ => exact r.elim
    | cons _ _ => cases vs with
      | nil => exact r.elim
      | cons _ _ => rfl
  cases d with
  | non =>
    have e := Option.some.inj h
    rw [← e, show v = .non from r]
    exact rfl
  | bl c =>
    have e := Option.some.inj h
    rw [← e, show v = .bl c from r]
    exact rfl
  | int c =>
    have e := Option.some.inj h
    rw [← e, show v = .int c from r]
    exact rfl
  | tup l =>
    have e := Option.some.inj h
    obtain ⟨a, vs, rfl, h1, h2⟩ := r
    exact .inr (.inl ⟨vs, h1.sq, by rw [← e]; exact (em h2).symm⟩)
  | lst l =>
    have e := Option.some.inj h
    obtain ⟨a, vs, rfl, h1, h2⟩ := r
    exact .inl ⟨vs, SqL.of h1, by rw [← e]; exact (em h2).symm⟩
  | _ => cases h
def tTru (f : M D) : M Bool := fun env => (f env).bind fun d env1 => M.of (truD d) env1
theorem dt_tru (ha : DK X Wx ms a fa) (he : ∀ whole, isTrue a X.env whole = (do let v ← whole; standAt a.pos; holding [v] (truthy v)) := by intro _; rfl) : DT X Wx ms a (tTru fa) := fun B W env σ H Q o h =>
  PT.tm (pt_truth pe_tm he) (ha _ _ _ _ _ _ o (h.cont (k1 := rkW (tx X)) fun d env1 W1 H1 x n1 o1 r1 h1 => by
    obtain ⟨z, e1, h3⟩ := of_pos h1
    exact ⟨z, tru_rel e1 r1, h3.done o1 rfl⟩))
/-- * -/
def repD (d e : D) : Option D := match d, e with
  | .lst l, .int k => if (decide (-1000000 < k) && decide (k < 1000000) && small (l.length * k.toNat)) = true then some (.lst (repL l k.toNat)) else none
  | _, _ => none
theorem pu_rep : Pure2F X rRep repD := by
  intro B H x y d e z Q w r1 r2 h q
  cases d with
  | lst l =>
    cases e with
    | int k =>
      obtain ⟨c, rfl⟩ := ite_some h
      obtain ⟨c1, c2⟩ := Bool.and_eq_true_iff.mp c
      obtain ⟨c3, c4⟩ := Bool.and_eq_true_iff.mp c1
      have k1 := of_decide_eq_true c3
      have k2 := of_decide_eq_true c4
      obtain ⟨a, vs, rfl, g1, g2⟩ := r1
      have rep : ∀ n : Nat, RelL (tx X) B H (repL l n) (List.replicate n vs).flatten := by
        intro n
        induction n with
        | zero => trivial
        | succ n ih =>
          show RelL (tx X) B H (List.replicate (n + 1) l).flatten _
          rw [List.replicate_succ, List.replicate_succ, List.flatten_cons, List.flatten_cons]
          exact g2.append ih
      refine ⟨a, k, vs, rfl, r2, g1, by omega, by omega, by rw [← g2.length]; exact small_line c2, fun p hp => q p _ _ rfl hp (rep _)⟩
    | _ => cases h
  | _ => cases h
end
end DL

set_option Elab.async false
set_option linter.all false
set_option maxRecDepth 100000
set_option maxHeartbeats 4000000
/-! own ==, !=, binary operators, len -/
namespace DL
open PySem PySem.Spec L2

/-- values by Rel alone -/
def Pure2R (X : Cx) (r : R2) (g : D → D → Option D) : Prop := ∀ {B : Addr → Prop} {H : Hp} {x y : V} {d e z : D} {Q : VK}, Wf B H → Rel (tx X) B H d x → Rel (tx X) B H e y → g d e = some z → (∀ H' v, Same H H' → Rel (tx X) B H' z v → Q v H') → r x y H Q
theorem Pure2.R {X : Cx} {r : R2} {g : D → D → Option D} (p : Pure2 X r g) : Pure2R X r g := fun w r1 r2 h q => p w (Rel.wk r1) (Rel.wk r2) h q
def orD (own plain : D → D → Option D) (d e : D) : Option D := match d with
  | .obj _ _ _ => own d e
  | _ => plain d e
theorem Pure2R.or {X : Cx} {r r' : R2} {g g' : D → D → Option D} (p : Pure2R X r g) (p' : Pure2R X r' g') : Pure2R X (fun x y H Q => r x y H Q ∨ r' x y H Q) (orD g g') := fun {B H x y d e z Q} w r1 r2 h q => by
  cases d with
  | obj _ _ _ => exact .inl (p w r1 r2 h q)
  | _ => exact .inr (p' w r1 r2 h q)
section
variable {X : Cx} {Wx : WX} {ms : Ms} {a b : Expr} {fa fb : M D} {pos : Pos}
theorem tm_op2R {r : R2} {g : D → D → Option D} (p : Pure2R X r g) (ha : DE X Wx ms a fa) (hb : DE X Wx ms b fb) {B : Br} {W : Addr → Prop} {env : En} {σ : L2.St} {H : Hp} {Q : VK} (o : Ok (tx X) ms B W env σ H)
    (h : Po (tx X) Wx ms B W σ H (rkD (tx X)) (op2 g fa fb env) Q) : tm X a σ H fun x H1 => tm X b σ H1 fun y H2 => r x y H2 Q :=
  ha _ _ _ _ _ _ o (h.cont (k1 := rkD (tx X)) fun d env1 W1 H1 x n1 o1 r1 h1 => hb _ _ _ _ _ _ o1 (h1.cont (k1 := rkD (tx X)) fun e env2 W2 H2 y n2 o2 r2 h2 => by
    obtain ⟨z, e1, h3⟩ := of_pos h2
    exact p o2.wf (Rel.ext n2.ext d r1) r2 e1 fun H' v s rv => h3.same o2 s rv))
theorem de_opR {op : Operator} {r : R2} {g : D → D → Option D} (ho : OpR X (binaryOp op) r) (p : Pure2R X r g) (ha : DE X Wx ms a fa) (hb : DE X Wx ms b fb) : DE X Wx ms (.BinOp a op b pos) (op2 g fa fb) := fun B W env σ H Q o h =>
  PE.tm (pe_op ho pe_tm pe_tm) (tm_op2R p ha hb o h)
theorem de_cmpR {op : CmpOp} {r : R2} {g : D → D → Option D} (ho : OpR X (compareOp op) r) (p : Pure2R X r g) (ha : DE X Wx ms a fa) (hb : DE X Wx ms b fb) (hm : behindInMarks op b = false := by first | exact nomark _ | rfl) : DE X Wx ms (.Compare a [op] [b] pos) (op2 g fa fb) := fun B W env σ H Q o h =>
  PE.tm (pe_cmpR ho pe_tm pe_tm hm) (tm_op2R p ha hb o h)
theorem dt_cmpR {op : CmpOp} {r : R2} {g : D → D → Option D} (ho : OpR X (compareOp op) r) (p : Pure2R X r g) (ha : DE X Wx ms a fa) (hb : DE X Wx ms b fb) (hm : behindInMarks op b = false := by first | exact nomark _ | rfl) : DT X Wx ms (.Compare a [op] [b] pos) (tB1 (op2 g fa fb)) := fun B W env σ H Q o h => by
  rw [op2_as] at h
  refine PT.tm (pt_cmpR ho pe_tm pe_tm hm) (ha _ _ _ _ _ _ o (h.cont (k1 := rkD (tx X)) fun d env1 W1 H1 x n1 o1 r1 h1 => hb _ _ _ _ _ _ o1 (h1.cont (k1 := rkD (tx X)) fun e env2 W2 H2 y n2 o2 r2 h2 => ?_)))
  obtain ⟨z, e1, h3⟩ := of_pos h2
  obtain ⟨zd, e2, e3⟩ := Option.bind_eq_some_iff.mp e1
  have e4 := asB_some e3
  subst e4
  exact p o2.wf (Rel.ext n2.ext d r1) r2 e2 fun H' v s rv => ⟨z, rv, h3.same o2 s rfl⟩
end

/-! ### what the model does -/
section
open PySem.W PyProof.Rows
variable {prog : Program} {w : World} {A : Around} {E : Value → Shared → Prop} {s : Shared} {K : Frag} {x C f : Addr} {ox : Obj} {od : Option Obj} {tb b : Value} {name : Str}
theorem ifBound_slot {M : Model} {args : List Value} {Q : Option Value → Shared → Prop} {T id : String} (X : K.In s.heap) (I : InstAt s.heap x ox C od) (hs : findIn K (.ref C) name = some (some (.builtin id))) (S : Slot T name id)
    (h : wpAny M A (call (.builtin id) (.ref x :: args)) (fun v => Q (some v)) E s) : wpAny M A (callSpecialIfBound? (.ref x) name args) Q E s := by
  simp only [callSpecialIfBound?, bindSpecialIfBound?]
  refine wpAny_holding (wpAny_bind (wpAny_bind (wpAny_bind (I.type.here ((looks_findIn X hs).here ?_)))))
  have last : wpAny M A (call (.builtin id) ([.ref x] ++ args) >>= fun v => pure (some v)) Q E s := wpAny_bind (wpAny_mono h (fun v s' h' => wpAny_pure h') fun _ _ h' => h')
  refine wpAny_bind (wpAny_askSetting (wpAny_ite ?_))
  simp only [S.bind]
  split
  · exact wpAny_bind (wpAny_pure (wpAny_pure (by exact last)))
  · exact wpAny_tryCatch (wpAny_bind (wpAny_pure (wpAny_pure (by exact last))))
def NotBack (Q : Value → Shared → Prop) (v : Value) (s' : Shared) : Prop := ∃ c, v = .bool c ∧ Q (.bool (!c)) s'
/-- x != b, where the class has an own == and object's != -/
theorem ne_own {Q : Value → Shared → Prop} (hu : A.units + 64 < cLine) (X : K.In s.heap) (I : InstAt s.heap x ox C od) (hb : W.Looks (model prog w) s.heap (typeOf b) tb) (hn : notFirst K C tb = true) (he : findIn K (.ref C) "__eq__" = some (some (.ref f))) (hf : isFn K (.ref f) = true)
    (hne : findIn K (.ref C) "__ne__" = some (some (.builtin "object.__ne__"))) (hm : mroIn K C (.type "object") = some true) (h : wpAny (model prog w) A.in1 (call (.ref f) [.ref x, b]) (NotBack Q) E s) : wpAny (model prog w) A (richCompare .NotEq (.ref x) b) Q E s := by
  have u1 : A.in1.units = A.units + 1 := rfl
  have isObj : W.Looks (model prog w) s.heap (isInstance (.ref x) (.type "object")) true := I.type.andThen (W.looks_mroIn X hm)
  have one : wpAny (model prog w) A (tryCompare (.ref x) (cmpInfo .NotEq).2.1 b) (fun r s' => ∃ v, r = some v ∧ Q v s') E s := by
    unfold tryCompare
    refine wpAny_bind (ifBound_slot X I hne PySem.F.cmp_object.ne ?_)
    refine wpAny_call (codeAny_call_builtin PySem.F.cmp_object.ne.plain PySem.F.cmpEntry_ne ?_)
    refine @W.check_slot (model prog w) _ _ s "object.__ne__" "object" "__ne__" (.ref x) [b] [] _ PySem.F.cmpKind_ne PySem.F.cmpSplit_ne isObj (PySem.F.cmpArgs_ne _ _) ?_
    unfold Builtin.«object.__ne__»
    refine wpAny_bind (wpAny_of_eq (a := ((Value.ref x : Value), [b])) (by first | rfl | (simp only [slotArgs]; rfl)) ?_)
    dsimp only
    refine wpAny_bind (wpAny_cRoomFor (by omega) ?_)
    refine wpAny_bind (ifBound_K X I he hf (wpAny_mono h (fun v s' hv => ?_) fun _ _ e => e))
    obtain ⟨c, rfl, hq⟩ := hv
    refine wpAny_bind (wpAny_truthy_bool ?_)
    refine wpAny_pure ?_
    show wpAny _ _ (pure (some (Value.bool (!c)))) _ _ _
    exact wpAny_pure ⟨_, rfl, hq⟩
  unfold richCompare
  simp only [oneThing_ref]
  refine wpAny_holding (wpAny_bind (wpAny_cRoomFor (by omega) ?_))
  refine wpAny_bind (I.type.here (wpAny_bind (hb.here ?_)))
  split
  · rename_i q
    have e : subIn K tb (.ref C) = some false := by
      rcases Bool.or_eq_true_iff.mp hn with e | e
      · rw [beq_iff_eq.mp e] at q
        simp at q
      · exact beq_iff_eq.mp e
    refine wpAny_bind ((looks_subIn X e).here ?_)
    simp only [Bool.false_eq_true, if_false]
    refine wpAny_bind (wpAny_mono one (fun r s' z => ?_) fun _ _ e => e)
    obtain ⟨v, rfl, hq⟩ := z
    exact wpAny_pure hq
  · refine wpAny_bind (wpAny_pure ?_)
    simp only [Bool.false_eq_true, if_false]
    refine wpAny_bind (wpAny_mono one (fun r s' z => ?_) fun _ _ e => e)
    obtain ⟨v, rfl, hq⟩ := z
    exact wpAny_pure hq
/-- x op b, where b is of a built-in type that has no such operator -/
theorem bin_own {op : Operator} {T : String} {Q : Value → Shared → Prop} (X : K.In s.heap) (I : InstAt s.heap x ox C od) (hb : W.Looks (model prog w) s.heap (typeOf b) (.type T)) (hc : selfFirst K C = true) (hs : findIn K (.ref C) (PySem.dunder op.info.2) = some (some (.ref f))) (hf : isFn K (.ref f) = true)
    (hno : fillsNumberSlot (.type T) op.info.2 = pure false) (h : wpAny (model prog w) A (call (.ref f) [.ref x, b]) (W.CmpBack Q) E s) : wpAny (model prog w) A (binaryOp op (.ref x) b) Q E s := by
  obtain ⟨cd, hcd, hm⟩ := any_some hc
  obtain ⟨rest, hm⟩ : ∃ rest, cd.mro = .ref C :: rest := by
    cases q : cd.mro with
    | nil =>
      rw [q] at hm
      cases hm
    | cons a r =>
      rw [q] at hm
      rw [List.head?_cons] at hm
      cases (beq_iff_eq.mp hm)
      exact ⟨r, rfl⟩
  unfold binaryOp
  refine wpAny_holding (wpAny_bind ?_)
  unfold binaryOp1
  refine wpAny_bind (I.type.here (wpAny_bind (hb.here (wpAny_bind ((fills_K X hcd hm hs).here ?_)))))
  have apart : (Value.ref C == Value.type T) = false := rfl
  refine wpAny_bind (wpAny_of_eq hno ?_)
  simp only [Bool.and_false, Bool.false_eq_true, if_false, Bool.false_and]
  refine wpAny_bind (wpAny_pure ?_)
  simp only [Bool.false_eq_true, if_false]
  refine wpAny_bind (m := tryMethod (.ref x) _ b) ?_
  unfold tryMethod
  refine wpAny_bind (special_fn X I hs (beq_iff_eq.mp hf) (wpAny_mono h (fun v s' hv => ?_) fun _ _ e => e))
  cases v <;> first | exact hv.elim | exact wpAny_pure (wpAny_pure (wpAny_pure hv))
theorem noXor_list : fillsNumberSlot (.type "list") "xor" = pure false := by kernel_rfl
theorem noXor_tuple : fillsNumberSlot (.type "tuple") "xor" = pure false := by kernel_rfl
end
end DL

set_option Elab.async false
set_option linter.all false
set_option maxRecDepth 100000
set_option maxHeartbeats 4000000
/-! own operators, of data -/
namespace DL
open PySem PySem.Spec L2

/-- nothing is raised -/
abbrev xNo : XK := fun _ _ _ => False
section
variable {X : Cx} {k : Nat} {gf : Addr} {sp : Sp}
/-- a def called from anywhere below the body -/
theorem run_no {A : Around} {pins : List (Addr × Obj)} {σ : L2.St} {H : Hp} {s : Shared} {Q : VK} {us : List Value} {vs : List V} (F : FnR X.prog X.w X.K X.mg X.base (L2.CX X.prog X.w) k gf sp) (hr : Room k A) (e0 : Env0 X.prog X.w X.K X.mg X.base A X.stack s H) (I : L2.Inv X pins σ H s) (r : Vals vs us) (h : sp vs H Q xNo)
    {R : Value → Shared → Prop} {E : Value → Shared → Prop} (q : ∀ v s', EP X pins σ Q v s' → R v s') : wpAny (model X.prog X.w) A (call (.ref gf) us) R E s := by
  refine wpAny_call (codeAny_mono (F A X.stack s H us vs Q xNo hr e0 r h) fun r s' hq => ?_)
  cases r with
  | error e =>
    obtain ⟨_, _, _, _, _, _, _, _, _, _, _, _, z⟩ := hq
    exact z.elim
  | ok fl =>
    cases fl with
    | ret u => exact q _ _ (I.after hq)
    | next => exact False.elim hq
    | brk => exact False.elim hq
    | cont => exact False.elim hq
theorem relV_notImpl {z : V} (h : L2.RelV z .notImplemented) : False := by
  cases z with
  | int i => obtain ⟨t, e⟩ := (show ∃ t, Value.notImplemented = Value.int i t from h); cases e
  | str i => obtain ⟨t, e⟩ := (show ∃ t, Value.notImplemented = Value.str i t from h); cases e
  | byt i => obtain ⟨t, e⟩ := (show ∃ t, Value.notImplemented = Value.bytes i t from h); cases e
  | flt i => obtain ⟨t, e⟩ := (show ∃ t, Value.notImplemented = Value.float i t from h); cases e
  | _ => cases h
def rOwnEq (X : Cx) (k : Nat) : R2 := fun x y H Q => ∃ a C dx fs b C2 dy gs gf sp, x = .ref a ∧ y = .ref b ∧ H a = some (.ins C dx fs) ∧ H b = some (.ins C2 dy gs) ∧ Meth X.K C "__eq__" gf ∧ PySem.W.notFirst X.K C (.ref C2) = true ∧
  FnR X.prog X.w X.K X.mg X.base (L2.CX X.prog X.w) k gf sp ∧ sp [x, y] H Q xNo
theorem op_ownEq (hr : Room k X.A) : OpR X (compareOp .Eq) (rOwnEq X k) := by
  intro pins s σ H x y u v Q I rx ry h
  obtain ⟨a, C, dx, fs, b, C2, dy, gs, gf, sp, rfl, rfl, ha, hb, hm, hn, F, q⟩ := h
  cases rx
  cases ry
  obtain ⟨mA, J, _⟩ := ins_get I.hok ha
  obtain ⟨mB, J', _⟩ := ins_get I.hok hb
  obtain ⟨od, J, _⟩ := J.look
  obtain ⟨od', J', _⟩ := J'.look
  obtain ⟨m, hF⟩ := I.fr
  show wpAny _ _ (richCompare .Eq (.ref a) (.ref b)) _ _ s
  refine PySem.W.cmp_K (op := .Eq) (tb := .ref C2) hr.units0 hF I.ok.mod.kin J J'.type hn hm.at_ hm.fn ?_
  refine run_no (vs := [.ref a, .ref b]) F hr I.env0 I (.cons rfl (.cons rfl .nil)) q fun v s' z => ?_
  obtain ⟨z', H', I', rz, qz⟩ := z
  cases v <;> first
    | exact (relV_notImpl rz).elim
    | exact ⟨z', H', I', rz, qz⟩
def rOwnNe (X : Cx) (k : Nat) : R2 := fun x y H Q => ∃ a C dx fs b C2 dy gs gf sp, x = .ref a ∧ y = .ref b ∧ H a = some (.ins C dx fs) ∧ H b = some (.ins C2 dy gs) ∧ Meth X.K C "__eq__" gf ∧ PySem.W.findIn X.K (.ref C) "__ne__" = some (some (.builtin "object.__ne__")) ∧ PySem.W.mroIn X.K C (.type "object") = some true ∧
  PySem.W.notFirst X.K C (.ref C2) = true ∧ FnR X.prog X.w X.K X.mg X.base (L2.CX X.prog X.w) k gf sp ∧ sp [x, y] H (fun v H' => ∃ c, v = .bl c ∧ Q (.bl (!c)) H') xNo
theorem op_ownNe (hr : Room (k + 1) X.A) : OpR X (compareOp .NotEq) (rOwnNe X k) := by
  intro pins s σ H x y u v Q I rx ry h
  obtain ⟨a, C, dx, fs, b, C2, dy, gs, gf, sp, rfl, rfl, ha, hb, hm, hne, hmro, hn, F, q⟩ := h
  cases rx
  cases ry
  obtain ⟨mA, J, _⟩ := ins_get I.hok ha
  obtain ⟨mB, J', _⟩ := ins_get I.hok hb
  obtain ⟨od, J, _⟩ := J.look
  obtain ⟨od', J', _⟩ := J'.look
  show wpAny _ _ (richCompare .NotEq (.ref a) (.ref b)) _ _ s
  refine ne_own (tb := .ref C2) hr.units I.kIn J J'.type hn hm.at_ hm.fn hne hmro ?_
  refine run_no (vs := [.ref a, .ref b]) F hr.in1 I.env0.in1 I (.cons rfl (.cons rfl .nil)) q fun v s' z => ?_
  obtain ⟨z', H', I', rz, c, ec, qz⟩ := z
  subst ec
  cases rz
  exact ⟨c, rfl, .bl (!c), H', I', rfl, qz⟩
def rOwnBin (X : Cx) (k : Nat) (d : Str) (no : String → Prop) : R2 := fun x y H Q => ∃ a C dx fs b T gf sp, x = .ref a ∧ y = .ref b ∧ H a = some (.ins C dx fs) ∧ ((T = "list" ∧ ∃ xs, SqL X.K H b xs) ∨ (T = "tuple" ∧ ∃ xs, SqT X.K H b xs)) ∧ no T ∧ Meth X.K C d gf ∧ PySem.W.selfFirst X.K C = true ∧
  FnR X.prog X.w X.K X.mg X.base (L2.CX X.prog X.w) k gf sp ∧ sp [x, y] H Q xNo
theorem op_ownXor (hr : Room k X.A) : OpR X (binaryOp .BitXor) (rOwnBin X k "__xor__" fun T => fillsNumberSlot (.type T) "xor" = pure false) := by
  intro pins s σ H x y u v Q I rx ry h
  obtain ⟨a, C, dx, fs, b, T, gf, sp, rfl, rfl, ha, hb, hno, hm, hsf, F, q⟩ := h
  cases rx
  cases ry
  obtain ⟨mA, J, _⟩ := ins_get I.hok ha
  obtain ⟨od, J, _⟩ := J.look
  have ty : W.Looks (model X.prog X.w) s.heap (typeOf (.ref b)) (.type T) := by
    rcases hb with ⟨rfl, xs, hb⟩ | ⟨rfl, xs, hb⟩
    · obtain ⟨its, r, hl, _⟩ := I.list hb
      obtain ⟨o, h1, h2, _⟩ := hl.isList
      exact fun A Q E s k q => wpAny_typeOf_ref (k _ _ h1) (by rw [h2]; exact q)
    · obtain ⟨its, r, ⟨o, h1, h2, _⟩, _⟩ := I.tuple hb
      exact fun A Q E s k q => wpAny_typeOf_ref (k _ _ h1) (by rw [h2]; exact q)
  refine bin_own (op := .BitXor) I.kIn J ty hsf hm.at_ hm.fn hno ?_
  refine run_no (vs := [.ref a, .ref b]) F hr I.env0 I (.cons rfl (.cons rfl .nil)) q fun v s' z => ?_
  obtain ⟨z', H', I', rz, qz⟩ := z
  cases v <;> first
    | exact (relV_notImpl rz).elim
    | exact ⟨z', H', I', rz, qz⟩
end
/-! ### mirrors -/
def rsD : Rs → Option D
  | .ok d _ => some d
  | _ => none
/-- the promise of a def without a cell, where it does not raise -/
theorem sp_pure {X : Cx} {np : Nat} {m : List D → Rs} {ds : List D} {z : D} {vs : List V} {B : Addr → Prop} {H : Hp} {Q : VK} (w : Wf B H) (r : RelL (tx X) B H ds vs) (hn : ds.length = np) (hz : rsD (m ds) = some z) (q : ∀ H' v, Same H H' → Rel (tx X) B H' z v → Q v H') : SpD (tx X) np none false m vs H Q xNo := by
  have an : ∀ a, B a ∨ False → B a := fun a z => z.elim id False.elim
  refine ⟨B, fun _ => False, ds, by rw [← r.length]; exact hn, hn, fun a z => w a (an a z), fun i d v e1 e2 => ⟨fun _ => Rel.anti an (r.nth e1 e2), (fun z => by cases z)⟩, fun _ _ z => z, (fun i z => by cases z), ?_⟩
  cases e : m ds with
  | ok d iod =>
    rw [e] at hz
    have e2 : d = z := Option.some.inj hz
    subst e2
    exact fun W' H' v n _ z => q H' v (fun a u e => n.keep a u e fun z => z) (Rel.anti (fun a b => .inl b) z)
  | err c ns es iod =>
    rw [e] at hz
    cases hz
  | stuck =>
    rw [e] at hz
    cases hz
/-- a table of own operators: the class, the right side's classes that may stand there, the def -/
abbrev OT := List (Nat × List Nat × (List D → Rs))
def otGet (t : OT) (c c2 : Nat) : Option (List D → Rs) := match t.find? fun p => Nat.beq p.1 c with
  | some p => if p.2.1.contains c2 = true then some p.2.2 else none
  | none => none
def EqOk (X : Cx) (k : Nat) (t : OT) : Prop := ∀ p ∈ t, (∃ gf, Meth X.K (He.ga X.K (nm p.1)) "__eq__" gf ∧ Fn X k gf 2 none false p.2.2) ∧ PySem.W.findIn X.K (.ref (He.ga X.K (nm p.1))) "__ne__" = some (some (.builtin "object.__ne__")) ∧ PySem.W.mroIn X.K (He.ga X.K (nm p.1)) (.type "object") = some true ∧
  ∀ c2, p.2.1.contains c2 = true → PySem.W.notFirst X.K (He.ga X.K (nm p.1)) (.ref (He.ga X.K (nm c2))) = true
theorem otGet_some {t : OT} {c c2 : Nat} {m : List D → Rs} (h : otGet t c c2 = some m) : ∃ p ∈ t, p.1 = c ∧ p.2.1.contains c2 = true ∧ p.2.2 = m := by
  unfold otGet at h
  cases q : t.find? fun p => Nat.beq p.1 c with
  | none =>
    rw [q] at h
    cases h
  | some p =>
    rw [q] at h
    have h' : (if p.2.1.contains c2 = true then some p.2.2 else none) = some m := h
    obtain ⟨e1, e2⟩ := ite_some h'
    exact ⟨p, List.mem_of_find?_eq_some q, nbeq (List.find?_some (p := fun p : Nat × List Nat × (List D → Rs) => Nat.beq p.1 c) q), e1, e2⟩
def oEq (t : OT) (d e : D) : Option D := match d, e with
  | .obj c _ _, .obj c2 _ _ => match otGet t c c2 with
    | some m => rsD (m [d, e])
    | none => none
  | _, _ => none
def oNe (t : OT) (d e : D) : Option D := match oEq t d e with
  | some (.bl b) => some (.bl (!b))
  | _ => none
section
variable {X : Cx} {k : Nat} {t : OT}
theorem oEq_some {d e z : D} (h : oEq t d e = some z) : ∃ c ns ds c2 ns2 ds2 m, d = .obj c ns ds ∧ e = .obj c2 ns2 ds2 ∧ otGet t c c2 = some m ∧ rsD (m [d, e]) = some z := by
  cases d with
  | obj c ns ds =>
    cases e with
    | obj c2 ns2 ds2 =>
      have h' : (match otGet t c c2 with
        | some m => rsD (m [.obj c ns ds, .obj c2 ns2 ds2])
        | none => none) = some z := h
      cases q : otGet t c c2 with
      | none =>
        rw [q] at h'
        cases h'
      | some m =>
        rw [q] at h'
        exact ⟨c, ns, ds, c2, ns2, ds2, m, rfl, rfl, q, h'⟩
    | _ => cases h
  | _ => cases h
theorem pu_ownEq (hT : EqOk X k t) : Pure2R X (rOwnEq X k) (oEq t) := by
  intro B H x y d e z Q w r1 r2 h q
  obtain ⟨c, ns, ds, c2, ns2, ds2, m, rfl, rfl, g, hz⟩ := oEq_some h
  obtain ⟨p, hp, rfl, e2, rfl⟩ := otGet_some g
  obtain ⟨⟨gf, k1, k2⟩, _, _, k3⟩ := hT p hp
  have s1 := r1
  have s2 := r2
  obtain ⟨a, dx, vs, rfl, a1, _⟩ := r1
  obtain ⟨b, dy, ws, rfl, b1, _⟩ := r2
  exact ⟨a, _, dx, _, b, _, dy, _, gf, _, rfl, rfl, a1, b1, k1, k3 c2 e2, k2, sp_pure w (ds := [_, _]) ⟨s1, s2, trivial⟩ rfl hz q⟩
theorem pu_ownNe (hT : EqOk X k t) : Pure2R X (rOwnNe X k) (oNe t) := by
  intro B H x y d e z Q w r1 r2 h q
  unfold oNe at h
  cases h0 : oEq t d e with
  | none =>
    rw [h0] at h
    cases h
  | some r =>
    rw [h0] at h
    cases r with
    | bl b0 =>
      have ez := Option.some.inj h
      subst ez
      obtain ⟨c, ns, ds, c2, ns2, ds2, m, rfl, rfl, g, hz⟩ := oEq_some h0
      obtain ⟨p, hp, rfl, e2, rfl⟩ := otGet_some g
      obtain ⟨⟨gf, k1, k2⟩, k4, k5, k3⟩ := hT p hp
      have s1 := r1
      have s2 := r2
      obtain ⟨a, dx, vs, rfl, a1, _⟩ := r1
      obtain ⟨b, dy, ws, rfl, b1, _⟩ := r2
      exact ⟨a, _, dx, _, b, _, dy, _, gf, _, rfl, rfl, a1, b1, k1, k4, k5, k3 c2 e2, k2, sp_pure w (ds := [_, _]) ⟨s1, s2, trivial⟩ rfl hz fun H' v sm rv => ⟨b0, rv, q H' _ sm rfl⟩⟩
    | _ => cases h
/-- own ^ -/
def XorOk (X : Cx) (k : Nat) (t : MT) : Prop := ∀ p ∈ t, (∃ gf, Meth X.K (He.ga X.K (nm p.1)) "__xor__" gf ∧ Fn X k gf 2 none false p.2) ∧ PySem.W.selfFirst X.K (He.ga X.K (nm p.1)) = true
def isSeqD : D → Bool
  | .lst _ => true
  | .tup _ => true
  | _ => false
def oXor (t : MT) (d e : D) : Option D := match d with
  | .obj c _ _ => match mtGet t c with
    | some m => if isSeqD e = true then rsD (m [d, e]) else none
    | none => none
  | _ => none
theorem pu_ownXor {t : MT} (hT : XorOk X k t) : Pure2R X (rOwnBin X k "__xor__" fun T => fillsNumberSlot (.type T) "xor" = pure false) (oXor t) := by
  intro B H x y d e z Q w r1 r2 h q
  cases d with
  | obj c ns ds =>
    have h' : (match mtGet t c with
      | some m => if isSeqD e = true then rsD (m [.obj c ns ds, e]) else none
      | none => none) = some z := h
    cases g : mtGet t c with
    | none =>
      rw [g] at h'
      cases h'
    | some m =>
      rw [g] at h'
      have h2 : (if isSeqD e = true then rsD (m [.obj c ns ds, e]) else none) = some z := h'
      have hs : isSeqD e = true := by
        cases q : isSeqD e with
        | true => rfl
        | false =>
          rw [if_neg (by rw [q]; exact Bool.false_ne_true)] at h2
          cases h2
      rw [if_pos hs] at h2
      obtain ⟨p, e2, rfl⟩ := Option.map_eq_some_iff.mp g
      have e3 := nbeq (i := p.1) (j := c) (List.find?_some (p := fun p : Nat × (List D → Rs) => Nat.beq p.1 c) e2)
      subst e3
      obtain ⟨⟨gf, k1, k2⟩, k3⟩ := hT p (List.mem_of_find?_eq_some e2)
      have s1 := r1
      have s2 := r2
      obtain ⟨a, dx, vs, rfl, a1, _⟩ := r1
      cases e with
      | lst l =>
        obtain ⟨b, ws, rfl, b1, _⟩ := r2
        exact ⟨a, _, dx, _, b, "list", gf, _, rfl, rfl, a1, .inl ⟨rfl, ws, SqL.of b1⟩, noXor_list, k1, k3, k2, sp_pure w (ds := [_, _]) ⟨s1, s2, trivial⟩ rfl h2 q⟩
      | tup l =>
        obtain ⟨b, ws, rfl, b1, _⟩ := r2
        exact ⟨a, _, dx, _, b, "tuple", gf, _, rfl, rfl, a1, .inr ⟨rfl, ws, b1.sq⟩, noXor_tuple, k1, k3, k2, sp_pure w (ds := [_, _]) ⟨s1, s2, trivial⟩ rfl h2 q⟩
      | _ => cases hs
  | _ => cases h
end

/-! ### len of an instance -/
section
variable {X : Cx} {k : Nat}
def rLenOwn (X : Cx) (k : Nat) : List V → Hp → VK → Prop := fun vs H Q => ∃ a C dx fs gf sp, vs = [V.ref a] ∧ H a = some (.ins C dx fs) ∧ Meth X.K C "__len__" gf ∧ FnR X.prog X.w X.K X.mg X.base (L2.CX X.prog X.w) k gf sp ∧ sp [V.ref a] H (fun v H' => ∃ n : Int, v = .int n ∧ (0 ≤ n ∧ n < 2 ^ 63) ∧ Q (.int n) H') xNo
theorem cr_lenOwn (hr : Room (k + 1) X.A) : CallR X (.builtin "len") (rLenOwn X k) := by
  intro pins s σ H xs us Q I r h
  obtain ⟨a, C, dx, fs, gf, sp, rfl, ha, hm, F, q⟩ := h
  rw [Vals.ref1 r]
  obtain ⟨mA, J, _⟩ := ins_get I.hok ha
  obtain ⟨od, J, _⟩ := J.look
  obtain ⟨m, hF⟩ := I.fr
  refine PySem.W.len_K hF I.ok.mod.kin J hm.at_ hm.fn ?_
  refine run_no (vs := [.ref a]) F hr.in1 I.env0.in1 I (.cons rfl .nil) q fun v s' z => ?_
  obtain ⟨z', H', I', rz, n, en, hn, qz⟩ := z
  subst en
  obtain ⟨t, rfl⟩ := (show ∃ t, v = Value.int n t from rz)
  exact ⟨hn, .int n, H', I'.tok _, ⟨_, rfl⟩, qz⟩
abbrev rLenSeq (X : Cx) : List V → Hp → VK → Prop := fun xs H Q => ∃ p ys, xs = [.ref p] ∧ (SqL X.K H p ys ∨ SqT X.K H p ys) ∧ Q (.int ys.length) H
def LenOk (X : Cx) (k : Nat) (t : MT) : Prop := ∀ p ∈ t, ∃ gf, Meth X.K (He.ga X.K (nm p.1)) "__len__" gf ∧ Fn X k gf 1 none false p.2
def oLen (t : MT) (d : D) : Option D := match d with
  | .obj c _ _ => match mtGet t c with
    | some m => match rsD (m [d]) with
      | some (.int n) => if (decide (0 ≤ n) && decide (n < 1000000000)) = true then some (.int n) else none
      | _ => none
    | none => none
  | _ => lenD d
/-- len(e), e by Rel -/
theorem tm_lenA {t : MT} {Wx : WX} {ms : Ms} (hT : LenOk X k t) {e : Expr} {fa : M D} (ha : DE X Wx ms e fa) (hs : starEach [e] X.env = (false, eval e X.env) :: starEach [] X.env) {B : Br} {W : Addr → Prop} {env : En} {σ : L2.St} {H : Hp} {Q : VK} (o : Ok (tx X) ms B W env σ H)
    (h : Po (tx X) Wx ms B W σ H (rkD (tx X)) (op1 (oLen t) fa env) Q) : tmA X [e] σ H fun vs H1 => rLenOwn X k vs H1 Q ∨ rLenSeq X vs H1 Q :=
  PA.tm (pa_cons pe_tm pa_nil hs) (ha _ _ _ _ _ _ o (h.cont (k1 := rkD (tx X)) fun d env1 W1 H1 x n1 o1 r1 h1 => by
    obtain ⟨z, e1, h3⟩ := of_pos h1
    cases d with
    | obj c ns ds =>
      have e1' : (match mtGet t c with
        | some m => match rsD (m [.obj c ns ds]) with
          | some (.int n) => if (decide (0 ≤ n) && decide (n < 1000000000)) = true then some (.int n) else none
          | _ => none
        | none => none) = some z := e1
      cases g : mtGet t c with
      | none =>
        rw [g] at e1'
        cases e1'
      | some m =>
        rw [g] at e1'
        have e2' : (match rsD (m [.obj c ns ds]) with
          | some (.int n) => if (decide (0 ≤ n) && decide (n < 1000000000)) = true then some (.int n) else none
          | _ => none) = some z := e1'
        obtain ⟨p, e2, rfl⟩ := Option.map_eq_some_iff.mp g
        have e3 := nbeq (i := p.1) (j := c) (List.find?_some (p := fun p : Nat × (List D → Rs) => Nat.beq p.1 c) e2)
        subst e3
        obtain ⟨gf, k1, k2⟩ := hT p (List.mem_of_find?_eq_some e2)
        cases q : rsD (p.2 [.obj p.1 ns ds]) with
        | none =>
          rw [q] at e2'
          cases e2'
        | some zz =>
          rw [q] at e2'
          cases zz with
          | int n =>
            obtain ⟨c1, c2⟩ := ite_some (show (if (decide (0 ≤ n) && decide (n < 1000000000)) = true then some (D.int n) else none) = some z from e2')
            subst c2
            obtain ⟨c3, c4⟩ := Bool.and_eq_true_iff.mp c1
            have c5 := of_decide_eq_true c3
            have c6 := of_decide_eq_true c4
            have s1 : Rel (tx X) (Bar B W1) H1 (.obj p.1 ns ds) x := r1
            obtain ⟨a, dx, vs, rfl, a1, _⟩ := r1
            exact .inl ⟨a, _, dx, _, gf, _, rfl, a1, k1, k2, sp_pure o1.wf (ds := [_]) ⟨s1, trivial⟩ rfl q fun H' v sm rv => ⟨n, rv, ⟨c5, by omega⟩, h3.same o1 sm rfl⟩⟩
          | _ => cases e2'
    | _ => exact .inr (pu_len o1.wf (Rel.wk r1) e1 fun H' v s rv => h3.same o1 s rv)))
theorem de_lenA {t : MT} {Wx : WX} {ms : Ms} {e : Expr} {fa : M D} {p pos : Pos} (hT : LenOk X k t) (hr : Room (k + 1) X.A) (ha : DE X Wx ms e fa) (hg : Gl X "len") (hm : X.mg "len" = none) (hv : bootBuiltins "len" = some (.builtin "len") := by first | rfl | kernel_rfl)
    (he : starEach [e] X.env = (false, eval e X.env) :: starEach [] X.env := by rfl) (hpl : (backTo pos (starEach [] X.env)).any (·.1) = false := by rfl) : DE X Wx ms (.Call (.Name "len" p) [e] [] pos) (op1 (oLen t) fa) := fun B W env σ H Q o h =>
  PE.tm (pe_callB ((cr_lenOwn hr).or call_len_seq) hg hm hv pa_tm (by decide) (by decide) he hpl) (tm_lenA hT ha he o h)
end
end DL

set_option Elab.async false
set_option linter.all false
set_option maxRecDepth 100000
set_option maxHeartbeats 4000000
/-! an __init__ that begins with super().__init__(..) -/
namespace DL
open PySem PySem.Spec L2 PyProof.Rows PySem.W NdefX

theorem startF_eq {N : List Str} {vs : List V} (h : vs.length < N.length) : startF N vs [none] = L2.start N vs := by
  unfold startF L2.start
  have e : N.length - vs.length = (N.length - vs.length - 1) + 1 := by omega
  rw [e, List.replicate_succ]
  rfl
/-- what the text says of such a def -/
structure SupT (P : Program) (K : Frag) (mg : Str → Option Value) (f f2 cc c D : Addr) (F : NF) (N ps : List Str) : Prop where
  fn : ∃ (oc : Value) (od : Option Addr) (dV kV doc pm : Value) (an : Option Addr) (ct : Value) (osl : Array (Option Value)), K.lookup f = some ⟨oc, od, .func (fnX F.name F.qual F.params F.body F.scope F.cl dV kV doc pm an (.ref F.c) ct), osl⟩ ∧ L2.Binds K (fnX F.name F.qual F.params F.body F.scope F.cl dV kV doc pm an (.ref F.c) ct) ps []
  cl : F.cl = [(("__class__" : Str), cc)]
  cv : F.c = c
  code : codeIn K (.ref c) F.qual = true
  sc : NScope N ps ["__class__"] F.scope
  cell : ∃ cl cld csl, K.lookup cc = some ⟨cl, cld, .cell (some (.ref D)), csl⟩
  file : ∃ ccl cdd vs ccs file tf, K.lookup c = some ⟨ccl, cdd, .fields vs, ccs⟩ ∧ vs[2]? = some (.str file tf) ∧ ((P.main.file : Str) == file) = true
  cls : ∃ cdD, clsIn K D = some cdD
  sup : mg "super" = none
  top : (P.main.scope.names.lookup ("super" : Str)).isSome = false
  par : ∃ ar, (F.params.posonlyargs ++ F.params.args).head? = some ar ∧ ar.arg = ("self" : Str)
  self : ps[0]? = some ("self" : Str)
  ks : F.scope.names.lookup ("super" : Str) = some .globalImplicit
  kc : F.scope.names.lookup ("__class__" : Str) = some .free
  opq : nsIn K cStatics "thirdparty.any" = some none
  meth : ks_superIn K D D "__init__" = some (some (.ref f2))
  mty : typeIn K (.ref f2) = some (.type "function")
  mfn : fnIn K f2 = true
  mro : mroIn K D (.ref D) = some true
  big : ps.length < N.length
/-- super().__init__(..) where self is in slot 0, an instance of class cD itself -/
def vSup (cD np : Nat) (m : List DL.D → Rs) (fs : DL.M (List DL.D)) : DL.M DL.D := fun (env : DL.En) => match env[0]? with
  | some (some (DL.D.obj c _ _)) => if Nat.beq c cD = true then cCallIo np 0 m fs env else .stuck
  | _ => .stuck
section
variable {P : Program} {w : World} {K : Frag} {mg : Str → Option Value} {base : Heap} {k : Nat} {f f2 cc c : Addr} {F : NF} {N ps : List Str}
abbrev sxof (P : Program) (w : World) (K : Frag) (mg : Str → Option Value) (base : Heap) (N : List Str) (F : NF) (f : Addr) (A : Around) (outer : List Env) (s : Shared) (H : Hp) (E : XK) : Cx := ncx (L2.CX P w) P w K mg base N F f A outer s H E
theorem fnSup {cD np2 : Nat} {m : List DL.D → Rs} {g : DL.M Fl} {fs : DL.M (List DL.D)} {ms : Ms} {e : Expr} {es : List Expr} {rest : List Stmt} {p0 p1 apos cpos epos : Pos} {pl : Sem Bool} (T : SupT P K mg f f2 cc c (He.ga K (nm cD)) F N ps) (hb : F.body = .Expr (.Call (.Attribute (.Call (.Name "super" p0) [] [] p1) "__init__" apos) (e :: es) [] cpos) epos :: rest)
    (F2 : FnR P w K mg base (L2.CX P w) k f2 (SpD ⟨K, P, w, []⟩ np2 (some 0) false m)) (hms : MsOk ms ps.length (some 0)) (hms0 : ms.contains 0 = true) (hboot : bootBuiltins "super" = some (.type "super"))
    (hargs : ∀ (A : Around) (outer : List Env) (s : Shared) (H : Hp) (E : XK), Room k (A.deeper (envF F f s.heap.objs.size)) → DA (sxof P w K mg base N F f A outer s H E) (fun cls d _ H => E cls d H) ms (e :: es) fs)
    (hrest : ∀ (A : Around) (outer : List Env) (s : Shared) (H : Hp) (E : XK), Room k (A.deeper (envF F f s.heap.objs.size)) → DSs (sxof P w K mg base N F f A outer s H E) (fun cls d _ H => E cls d H) ms (rkD ⟨K, P, w, []⟩) rest g)
    (he : ∀ L : Addr, eval (.Call (.Attribute (.Call (.Name "super" p0) [] [] p1) "__init__" apos) (e :: es) [] cpos) (envF F f L) = (do
      let ov ← attributeBase (.Call (.Name "super" p0) [] [] p1) "__init__" (envF F f L) (eval (.Call (.Name "super" p0) [] [] p1) (envF F f L))
      standAt apos.atName
      let (fx, first) ← holding [ov] (getMethod ov "__init__" pl)
      callWith cpos fx first (backTo cpos (starEach (e :: es) (envF F f L))) []))
    (hsw : ∀ L : Addr, swapsWith (.Call (.Attribute (.Call (.Name "super" p0) [] [] p1) "__init__" apos) (e :: es) [] cpos) none epos.line (envF F f L) = pure false)
    (hst : ∀ L : Addr, starEach (e :: es) (envF F f L) = (false, eval e (envF F f L)) :: starEach es (envF F f L)) (hpl : ∀ L : Addr, (backTo cpos (starEach es (envF F f L))).any (·.1) = false) :
    FnR P w K mg base (L2.CX P w) (k + 1) f (SpD ⟨K, P, w, []⟩ ps.length (some 0) false (runF N.length (some 0) false (sSeq (sExpr (vSup cD np2 m fs)) g))) := by
  intro A outer s H us vs Q E hr e0 r hsp
  have hv : vs.length = ps.length := by
    obtain ⟨B, W, ds, h1, _⟩ := hsp
    exact h1
  have hu : us.length = ps.length := by rw [← r.length]; exact hv
  have KX : K.In s.heap := e0.mod.kin.keeps fun b o e => (e0.bs b o e).1
  have lim : s.heap.NoLimit := e0.mod.nolimit.keeps fun b o e => (e0.bs b o e).1
  obtain ⟨oc, od, dV, kV, doc, pm, an, ct, osl, lk, hbind⟩ := T.fn
  obtain ⟨ccl, ccd, ccs, hcell⟩ := T.cell
  have CA : CellsAt F.cl ["__class__"] [none] s.heap H := by
    refine ⟨rfl, fun y z q => ?_, fun x y z q q' => ?_, fun i y q => ?_⟩
    · rw [T.cl] at q
      have q2 : (if (y == ("__class__" : Str)) = true then some cc else none) = some z := by
        by_cases yy : (y == ("__class__" : Str)) = true
        · rw [if_pos yy]
          simpa [List.lookup, yy] using q
        · rw [if_neg yy]
          have yy' : (y == ("__class__" : Str)) = false := Bool.not_eq_true _ ▸ yy
          simp [List.lookup, yy'] at q
      obtain ⟨_, rfl⟩ := ite_some q2
      exact ⟨(e0.bs cc _ (e0.mod.kin cc _ hcell)).2, _, ⟨_, KX _ _ hcell, rfl⟩⟩
    · have one : ∀ {x : Str} {z : Addr}, F.cl.lookup x = some z → x = "__class__" := fun {x z} q => by
        rw [T.cl] at q
        by_cases yy : (x == ("__class__" : Str)) = true
        · exact beq_iff_eq.mp yy
        · have yy' : (x == ("__class__" : Str)) = false := Bool.not_eq_true _ ▸ yy
          simp [List.lookup, yy'] at q
      rw [one q, one q']
    · cases i with
      | zero =>
        have ey : y = "__class__" := (Option.some.inj q).symm
        refine ⟨cc, ?_, fun v z => by cases z⟩
        rw [T.cl, ey]
        rfl
      | succ i => cases q
  refine ks_codeAny_call_defAt (fd := fnX F.name F.qual F.params F.body F.scope F.cl dV kV doc pm an (.ref F.c) ct) (body := F.body) (binds := ps.zip us) hr.depth (KX _ _ lk) rfl lim (codeRec_of KX (by rw [T.cv]; exact T.code)) rfl (by have q := hbind s us KX (by rw [List.append_nil]; exact hu); rw [List.append_nil] at q; exact q) T.sc.nocell
    (fun y hy => T.sc.par y.1 (List.of_mem_zip (show (y.1, y.2) ∈ ps.zip us from hy)).1) (fun h₁ hns hk₁ => ?_) T.sc.co T.sc.gen T.sc.kind
  have I : Inv (sxof P w K mg base N F f A outer s H E) [] (startF N vs [none]) H { s with heap := h₁, toks := s.toks + (ps.zip us).length } := inv_startN T.sc hr.hd e0 hv r CA hns hk₁
  rw [startF_eq (by rw [hv]; exact T.big)] at I
  obtain ⟨Bx, W, env, o, p⟩ := sp_enter hms (Nat.le_of_lt T.big) hsp
  have tk : Takes (sxof P w K mg base N F f A outer s H E) (fun cls d _ H => E cls d H) := takes_of rfl rfl rfl rfl
  have room : Room k (A.deeper (envF F f s.heap.objs.size)) := hr.deeper _
  refine ks_wpAt_mono (Q := SP (sxof P w K mg base N F f A outer s H E) [] { nx := fun _ H' => Q .non H', rt := Q }) (E := (sxof P w K mg base N F f A outer s H E).xe) ?_ (fun fl s' hs => ?_) (fun e s' hs => hs)
  · have q1 := PoS.seq (X := sxof P w K mg base N F f A outer s H E) (t := tmSs (sxof P w K mg base N F f A outer s H E) rest) p (fun env1 W1 H1 σ1 n1 o1 q => hrest A outer s H E room _ _ _ _ _ _ o1 q)
    have p2 := PoS.cont (k1 := rkD ⟨K, P, w, []⟩) (σ := L2.start N vs) (Q1 := fun _ H1 => tmSs (sxof P w K mg base N F f A outer s H E) rest { nx := fun _ H' => Q .non H', rt := Q } (L2.start N vs) H1) q1 (fun d env1 W1 H1 v n1 o1 r1 q => q W1 H1 _ (Nxt.refl _ _) o1)
    show PySem.wpAt (model P w) (A.deeper (envF F f s.heap.objs.size)) (.func F.body (envF F f s.heap.objs.size)) (execs F.body (envF F f s.heap.objs.size)) _ _ _
    have hex : execs F.body (envF F f s.heap.objs.size) = execs (.Expr (.Call (.Attribute (.Call (.Name "super" p0) [] [] p1) "__init__" apos) (e :: es) [] cpos) epos :: rest) (envF F f s.heap.objs.size) := by rw [hb]
    rw [hex]
    have calmly : interactive (envF F f s.heap.objs.size) = false := by
      unfold interactive
      rw [show (envF F f s.heap.objs.size).scope.kind = .function from T.sc.kind]
      rfl
    refine ks_wpAt_execs_cons (ks_wpAt_Expr_any (ks_wpAt_MethodCall (pl := pl) ?_ (he _)) calmly (hsw _))
    -- self
    obtain ⟨a, dx, fs0, hs0, haH, hcell0⟩ : ∃ (a : Addr) (dx : Addr) (fs0 : List (Str × V)), (L2.start N vs)[0]? = some (some (.ref a)) ∧ H a = some (.ins (He.ga K (nm cD)) dx fs0) ∧ ∃ d0, env[0]? = some (some d0) := by
      unfold vSup at p2
      cases q : env[0]? with
      | none =>
        rw [q] at p2
        exact p2.elim
      | some z =>
        cases z with
        | none =>
          rw [q] at p2
          exact p2.elim
        | some d =>
          rw [q] at p2
          cases d with
          | obj c0 ns0 ds0 =>
            by_cases hq : Nat.beq c0 cD = true
            · have e0 := nbeq hq
              subst e0
              obtain ⟨v, e1, e2⟩ := o.mu 0 _ hms0 q
              obtain ⟨a, dx, ws, rfl, _, e3, _⟩ := e2
              exact ⟨a, dx, _, e1, e3, _, rfl⟩
            · have p3 : Po ⟨K, P, w, []⟩ (fun cls d _ H => E cls d H) ms Bx W (L2.start N vs) H (rkD ⟨K, P, w, []⟩) (if Nat.beq c0 cD = true then cCallIo np2 0 m fs env else .stuck) _ := p2
              rw [if_neg hq] at p3
              exact p3.elim
          | _ => exact p2.elim
    have p4 : Po ⟨K, P, w, []⟩ (fun cls d _ H => E cls d H) ms Bx W (L2.start N vs) H (rkD ⟨K, P, w, []⟩) (cCallIo np2 0 m fs env) (fun _ H1 => tmSs (sxof P w K mg base N F f A outer s H E) rest { nx := fun _ H' => Q .non H', rt := Q } (L2.start N vs) H1) := by
      unfold vSup at p2
      cases q : env[0]? with
      | none =>
        rw [q] at p2
        exact p2.elim
      | some z =>
        cases z with
        | none =>
          rw [q] at p2
          exact p2.elim
        | some d =>
          rw [q] at p2
          cases d with
          | obj c0 ns0 ds0 =>
            have p3 : Po ⟨K, P, w, []⟩ (fun cls d _ H => E cls d H) ms Bx W (L2.start N vs) H (rkD ⟨K, P, w, []⟩) (if Nat.beq c0 cD = true then cCallIo np2 0 m fs env else .stuck) (fun _ H1 => tmSs (sxof P w K mg base N F f A outer s H E) rest { nx := fun _ H' => Q .non H', rt := Q } (L2.start N vs) H1) := p2
            by_cases hq : Nat.beq c0 cD = true
            · rw [if_pos hq] at p3
              exact p3
            · rw [if_neg hq] at p3
              exact p3.elim
          | _ => exact p2.elim
    obtain ⟨mA, J, _⟩ := ins_get I.hok haH
    obtain ⟨od2, J, _⟩ := J.look
    obtain ⟨fccl, fcdd, fvs, fccs, file, tf, fk, fv, ff⟩ := T.file
    obtain ⟨ar, par1, par2⟩ := T.par
    obtain ⟨cdD, hD⟩ := T.cls
    have X1 : K.In h₁ := KX.keeps hk₁
    obtain ⟨oD, hD1, hD2⟩ : ∃ oD, h₁.get? (He.ga K (nm cD)) = some oD ∧ oD.data = .cls cdD := by
      unfold clsIn at hD
      split at hD
      · rename_i c d cd' sl ho
        cases hD
        exact ⟨_, X1 _ _ ho, rfl⟩
      · cases hD
    refine ks_wpAt_super_base (env := envF F f s.heap.objs.size) T.ks T.kc rfl rfl (X1 _ _ lk) rfl par1 (cc := F.c) rfl (by rw [T.cv]; exact X1 _ _ fk) rfl fv ff T.top ?_
    obtain ⟨mb, hb1, hb2⟩ := I.mod.blt
    refine ks_loadName_global T.sc.kind T.ks (Calls.loadGlobal_builtin (by rw [show (envF F f s.heap.objs.size).globals = mainGlobals from rfl]; exact I.mod.glob.keeps I.bk) T.sup (by rw [show (envF F f s.heap.objs.size).builtins = builtinsNs from rfl]; exact hb1.keeps I.bk) ((hb2 _ (by decide)).trans hboot) ⟨rfl, ?_⟩)
    refine wpAny_loadName_free (c := cc) T.sc.kind T.kc (by show F.cl.lookup _ = _; rw [T.cl]; rfl) ⟨_, X1 _ _ hcell, rfl⟩ ?_
    have selfAt : ∃ mL, h₁.Ns s.heap.objs.size mL ∧ mL ar.arg = some (.ref a) := by
      obtain ⟨mL, n1, n2⟩ := I.loc
      have e1 : N[0]? = some ("self" : Str) := by
        have e2 := congrArg (fun l : List Str => l[0]?) T.sc.pre
        have pos : 0 < ps.length := (List.getElem?_eq_some_iff.mp T.self).1
        have e3 : (N.take (ps.length + 1))[0]? = (ps ++ [("__class__" : Str)])[0]? := e2
        rw [List.getElem?_take_of_lt (by omega), List.getElem?_append_left pos, T.self] at e3
        exact e3
      have lk0 : F.scope.names.lookup ("self" : Str) = some .local := T.sc.par _ (List.mem_of_getElem? T.self)
      obtain ⟨u, ru, q⟩ := n2 0 "self" (.ref a) e1 hs0 (.inl lk0)
      cases ru
      rcases q with ⟨_, q⟩ | ⟨q, _⟩
      · exact ⟨mL, n1, by rw [par2]; exact q⟩
      · rcases q with q | q
        · have q' : F.scope.names.lookup ("self" : Str) = some .cell := q
          rw [lk0] at q'
          cases q'
        · have q' : F.scope.names.lookup ("self" : Str) = some .free := q
          rw [lk0] at q'
          cases q'
    obtain ⟨mL, nsL, mself⟩ := selfAt
    refine wpAny_loadName_local T.sc.kind (by rw [par2]; exact T.sc.par _ (List.mem_of_getElem? T.self)) nsL mself ?_
    refine ks_wpAny_isType_cls hD1 hD2 ⟨rfl, ?_⟩
    have inst := J
    refine ks_wpAny_call_super hD1 hD2 inst.at_ inst.cls (fun c q => ?_) (looks_mroIn X1 T.mro) (fun h2 atS k2 => ?_)
    · have := inst.no
      unfold notCls at this
      rw [q] at this
      exact Bool.noConfusion this
    -- the super object is there
    have I1 : Inv (sxof P w K mg base N F f A outer s H E) [] (L2.start N vs) H { heap := h2, gens := s.gens, drawn := s.drawn, toks := s.toks + (ps.zip us).length, os := s.os } := I.kept k2
    have X2 : K.In h2 := X1.keeps k2
    obtain ⟨of2, g1, g2⟩ : ∃ of2, h2.get? f2 = some of2 ∧ of2.cls = .type "function" := by
      have ty : (K.lookup f2).map (·.cls) = some (.type "function") := T.mty
      cases z : K.lookup f2 with
      | none =>
        rw [z] at ty
        cases ty
      | some of2 =>
        rw [z] at ty
        exact ⟨of2, X2 _ _ z, Option.some.inj ty⟩
    have along : alongIn K "__init__" ((cdD.mro.dropWhile (· != .ref (He.ga K (nm cD)))).drop 1) = some (some (.ref f2)) := by
      have q := T.meth
      unfold ks_superIn at q
      rw [hD] at q
      exact q
    refine ks_wpAny_getMethod_super atS (looks_opaque X2 T.opq) (l₀ := cdD.mro) ((looks_clsIn X2 hD).andThen .now) rfl X2 along g1 g2 (ks_ne X1 inst hD) (by decide) ?_
    have I2 : Inv (sxof P w K mg base N F f A outer s H E) ((h2.objs.size, methodObj (.ref f2) (.ref a)) :: []) (L2.start N vs) H { heap := h2.push (methodObj (.ref f2) (.ref a)), gens := s.gens, drawn := s.drawn, toks := s.toks + (ps.zip us).length + 1, os := s.os } :=
      ClX.pin_new (s := { heap := h2, gens := s.gens, drawn := s.drawn, toks := s.toks + (ps.zip us).length, os := s.os }) (t' := s.toks + (ps.zip us).length + 1) I1 (fun _ _ z => Heap.get?_push_of_some _ z) (Nat.le_refl _) (Heap.get?_push_size h2 rfl) (fun v z => nomatch z)
    have da := hargs A outer s H E room
    unfold cCallIo at p4
    obtain ⟨d0, hd0⟩ := hcell0
    rw [hd0] at p4
    have args := da Bx W env (L2.start N vs) H (fun vs2 H1 => SpD ⟨K, P, w, []⟩ np2 (some 0) false m (.ref a :: vs2) H1 (fun _ H1 => tmSs (sxof P w K mg base N F f A outer s H E) rest { nx := fun _ H' => Q .non H', rt := Q } (L2.start N vs) H1) (WE (fun cls d _ H => E cls d H) (L2.start N vs))) o
      (Po.cont (k1 := rkL ⟨K, P, w, []⟩) p4 fun ds env1 W1 H1 ws n1 o1 r1 h1 => by
        cases q : env1[0]? with
        | none =>
          rw [q] at h1
          exact h1.elim
        | some z =>
          cases z with
          | none =>
            rw [q] at h1
            exact h1.elim
          | some d1 =>
            simp only [q] at h1
            by_cases hn : ds.length + 1 = np2
            · rw [if_pos hn] at h1
              exact sp_callIo (X := sxof P w K mg base N F f A outer s H E) (fr := false) o1 hms0 q hs0 r1 hn h1
            · rw [if_neg hn] at h1
              exact h1.elim)
    refine ClX.callwith_cm I2 (ClX.base_none I1 (Nat.le_refl _)) T.mfn ?_ (hst _) (hpl _)
    refine thn (args cpos _ _ I2) fun us2 s3 hh => ?_
    obtain ⟨ws, H2, I3, rv, q3⟩ := hh
    refine ⟨⟨ClX.pin_at I3, I3.kIn⟩, ?_⟩
    refine wpAny_call (method_call (ClX.pin_at I3) (codeAny_mono (run_fnRS (X := sxof P w K mg base N F f A outer s H E) (E := WE (fun cls d _ H => E cls d H)) (us := .ref a :: us2) (vs := .ref a :: ws) F2 room (passAt tk (L2.start N vs)) I3 (.cons rfl rv) q3) fun r s4 hr4 => ?_))
    cases r with
    | error er => exact hr4
    | ok fl =>
      cases fl with
      | ret v =>
        obtain ⟨_, H4, I4, _, q4⟩ := hr4
        exact wpAt_of_wpAny (q4 [] s4 (ClX.unpin I4))
      | next => exact False.elim hr4
      | brk => exact False.elim hr4
      | cont => exact False.elim hr4
  · have fin : ∀ {σ' : L2.St} {H' : Hp} {v : V} {u : Value}, Inv (sxof P w K mg base N F f A outer s H E) [] σ' H' s' → L2.RelV v u → Q v H' → CE outer P w H s Q u s' :=
      fun {σ' H' v u} J rv q => ⟨v, H', J.os, J.bare, J.base, J.hok, rv, q⟩
    cases fl with
    | ret u =>
      obtain ⟨v, σ', H', J, rv, q⟩ := hs
      exact fin J rv q
    | next =>
      obtain ⟨σ', H', J, q⟩ := hs
      exact fin (v := V.non) (u := Value.none) J rfl q
    | brk =>
      obtain ⟨_, _, _, q⟩ := hs
      exact False.elim q
    | cont =>
      obtain ⟨_, _, _, q⟩ := hs
      exact False.elim q
end
end DL

set_option Elab.async false
set_option linter.all false
set_option maxRecDepth 100000
set_option maxHeartbeats 4000000
/-! a classmethod called on a class -/
namespace DL
open PySem PySem.Spec L2 PyProof.Rows PySem.W ClX
/-- the class has this classmethod -/
structure CmOk (X : Cx) (k np c f : Nat) (m : List D → Rs) : Prop where
  ex : ∃ mc p g, CRead X.K (He.ga X.K (nm c)) mc ∧ CMet X.K (He.ga X.K (nm c)) mc (nm f) p g ∧ Fn X k g np none false m
def cClsM (np c : Nat) (m : List D → Rs) (fa : M D) (fs : M (List D)) : M D := fun env => (fa env).bind fun d env1 => match d with
  | .cls c' => if Nat.beq c' c = true then (fs env1).bind fun es env2 => if (D.cls c :: es).length = np then (match m (D.cls c :: es) with
      | .ok d _ => .ok d env2
      | .err c ns es _ => .err c ns es env2
      | .stuck => .stuck) else .stuck else .stuck
  | _ => .stuck
section
variable {X : Cx} {Wx : WX} {ms : Ms} {np k : Nat} {o e : Expr} {es : List Expr} {x : Str} {p pos apos : Pos} {fa : M D} {fs : M (List D)} {pl : Sem Bool}
theorem run_cmS {C g q : Addr} {σ : L2.St} {H : Hp} {s : Shared} {pins : List (Addr × Obj)} {sp : Sp} {Q : VK} {us : List Value} {vs : List V} (F : FnR X.prog X.w X.K X.mg X.base (L2.CX X.prog X.w) k g sp) (hr : Room k X.A) (tk : Takes X Wx)
    (I : Inv X ((q, PySem.W.methodObj (.ref g) (.ref C)) :: pins) σ H s) (r : Vals vs us) (h : sp (.ref C :: vs) H Q (WE Wx σ)) : wpAny (model X.prog X.w) X.A (call (.ref q) us) (EP X pins σ Q) X.xe s := by
  have z : wpAny (model X.prog X.w) X.A (call (.ref q) us) (EP X ((q, PySem.W.methodObj (.ref g) (.ref C)) :: pins) σ Q) X.xe s :=
    wpAny_call (PySem.W.method_call (pin_at I) (run_fnRS (us := .ref C :: us) (vs := .ref C :: vs) (E := WE Wx) F hr (passAt tk σ) I (.cons rfl r) h))
  exact thn z fun _ _ y => unpinE y
theorem de_clsM (c f : Nat) {m : Str} {g : List D → Rs} (hc : CmOk X k np c f g) (hr : Room k X.A) (tk : Takes X Wx) (ho : DE X Wx ms o fa) (hb : DA X Wx ms (e :: es) fs) (hx : nm f = m := by rfl)
    (hst : starEach (e :: es) X.env = (false, eval e X.env) :: starEach es X.env := by rfl) (hpl : (backTo pos (starEach es X.env)).any (·.1) = false := by rfl)
    (ht : eval (.Call (.Attribute o m apos) (e :: es) [] pos) X.env = (do
      let ov ← eval o X.env
      standAt apos.atName
      let (f, first) ← holding [ov] (getMethod ov m pl)
      callWith pos f first (backTo pos (starEach (e :: es) X.env)) (backToKw pos (keywordEach [] X.env))) := by rfl) : DE X Wx ms (.Call (.Attribute o m apos) (e :: es) [] pos) (cClsM np c g fa fs) := fun B W env σ H Q ok h => by
  subst hx
  obtain ⟨mc, p, gf, k1, k2, k3⟩ := hc.ex
  intro pins s I
  refine PySem.W.methodCall_KW (pl := pl) (thn (ho _ _ _ _ _ (fun v H1 => v = V.ref (He.ga X.K (nm c)) ∧ tmA X (e :: es) σ H1 fun vs H2 => SpD (tx X) np none false g (v :: vs) H2 Q (WE Wx σ)) ok
    (Po.cont (k1 := rkD (tx X)) h fun d env1 W1 H1 v n1 o1 r1 h1 => ?_) pins s I) fun u s1 ⟨v, H1, I1, rx, ev, q⟩ => ?_) ht
  · cases d with
    | cls c' =>
      by_cases q : Nat.beq c' c = true
      · have e0 := nbeq q
        subst e0
        simp only [q, if_true] at h1
        have r1' : v = V.ref (He.ga X.K (nm c')) := r1
        subst r1'
        refine ⟨rfl, hb _ _ _ _ _ _ o1 (Po.cont (k1 := rkL (tx X)) h1 fun es env2 W2 H2 ws n2 o2 s1 h2 => ?_)⟩
        have rr : RelL (tx X) (Bar B W2) H2 (.cls c' :: es) (.ref (He.ga X.K (nm c')) :: ws) := ⟨rfl, s1⟩
        exact sp_call' o2 rr h2
      · simp only [if_neg q] at h1
        exact h1.elim
    | _ => exact h1.elim
  · subst ev
    obtain rfl : u = Value.ref (He.ga X.K (nm c)) := rx
    refine getmethcm_ok I1 k1 k2 fun s2 I2 => ?_
    refine callwith_cm I2 (base_none I1 (Nat.le_refl _)) k2.fi (thn (q pos _ s2 I2) fun us s3 ⟨vs, H2, I3, rv, q2⟩ => ⟨⟨pin_at I3, I3.kIn⟩, ?_⟩) hst hpl
    exact run_cmS k3 hr tk I3 rv q2
end
end DL

set_option Elab.async false
set_option linter.all false
set_option maxRecDepth 100000
set_option maxHeartbeats 4000000
/-! a comprehension of two clauses -/
namespace DL
open PySem PySem.Spec L2
def lc2Go (i i1 : Nat) (gc : M Bool) (f1 : M (List D)) (gc1 : M Bool) (fe : M D) : Nat → List D → M (List D)
  | _, [] => fun env => .ok [] env
  | n, x :: xs => fun env => match gc (env.set i (some x)) with
    | .ok true env1 => match f1 env1 with
      | .ok zs env2 => match lcGo i1 gc1 fe n zs (env2.set i1 none) with
        | .ok ys env3 => (lc2Go i i1 gc f1 gc1 fe (n + ys.length) xs ((env3.set i none).set i1 none)).bind fun rest env4 => .ok (ys ++ rest) env4
        | _ => .stuck
      | _ => .stuck
    | .ok false env1 => lc2Go i i1 gc f1 gc1 fe n xs ((env1.set i none).set i1 none)
    | _ => .stuck
def lc2M (i i1 : Nat) (fi : M (List D)) (gc : M Bool) (f1 : M (List D)) (gc1 : M Bool) (fe : M D) : M D := fun env => (fi env).bind fun ds env1 => match lc2Go i i1 gc f1 gc1 fe 0 ds ((env1.set i none).set i1 none) with
  | .ok ys env3 => .ok (.lst ys) (env3.set i (env1.getD i none))
  | _ => .stuck
theorem lc2_step {i i1 : Nat} {gc gc1 : M Bool} {f1 : M (List D)} {fe : M D} {n : Nat} {x : D} {xs ys : List D} {env env4 : En} (h : lc2Go i i1 gc f1 gc1 fe n (x :: xs) env = .ok ys env4) :
    ∃ c env1, gc (env.set i (some x)) = .ok c env1 ∧ (c = true → ∃ zs env2 ys1 env3 rest, f1 env1 = .ok zs env2 ∧ lcGo i1 gc1 fe n zs (env2.set i1 none) = .ok ys1 env3 ∧ lc2Go i i1 gc f1 gc1 fe (n + ys1.length) xs ((env3.set i none).set i1 none) = .ok rest env4 ∧ ys = ys1 ++ rest)
      ∧ (c = false → lc2Go i i1 gc f1 gc1 fe n xs ((env1.set i none).set i1 none) = .ok ys env4) := by
  unfold lc2Go at h
  cases q : gc (env.set i (some x)) with
  | ok c env1 =>
    rw [q] at h
    refine ⟨c, env1, rfl, fun e => ?_, fun e => ?_⟩
    · subst e
      simp only at h
      cases q2 : f1 env1 with
      | ok zs env2 =>
        rw [q2] at h
        simp only at h
        cases q3 : lcGo i1 gc1 fe n zs (env2.set i1 none) with
        | ok ys1 env3 =>
          rw [q3] at h
          simp only at h
          obtain ⟨rest, e1, h1, h2⟩ := R.bind_ok h
          injection h2 with h3 h4
          subst h4
          exact ⟨zs, env2, ys1, env3, rest, rfl, q3, h1, h3.symm⟩
        | err c ns es env => rw [q3] at h; cases h
        | stuck => rw [q3] at h; cases h
      | err c ns es env => rw [q2] at h; cases h
      | stuck => rw [q2] at h; cases h
    · subst e
      exact h
  | err c ns es env => rw [q] at h; cases h
  | stuck => rw [q] at h; cases h
/-- the list under way stands at p -/
structure At (T : Tx) (ms : Ms) (B : Br) (p : Addr) (W : Addr → Prop) (env : En) (σ : St) (H : Hp) (acc : List D) : Prop where
  np : ¬ W p
  ok : Ok T ms (B.and p) W env σ H
  rel : ∃ vs, H p = some (.lst vs) ∧ RelL T (Bar (B.and p) W) H acc vs
abbrev NxP (p : Addr) (W : Addr → Prop) (H : Hp) (W' : Addr → Prop) (H' : Hp) : Prop := Nxt (fun c => W c ∨ c = p) H (fun c => W' c ∨ c = p) H'
section
variable {T : Tx} {ms : Ms} {B : Br} {p : Addr} {W W' : Addr → Prop} {env env' : En} {σ : St} {H H' : Hp} {acc : List D}
theorem At.same (a : At T ms B p W env σ H acc) (s : Same H H') : At T ms B p W env σ H' acc := ⟨a.np, a.ok.same s, by
  obtain ⟨vs, h1, h2⟩ := a.rel
  exact ⟨vs, s _ _ h1, RelL.ext (Ext.same s) _ h2⟩⟩
theorem At.wipe {i : Nat} (a : At T ms B p W env σ H acc) (hm : ms.contains i = false) (hio : ms.io.contains i = false) : At T ms B p W (env.set i none) (σ.set i none) H acc := ⟨a.np, a.ok.wipe hm hio, a.rel⟩
theorem At.set {i : Nat} {x : V} {d : D} (a : At T ms B p W env σ H acc) (hm : ms.contains i = false) (hio : ms.io.contains i = false) (r : Rel T (Bar (B.and p) W) H d x) : At T ms B p W (env.set i (some d)) (σ.set i (some x)) H acc := ⟨a.np, a.ok.set hm hio r, a.rel⟩
theorem At.next (a : At T ms B p W env σ H acc) (n : Nxt W H W' H') (o : Ok T ms (B.and p) W' env' σ H') : At T ms B p W' env' σ H' acc := by
  obtain ⟨vs, h1, h2⟩ := a.rel
  refine ⟨fun z => ?_, o, vs, n.keep _ _ h1 a.np, RelL.ext n.ext _ h2⟩
  rcases n.new p z with z | z
  · exact a.np z
  · rw [h1] at z; cases z
theorem Nxt.wp (n : Nxt W H W' H') : NxP p W H W' H' := ⟨fun a u e m => n.keep a u e fun z => m (.inl z), fun a z => by
  rcases z with z | z
  · rcases n.new a z with z | z
    · exact .inl (.inl z)
    · exact .inr z
  · exact .inl (.inr z), n.live⟩
theorem At.push {y : D} {v : V} (a : At T ms B p W env σ H acc) (r : Rel T (Bar (B.and p) W) H y v) : ∃ vs, H p = some (.lst vs) ∧ vs.length = acc.length ∧ At T ms B p W env σ (upd H p (.lst (vs ++ [v]))) (acc ++ [y]) ∧ NxP p W H W (upd H p (.lst (vs ++ [v]))) := by
  obtain ⟨vs, h1, h2⟩ := a.rel
  have ew : Ext (Bar (B.and p) W) H (Bar (B.and p) W) (upd H p (.lst (vs ++ [v]))) := ⟨fun a u e n => by rw [upd_ne (fun z => n (.inl (.inr z)))]; exact e, fun a z => .inl z⟩
  refine ⟨vs, h1, h2.length.symm, ⟨a.np, a.ok.other (.inr rfl) a.np, _, upd_same, RelL.ext ew _ (h2.append ⟨r, trivial⟩)⟩, ⟨fun a u e n => by rw [upd_ne (fun z => n (.inr z))]; exact e, fun a z => .inl z, fun a u e => ?_⟩⟩
  by_cases ea : a = p
  · exact ⟨_, by rw [ea]; exact upd_same⟩
  · exact ⟨u, by rw [upd_ne ea]; exact e⟩
theorem NxP.ext (n : NxP p W H W' H') : Ext (Bar (B.and p) W) H (Bar (B.and p) W') H' := ⟨fun a u e m => n.keep a u e fun z => by
    rcases z with z | z
    · exact m (.inr z)
    · exact m (.inl (.inr z)), fun a z => by
    rcases z with z | z
    · exact .inl (.inl z)
    · rcases n.new a (.inl z) with (z | z) | z
      · exact .inl (.inr z)
      · exact .inl (.inl (.inr z))
      · exact .inr z⟩
theorem NxP.ext0 (n : NxP p W (upd H p (.lst [])) W' H') (hp : H p = none) : Ext (Bar B W) H (Bar (B.and p) W') H' := by
  refine ⟨fun a u e m => n.keep a u (Same.upd hp a u e) fun z => ?_, fun a z => ?_⟩
  · rcases z with z | z
    · exact m (.inr z)
    · rw [z, hp] at e
      cases e
  · rcases z with (z | z) | z
    · exact .inl (.inl z)
    · exact .inr (by rw [z]; exact hp)
    · rcases n.new a (.inl z) with (z | z) | z
      · exact .inl (.inr z)
      · exact .inr (by rw [z]; exact hp)
      · exact .inr ((Same.upd hp).free z)
theorem NxP.nxt (n : NxP p W (upd H p (.lst [])) W' H') (hp : H p = none) : Nxt W H (fun c => W' c ∨ c = p) H' := by
  refine ⟨fun a u e m => n.keep a u (Same.upd hp a u e) fun z => ?_, fun a z => ?_, fun a u e => n.live a u (Same.upd hp a u e)⟩
  · rcases z with z | z
    · exact m z
    · rw [z, hp] at e
      cases e
  · rcases n.new a z with (z | z) | z
    · exact .inl z
    · exact .inr (by rw [z]; exact hp)
    · exact .inr ((Same.upd hp).free z)
/-- a slot of which nothing is known -/
theorem Ok.unset {i : Nat} (o : Ok T ms B W env (σ.set i none) H) (he : env[i]? = some none ∨ env[i]? = none) : Ok T ms B W env σ H := by
  have ne : ∀ {j : Nat} {d : D}, env[j]? = some (some d) → j ≠ i := fun {j d} h e => by
    subst e
    rcases he with z | z
    · rw [h] at z; cases z
    · rw [h] at z; cases z
  have sg : ∀ {j : Nat} {v : V}, (σ.set i none)[j]? = some (some v) → σ[j]? = some (some v) := fun h => (set_none_get h).2
  refine ⟨by rw [← o.len, List.length_set], o.wf, fun j d h e => ?_, fun j d h e => ?_, fun j k d e a hj hk n h1 h2 s1 s2 => ?_, fun j v h => ?_⟩
  · obtain ⟨v, e1, e2⟩ := o.sl j d h e
    exact ⟨v, sg e1, e2⟩
  · obtain ⟨v, e1, e2⟩ := o.mu j d h e
    exact ⟨v, sg e1, e2⟩
  · exact o.dj j k d e a hj hk n h1 h2 (by rw [List.getElem?_set_ne (Ne.symm (ne h1))]; exact s1) (by rw [List.getElem?_set_ne (Ne.symm (ne h2))]; exact s2)
  · obtain ⟨e1, e2, e3, d, e4⟩ := o.fx j v h
    exact ⟨e1, e2, sg e3, d, e4⟩
theorem wen (env : En) (i : Nat) : (env.set i none)[i]? = some none ∨ (env.set i none)[i]? = none := by
  by_cases hl : i < env.length
  · exact .inl (List.getElem?_set_self hl)
  · exact .inr (List.getElem?_eq_none (by rw [List.length_set]; omega))
theorem wen2 (env : En) {i j : Nat} (h : i ≠ j) : ((env.set i none).set j none)[i]? = some none ∨ ((env.set i none).set j none)[i]? = none := by
  rw [List.getElem?_set_ne (Ne.symm h)]
  exact wen env i
theorem wipe_a {i j : Nat} {x : Option V} (s : St) (h : i ≠ j) : ((((s.set i none).set j none).set i x).set i none).set j none = (s.set i none).set j none := by
  rw [List.set_set, List.set_comm _ _ (Ne.symm h), List.set_set, List.set_set]
theorem wipe_b {i j : Nat} {x : Option V} (s : St) (h : i ≠ j) : (((((s.set i none).set j none).set i x).set j none).set i none).set j none = (s.set i none).set j none := by
  rw [List.set_comm (l := ((s.set i none).set j none).set i x) _ _ (Ne.symm h), List.set_set, wipe_a s h]
end
section
variable {X : Cx} {ms : Ms} {Wx : WX}
theorem blk_di (hc : X.calm = true) {s : Shared} {H0 : Hp} {scope : Scope} {cenv : Env} {fp : List Addr} {tg iter : Expr} {f : M (List D)} (h : DI (X.blk s H0 scope cenv fp) Wx ms tg iter f) : ∀ B W env σ H R, Ok (tx X) ms B W env σ H → Po (tx X) Wx ms B W σ H (rkI (tx X)) (f env) R → tmI (X.blk s H0 scope cenv fp) tg iter σ H R := by
  unfold DI at h
  rw [blk_tx hc] at h
  exact h
abbrev tmIB (X : Cx) (scope : Scope) (tg iter : Expr) : TI := fun σ H R => ∀ (s0 : Shared) (H0 : Hp) (C : Addr) (cl : List (Str × Addr)) (fp : List Addr), tmI (X.blk s0 H0 scope (compEnvC scope cl C X.env) fp) tg iter σ H R
theorem tm_lc2 {tg iter tg1 iter1 elt : Expr} {scope : Scope} {fi f1 : M (List D)} {gc gc1 : M Bool} {fe : M D} {tt tt1 : TT} (hcalm : X.calm = true) (i i1 : Nat) (hne : i ≠ i1) (hm : ms.contains i = false) (hio : ms.io.contains i = false) (hm1 : ms.contains i1 = false) (hio1 : ms.io.contains i1 = false)
    (hi : DI X Wx ms tg iter fi) (ht : ∀ B W env σ H Q, Ok (tx X) ms B W env σ H → Po (tx X) WF ms B W σ H (rkB (tx X)) (gc env) Q → tt σ H Q) (ht1 : ∀ B W env σ H Q, Ok (tx X) ms B W env σ H → Po (tx X) WF ms B W σ H (rkB (tx X)) (gc1 env) Q → tt1 σ H Q)
    (hi1 : ∀ (s : Shared) (H : Hp) (C : Addr) (cl : List (Str × Addr)) (fp : List Addr), DI (X.blk s H scope (compEnvC scope cl C X.env) fp) WF ms tg1 iter1 f1)
    (he : ∀ (s : Shared) (H : Hp) (C : Addr) (cl : List (Str × Addr)) (fp : List Addr), DE (X.blk s H scope (compEnvC scope cl C X.env) fp) WF ms elt fe) {B : Br} {W : Addr → Prop} {env : En} {σ : St} {H : Hp} {Q : VK}
    (o : Ok (tx X) ms B W env σ H) (h : Po (tx X) Wx ms B W σ H (rkF (tx X) ms) (lc2M i i1 fi gc f1 gc1 fe env) Q) : tLc2 (tmI X tg iter) (gName i) tt (tmIB X scope tg1 iter1) (gName i1) tt1 (tmB X scope elt) [i1, i] [i1] σ H Q := by
  refine hi _ _ _ _ _ _ o (Po.cont (k1 := rkI (tx X)) h fun ds env1 W1 H1 J n1 o1 sv h1 p hp => ?_)
  cases q0 : lc2Go i i1 gc f1 gc1 fe 0 ds ((env1.set i none).set i1 none) with
  | err c ns es env => rw [q0] at h1; exact h1.elim
  | stuck => rw [q0] at h1; exact h1.elim
  | ok ys env3 =>
    rw [q0] at h1
    have pw : ¬ W1 p := fun z => by
      obtain ⟨u, e⟩ := o1.wf p (.inr z)
      rw [hp] at e; cases e
    have a1 : At (tx X) ms B p W1 ((env1.set i none).set i1 none) ((σ.set i none).set i1 none) (upd H1 p (.lst [])) [] := ⟨pw, (((o1.wipe hm hio).wipe hm1 hio1).bar hp), [], upd_same, trivial⟩
    refine ⟨fun j m H2 => m = ds.length - j ∧ j ≤ ds.length ∧ ∃ W2 env2 acc rest, NxP p W1 (upd H1 p (.lst [])) W2 H2 ∧ At (tx X) ms B p W2 env2 ((σ.set i none).set i1 none) H2 acc ∧ (env2[i]? = some none ∨ env2[i]? = none) ∧ (env2[i1]? = some none ∨ env2[i1]? = none) ∧
        lc2Go i i1 gc f1 gc1 fe acc.length (ds.drop j) env2 = .ok rest env3 ∧ ys = acc ++ rest,
      ⟨ds.length, by simp, Nat.zero_le _, W1, _, [], ys, Nxt.refl _ _, a1, wen2 _ hne, wen _ _, q0, rfl⟩, ?_⟩
    rintro j m H2 ⟨rfl, hj, W2, env2, acc, rest, n2, a2, hen, hen1, g2, ey⟩
    obtain ⟨s1, s2⟩ := sv (Bar (B.and p) W2) H2 (NxP.ext0 n2 hp) j
    by_cases hlt : j < ds.length
    · obtain ⟨y1, y2⟩ := s1 ds[j] (List.getElem?_eq_getElem hlt)
      rw [List.drop_eq_getElem_cons hlt] at g2
      obtain ⟨c, env4, gc1', gT, gF⟩ := lc2_step g2
      refine .inr ⟨y1, fun H' => ∃ W2 env2 acc rest, NxP p W1 (upd H1 p (.lst [])) W2 H' ∧ At (tx X) ms B p W2 env2 ((σ.set i none).set i1 none) H' acc ∧ (env2[i]? = some none ∨ env2[i]? = none) ∧ (env2[i1]? = some none ∨ env2[i1]? = none) ∧
        lc2Go i i1 gc f1 gc1 fe acc.length (ds.drop (j + 1)) env2 = .ok rest env3 ∧ ys = acc ++ rest, fun H' q => ⟨ds.length - (j + 1), by omega, rfl, hlt, q⟩, fun x H' y => ?_⟩
      obtain ⟨q1, q2⟩ := y2 x H' y
      have a3 := (a2.same q1).set hm hio q2
      refine ⟨wipe_a σ hne, ht _ _ _ _ _ _ a3.ok ?_⟩
      rw [gc1']
      intro W4 H4 b n4 o4 eb
      have eb' : b = c := eb
      subst eb'
      have a4 := a3.next n4 o4
      have n24 : NxP p W1 (upd H1 p (.lst [])) W4 H4 := n2.trans ((Nxt.same q1).trans n4.wp)
      cases b with
      | true =>
        obtain ⟨zs, env5, ys1, env6, rest1, e1, e2, e3, e4⟩ := gT rfl
        refine iteT fun s0 H0 C cl fp => blk_di hcalm (hi1 s0 H0 C cl fp) _ _ _ _ _ _ a4.ok ?_
        rw [e1]
        intro W5 H5 J1 n5 o5 sv1
        have a5 := (a4.next n5 o5).wipe hm1 hio1
        have n25 : NxP p W1 (upd H1 p (.lst [])) W5 H5 := n24.trans n5.wp
        refine ⟨fun j1 m1 H6 => m1 = zs.length - j1 ∧ j1 ≤ zs.length ∧ ∃ W6 env7 b1 r1, NxP p W5 H5 W6 H6 ∧ At (tx X) ms B p W6 env7 ((((σ.set i none).set i1 none).set i (some x)).set i1 none) H6 (acc ++ b1) ∧ lcGo i1 gc1 fe (acc ++ b1).length (zs.drop j1) env7 = .ok r1 env6 ∧ ys1 = b1 ++ r1,
          ⟨zs.length, by simp, Nat.zero_le _, W5, _, [], ys1, Nxt.refl _ _, by rw [List.append_nil]; exact a5, by rw [List.append_nil]; exact e2, rfl⟩, ?_⟩
        rintro j1 m1 H6 ⟨rfl, hj1, W6, env7, b1, r1, n6, a6, g6, ey1⟩
        obtain ⟨t1, t2⟩ := sv1 (Bar (B.and p) W6) H6 (NxP.ext n6) j1
        by_cases hlt1 : j1 < zs.length
        · obtain ⟨u1, u2⟩ := t1 zs[j1] (List.getElem?_eq_getElem hlt1)
          rw [List.drop_eq_getElem_cons hlt1] at g6
          obtain ⟨c, env8, gd, gT1, gF1⟩ := lc_step g6
          refine .inr ⟨u1, fun H' => ∃ W6 env7 b1 r1, NxP p W5 H5 W6 H' ∧ At (tx X) ms B p W6 env7 ((((σ.set i none).set i1 none).set i (some x)).set i1 none) H' (acc ++ b1) ∧ lcGo i1 gc1 fe (acc ++ b1).length (zs.drop (j1 + 1)) env7 = .ok r1 env6 ∧ ys1 = b1 ++ r1, fun H' q => ⟨zs.length - (j1 + 1), by omega, rfl, hlt1, q⟩, fun x1 H' y => ?_⟩
          obtain ⟨v1, v2⟩ := u2 x1 H' y
          have a7 := (a6.same v1).set hm1 hio1 v2
          have back : (((((σ.set i none).set i1 none).set i (some x)).set i1 none).set i1 (some x1)).set i1 none = (((σ.set i none).set i1 none).set i (some x)).set i1 none := by rw [List.set_set, List.set_set]
          have back2 : ((((σ.set i none).set i1 none).set i (some x)).set i1 (some x1)).set i1 none = (((σ.set i none).set i1 none).set i (some x)).set i1 none := by rw [List.set_set]
          refine ⟨back, ht1 _ _ _ _ _ _ a7.ok ?_⟩
          rw [gd]
          intro W8 H8 b n8 o8 eb
          have eb' : b = c := eb
          subst eb'
          have a8 := a7.next n8 o8
          have n68 : NxP p W5 H5 W8 H8 := n6.trans ((Nxt.same v1).trans n8.wp)
          cases b with
          | true =>
            obtain ⟨y2, env9, zs2, f1, f2, f3, f4⟩ := gT1 rfl
            refine iteT fun s0 H0 C cl fp => blk_de hcalm (he s0 H0 C cl fp) _ _ _ _ _ _ a8.ok ?_
            rw [f1]
            intro W9 H9 v n9 o9 r9
            obtain ⟨vs, z1, z2, a10, n10⟩ := (a8.next n9 o9).push r9
            have a11 := a10.wipe hm1 hio1
            rw [back] at a11
            refine ⟨vs, z1, by rw [z2]; exact small_lt f2, W9, env9.set i1 none, b1 ++ [y2], zs2, n68.trans ((n9.wp (p := p)).trans n10), ?_, ?_, ?_⟩
            · rw [← List.append_assoc]
              exact a11
            · rw [← List.append_assoc, List.length_append (as := acc ++ b1)]
              exact f3
            · rw [ey1, f4, List.append_assoc]
              rfl
          | false =>
            have a11 := a8.wipe hm1 hio1
            rw [back] at a11
            exact iteF ⟨W8, _, b1, r1, n68, a11, gF1 rfl, ey1⟩
        · have e : j1 = zs.length := by omega
          subst e
          rw [List.drop_length] at g6
          have g3 : (R.ok [] env7 : R (List D)) = .ok r1 env6 := g6
          injection g3 with g4 g5
          subst g4 g5
          rw [List.append_nil] at ey1
          subst ey1
          have a12 := (a6.wipe hm hio).wipe hm1 hio1
          rw [wipe_b σ hne] at a12
          refine .inl ⟨t2 rfl, W6, _, acc ++ ys1, rest1, n25.trans n6, a12, wen2 _ hne, wen _ _, ?_, ?_⟩
          · rw [List.length_append]
            exact e3
          · rw [ey, e4, List.append_assoc]
      | false =>
        have a5 := (a4.wipe hm hio).wipe hm1 hio1
        rw [wipe_a σ hne] at a5
        exact iteF ⟨W4, _, acc, rest, n24, a5, wen2 _ hne, wen _ _, gF rfl, ey⟩
    · have e : j = ds.length := by omega
      subst e
      rw [List.drop_length] at g2
      have g3 : (R.ok [] env2 : R (List D)) = .ok rest env3 := g2
      injection g3 with g4 g5
      subst g4 g5
      rw [List.append_nil] at ey
      subst ey
      obtain ⟨vs, hp2, r2⟩ := a2.rel
      have o2 : Ok (tx X) ms (B.and p) W2 env2 (σ.set i none) H2 := a2.ok.unset hen1
      have nn := NxP.nxt n2 hp
      refine .inl ⟨s2 rfl, h1 (fun c => W2 c ∨ c = p) H2 _ nn (o2.unblk o1 hm hio nn hen) ⟨p, vs, ys, rfl, rfl, .inr rfl, hp, hp2, RelL.ext ⟨fun a u e n => e, fun a z => ?_⟩ _ r2, fun k e hk hek hs => ?_⟩⟩
      · rcases z with z | z | z
        · exact .inl (.inl (.inl z))
        · exact .inl (.inr z)
        · exact .inl (.inl (.inr z))
      · have q : k ≠ i := fun z => by rw [z, hm] at hk; cases hk
        rw [List.getElem?_set_ne (Ne.symm q)] at hek
        obtain ⟨z1, _⟩ := o2.cellAt hk hek (by rw [List.getElem?_set_ne (Ne.symm q)]; exact hs)
        exact a2.np z1
/-- y = [.. for x in .. for x1 in ..], y a cell of ours -/
theorem tmS_lc2F {kr : Rk (tx X) D V} (k i i1 : Nat) {x x1 y : Str} {px px1 py pos spos : Pos} {iter iter1 elt : Expr} {ifs ifs1 : List Expr} {scope : Scope} {fi f1 : M (List D)} {gc gc1 : M Bool} {fe : M D} (hi : DI X Wx ms (.Name x px) iter fi) (ht : DTs X ms scope ifs gc)
    (hi1 : ∀ (s : Shared) (H : Hp) (C : Addr) (cl : List (Str × Addr)) (fp : List Addr), DI (X.blk s H scope (compEnvC scope cl C X.env) fp) WF ms (.Name x1 px1) iter1 f1) (ht1 : DTs X ms scope ifs1 gc1)
    (he : ∀ (s : Shared) (H : Hp) (C : Addr) (cl : List (Str × Addr)) (fp : List Addr), DE (X.blk s H scope (compEnvC scope cl C X.env) fp) WF ms elt fe)
    (hc : X.calm = true) (hN : X.N.Nodup) (ok : BlkOk X.N X.env.scope scope [(x1, i1), (x, i)])
    (hg : ∀ (s : Shared) (H : Hp) (C : Addr) (cl : List (Str × Addr)) (fp : List Addr), PG (X.blk s H scope (compEnvC scope cl C X.env) fp) (.Name x px) (gName i))
    (hg1 : ∀ (s : Shared) (H : Hp) (C : Addr) (cl : List (Str × Addr)) (fp : List Addr), PG (X.blk s H scope (compEnvC scope cl C X.env) fp) (.Name x1 px1) (gName i1))
    (hy : X.N[k]? = some y := by rfl) (hyl : X.env.scope.names.lookup y = some .local := by rfl) (hsw : swapsWith (.ListComp elt [⟨.Name x px, iter, ifs, 0⟩, ⟨.Name x1 px1, iter1, ifs1, 0⟩] scope pos) (some (.Name y py)) spos.line X.env = pure true := by exact sw_true rfl rfl rfl (by decide +kernel))
    (hne : i ≠ i1 := by decide) (hm : ms.contains i = false := by rfl) (hio : ms.io.contains i = false := by rfl) (hm1 : ms.contains i1 = false := by rfl) (hio1 : ms.io.contains i1 = false := by rfl) (hk : ms.contains k = true := by rfl) (hkio : ms.io.contains k = false := by rfl)
    (hs : ∀ x, foldedSetIterable iter X.env x = pure x := by intro _; rfl) (hs1 : ∀ env x, foldedSetIterable iter1 env x = pure x := by intro _ _; rfl) :
    DS X Wx ms kr (.Assign [.Name y py] (.ListComp elt [⟨.Name x px, iter, ifs, 0⟩, ⟨.Name x1 px1, iter1, ifs1, 0⟩] scope pos) spos) (sSet k (lc2M i i1 fi gc f1 gc1 fe)) := fun B W env σ H Dn o h => by
  obtain ⟨tt, ht2, ht3⟩ := ht
  obtain ⟨tt1, ht4, ht5⟩ := ht1
  refine PS.tm (ps_setLc2 (i := k) (own := [(x1, i1), (x, i)]) (vs1 := [i1]) hc hN hy hyl hsw pi_tm ok (fun z hz => by simp at hz; simp [hz]) hg ht2 (fun s H C cl fp => ⟨fun pins s1 σ H1 R I q => q s H C cl fp pins s1 I⟩) hg1 ht4 (fun s H C cl fp => ⟨fun pins s1 σ H1 Q I q => q s H C cl fp pins s1 I⟩) hs hs1)
    (tm_lc2 hc i i1 hne hm hio hm1 hio1 hi ht3 ht5 hi1 he o ?_)
  exact PoS.cont (k1 := rkF (tx X) ms) h fun d env1 W1 H1 v n1 o1 r1 h1 => h1 W1 H1 (σ.set k (some v)) (Nxt.refl W1 H1) (o1.setF hk hkio r1)
/-- as a value -/
theorem df_lc2 (i i1 : Nat) {x x1 : Str} {px px1 pos : Pos} {iter iter1 elt : Expr} {ifs ifs1 : List Expr} {scope : Scope} {fi f1 : M (List D)} {gc gc1 : M Bool} {fe : M D} (hi : DI X Wx ms (.Name x px) iter fi) (ht : DTs X ms scope ifs gc)
    (hi1 : ∀ (s : Shared) (H : Hp) (C : Addr) (cl : List (Str × Addr)) (fp : List Addr), DI (X.blk s H scope (compEnvC scope cl C X.env) fp) WF ms (.Name x1 px1) iter1 f1) (ht1 : DTs X ms scope ifs1 gc1)
    (he : ∀ (s : Shared) (H : Hp) (C : Addr) (cl : List (Str × Addr)) (fp : List Addr), DE (X.blk s H scope (compEnvC scope cl C X.env) fp) WF ms elt fe)
    (hc : X.calm = true) (hN : X.N.Nodup) (ok : BlkOk X.N X.env.scope scope [(x1, i1), (x, i)])
    (hg : ∀ (s : Shared) (H : Hp) (C : Addr) (cl : List (Str × Addr)) (fp : List Addr), PG (X.blk s H scope (compEnvC scope cl C X.env) fp) (.Name x px) (gName i))
    (hg1 : ∀ (s : Shared) (H : Hp) (C : Addr) (cl : List (Str × Addr)) (fp : List Addr), PG (X.blk s H scope (compEnvC scope cl C X.env) fp) (.Name x1 px1) (gName i1))
    (hne : i ≠ i1 := by decide) (hm : ms.contains i = false := by rfl) (hio : ms.io.contains i = false := by rfl) (hm1 : ms.contains i1 = false := by rfl) (hio1 : ms.io.contains i1 = false := by rfl)
    (hs : ∀ x, foldedSetIterable iter X.env x = pure x := by intro _; rfl) (hs1 : ∀ env x, foldedSetIterable iter1 env x = pure x := by intro _ _; rfl) :
    DF X Wx ms (.ListComp elt [⟨.Name x px, iter, ifs, 0⟩, ⟨.Name x1 px1, iter1, ifs1, 0⟩] scope pos) (lc2M i i1 fi gc f1 gc1 fe) := fun B W env σ H Q o h => by
  obtain ⟨tt, ht2, ht3⟩ := ht
  obtain ⟨tt1, ht4, ht5⟩ := ht1
  exact PE.tm (pe_lc2 (own := [(x1, i1), (x, i)]) (vs1 := [i1]) hc hN pi_tm ok (fun z hz => by simp at hz; simp [hz]) hg ht2 (fun s H C cl fp => ⟨fun pins s1 σ H1 R I q => q s H C cl fp pins s1 I⟩) hg1 ht4 (fun s H C cl fp => ⟨fun pins s1 σ H1 Q I q => q s H C cl fp pins s1 I⟩) hs hs1)
    (tm_lc2 hc i i1 hne hm hio hm1 hio1 hi ht3 ht5 hi1 he o h)
end
end DL

set_option Elab.async false
set_option linter.all false
set_option maxRecDepth 100000
set_option maxHeartbeats 4000000
/-! what the text says, looked at by a Hook: facts as Bool functions, defs at any address -/
namespace DL
open PySem PySem.Spec PyProof.Rows L2
/-! ### the Hook -/
structure Df where
  pl : PySem.W.Frag → Addr
  name : Str
  qual : Str
  params : Arguments
  body : List Stmt
  scope : Scope
  dfl : List He.Dv := []
  clo : PySem.W.Frag → List (Str × Addr) := fun _ => []
abbrev Sd : Type := Option (Str × Str × Arguments × FuncBody × Scope × Addr × Addr)
def sdAt (K : PySem.W.Frag) (a : Addr) : Sd := match K.lookup a with
  | some ⟨_, _, .func z, _⟩ => some (z.name, z.qualname, z.params, z.body, z.scope, z.globals, z.builtins)
  | _ => none
def Df.want (d : Df) : Sd := some (d.name, d.qual, d.params, .stmts d.body, d.scope, mainGlobals, builtinsNs)
def Df.rest (K : PySem.W.Frag) (d : Df) : Bool := PySem.W.keepIn K (.ref (d.pl K)) && (match K.lookup (d.pl K) with
  | some ⟨_, _, .func z, _⟩ => decide (z.closure = d.clo K) && (PySem.W.codeIn K z.code d.qual && He.dflB K z.defaults (d.dfl.map (He.Dv.v K)))
  | _ => false)
abbrev Lk : Type := Bool × List Sd
def look (fx : List (PySem.W.Frag → Bool)) (fn : List Df) (K : PySem.W.Frag) : Lk := ((fx.all fun f => f K) && fn.all fun d => d.rest K, fn.map fun d => sdAt K (d.pl K))
def lookWant (fn : List Df) : Lk := (true, fn.map Df.want)
def Told (fx : List (PySem.W.Frag → Bool)) (fn : List Df) (K : PySem.W.Frag) : Prop := look fx fn K = lookWant fn
def reach (g : Addr → Option Obj) : Nat → List Addr
  | 0 => [mainGlobals, cStatics]
  | n + 1 => He.growD g (reach g n)
def lookG (n : Nat) (fx : List (PySem.W.Frag → Bool)) (fn : List Df) (g : Addr → Option Obj) : Lk := look fx fn (He.frG g (reach g n))
def hookL (n : Nat) (fx : List (PySem.W.Frag → Bool)) (fn : List Df) : PySem.W.Hook where
  α := Lk
  obs := fun sh => lookG n fx fn sh.heap.get?
  val := fun _ => lookWant fn
  says := fun _ hp => ∃ K : PySem.W.Frag, K.In hp ∧ Told fx fn K
  of := fun _ _ z => ⟨_, He.frG_in, z⟩
  keeps := fun _ _ _ ⟨K, q, c⟩ kp => ⟨K, PySem.W.Frag.In.keeps q kp, c⟩
theorem lookG_eq {n : Nat} {fx : List (PySem.W.Frag → Bool)} {fn : List Df} {g : Addr → Option Obj} {sh : Shared} (h : ∀ a, g a = sh.heap.get? a) : lookG n fx fn g = (hookL n fx fn).obs sh := by
  rw [show g = sh.heap.get? from funext h]
  rfl
section
variable {fx : List (PySem.W.Frag → Bool)} {fn : List Df} {K : PySem.W.Frag}
theorem Told.fact (c : Told fx fn K) (i : Nat) {f : PySem.W.Frag → Bool} (h : fx[i]? = some f := by rfl) : f K = true := by
  have z := (He.ba (show ((fx.all fun f => f K) && fn.all fun d => d.rest K) = true from congrArg (fun z : Lk => z.1) c)).1
  exact List.all_eq_true.mp z f (List.mem_of_getElem? h)
theorem Told.df (c : Told fx fn K) (i : Nat) {d : Df} (h : fn[i]? = some d := by rfl) : sdAt K (d.pl K) = d.want ∧ d.rest K = true := by
  have z := (He.ba (show ((fx.all fun f => f K) && fn.all fun d => d.rest K) = true from congrArg (fun z : Lk => z.1) c)).2
  refine ⟨?_, List.all_eq_true.mp z d (List.mem_of_getElem? h)⟩
  have e := congrArg (fun z : Lk => z.2[i]?) c
  have e2 : (fn.map fun d => sdAt K (d.pl K))[i]? = (fn.map Df.want)[i]? := e
  rw [List.getElem?_map, List.getElem?_map, h] at e2
  exact Option.some.inj e2
end
theorem Df.open_ {K : PySem.W.Frag} {d : Df} (h : sdAt K (d.pl K) = d.want ∧ d.rest K = true) : PySem.W.keepIn K (.ref (d.pl K)) = true ∧
    ∃ (oc : Value) (od : Option Addr) (dV kV doc pm : Value) (an : Option Addr) (cdv ct : Value) (osl : Array (Option Value)), K.lookup (d.pl K) = some ⟨oc, od, .func (PySem.W.fnX d.name d.qual d.params d.body d.scope (d.clo K) dV kV doc pm an cdv ct), osl⟩ ∧
      PySem.W.codeIn K cdv d.qual = true ∧ He.dflB K dV (d.dfl.map (He.Dv.v K)) = true := by
  obtain ⟨e, c⟩ := h
  obtain ⟨c1, c2⟩ := He.ba c
  refine ⟨c1, ?_⟩
  unfold sdAt at e
  cases q : K.lookup (d.pl K) with
  | none =>
    rw [q] at c2
    cases c2
  | some o =>
    obtain ⟨oc, od, dt, osl⟩ := o
    rw [q] at c2 e
    cases dt with
    | func z =>
      obtain ⟨z1, z2, z3, z4, z5, z6, z7, z8, z9, z10, z11, z12, z13, z14, z15⟩ := z
      have e2 : (some (z1, z2, z3, z4, z5, z6, z15) : Sd) = some (d.name, d.qual, d.params, .stmts d.body, d.scope, mainGlobals, builtinsNs) := e
      simp only [Option.some.injEq, Prod.mk.injEq] at e2
      obtain ⟨h1, h2, h3, h4, h5, h6, h7⟩ := e2
      subst h1 h2 h3 h4 h5 h6 h7
      have c3 : (decide (z7 = d.clo K) && (PySem.W.codeIn K z13 d.qual && He.dflB K z8 (d.dfl.map (He.Dv.v K)))) = true := c2
      obtain ⟨k1, k2⟩ := He.ba c3
      obtain ⟨k3, k4⟩ := He.ba k2
      have k5 : z7 = d.clo K := of_decide_eq_true k1
      subst k5
      exact ⟨oc, od, z8, z9, z10, z11, z12, z13, z14, osl, rfl, k3, k4⟩
    | _ => cases c2
/-- a plain def -/
theorem Df.fun_ {K : PySem.W.Frag} {d : Df} (h : sdAt K (d.pl K) = d.want ∧ d.rest K = true) (hc : d.clo K = []) : ∃ fd, FunD K d.name d.qual d.params d.body d.scope (d.dfl.map (He.Dv.v K)) [] (d.pl K) fd := by
  obtain ⟨kp, oc, od, dV, kV, doc, pm, an, cdv, ct, osl, lk, k1, k2⟩ := Df.open_ h
  rw [hc] at lk
  exact ⟨_, ⟨oc, od, dV, kV, doc, pm, an, cdv, ct, osl, rfl, lk, k1, He.dflB_ok k2, .inl rfl⟩, kp⟩
/-! ### paths -/
def pGl (x : Str) : PySem.W.Frag → Addr := fun K => He.ga K x
def pMe (c m : Str) : PySem.W.Frag → Addr := fun K => He.ma K (He.ga K c) m
/-- the record at C.m (a classmethod, a property) -/
def rcAt (K : PySem.W.Frag) (c m : Str) (T : String) (i : Nat) : Addr := match PySem.W.recIn K (He.ma K (He.ga K c) m) T with
  | some vs => (match vs[i]? with
    | some (.ref a) => a
    | _ => 0)
  | none => 0
def pCm (c m : Str) : PySem.W.Frag → Addr := fun K => rcAt K c m "classmethod" 0
/-! ### facts -/
abbrev Fc : Type := PySem.W.Frag → Bool
def fHe (f : He.Fa) : Fc := fun K => f.ok K
def fCon (c f : Str) (v : He.Dv) : Fc := fun K => He.conB K c f v
/-- C.m is a classmethod -/
def fCm (c m : Str) : Fc := fun K => PySem.W.readsIn K (He.ga K c) (.type "type") && (decide (PySem.W.specialIn K (.ref (He.ga K c)) "__getattribute__" = some (some (.builtin "type.__getattribute__"))) && ((match PySem.W.findCls K (.ref (He.ga K c)) (.type "type") m with
  | some (.get (.builtin g) (.ref p) .none (.ref c2)) => decide (g = "classmethod.__get__") && (decide (p = He.ma K (He.ga K c) m) && decide (c2 = He.ga K c))
  | _ => false) && ((match PySem.W.recIn K (He.ma K (He.ga K c) m) "classmethod" with
  | some (.ref g :: _) => decide (g = pCm c m K)
  | _ => false) && PySem.W.fnIn K (pCm c m K))))
theorem fCm_ok {K : PySem.W.Frag} {c m : Str} (h : fCm c m K = true) : ClX.CRead K (He.ga K c) (.type "type") ∧ ClX.CMet K (He.ga K c) (.type "type") m (He.ma K (He.ga K c) m) (pCm c m K) := by
  obtain ⟨h1, h⟩ := He.ba h
  obtain ⟨h2, h⟩ := He.ba h
  obtain ⟨h3, h⟩ := He.ba h
  obtain ⟨h4, h5⟩ := He.ba h
  refine ⟨⟨h1, of_decide_eq_true h2⟩, ?_, ?_, h5⟩
  · split at h3
    · rename_i g p c2 e
      obtain ⟨k1, k2⟩ := He.ba h3
      obtain ⟨k2, k3⟩ := He.ba k2
      rw [e, of_decide_eq_true k1, of_decide_eq_true k2, of_decide_eq_true k3]
    · cases h3
  · split at h4
    · rename_i g r e
      rw [of_decide_eq_true h4] at e
      exact ⟨r, e⟩
    · cases h4
/-- an own exception whose __init__ puts its parameters -/
def fEx (c : Str) (fs : List Str) : Fc := fun K => (match K.lookup (He.ga K c) with
  | some ⟨.type t, _, .cls cd, sl⟩ => decide (t = "type") && (match cd.mro, sl.toList with
    | .ref c' :: bm, [_, _, _, _, some (.builtin n), _] => decide (c' = He.ga K c) && (decide (n = "Exception.__new__") && (!cd.hasDel && (cd.hasDict && overX bm)))
    | _, _ => false)
  | _ => false) && (decide (PySem.W.findIn K (.ref (He.ga K c)) "__setattr__" = some (some (.builtin "object.__setattr__"))) && ((fs.all fun f => decide (PySem.W.findIn K (.ref (He.ga K c)) f = some none)) &&
  (decide (PySem.W.findIn K (.ref (He.ga K c)) "__init__" = some (some (.ref (pMe c "__init__" K)))) && (decide (PySem.W.typeIn K (.ref (pMe c "__init__" K)) = some (.type "function")) && (PySem.W.keepIn K (.ref (He.ga K c)) &&
  (decide (PySem.W.subIn K (.ref (He.ga K c)) (.type "BaseException") = some true) && decide (PySem.W.typeIn K (.ref (He.ga K c)) = some (.type "type"))))))))
theorem fEx_ok {K : PySem.W.Frag} {c : Str} {fs : List Str} {x qual : Str} {params : Arguments} {body : List Stmt} {scope : Scope} {fd : FuncData} (h : fEx c fs K = true) (F : FunD K x qual params body scope [] [] (pMe c "__init__" K) fd) (hp : Puts fs body) (hs : Pars qual scope fs)
    (hb : ∀ (doc pm : Value) (an : Option Addr) (cdv ct kV : Value) (u : Value) (vs : List Value), vs.length = fs.length → bindArgs (PySem.W.fnOf x qual params body scope .none kV doc pm an cdv ct) ⟨u :: vs, []⟩ = pure ((("self" : Str), u) :: fs.zip vs)) :
    ExT K (He.ga K c) (pMe c "__init__" K) fs := by
  obtain ⟨h1, h⟩ := He.ba h
  obtain ⟨h2, h⟩ := He.ba h
  obtain ⟨h3, h⟩ := He.ba h
  obtain ⟨h4, h⟩ := He.ba h
  obtain ⟨h5, h⟩ := He.ba h
  obtain ⟨h6, h⟩ := He.ba h
  obtain ⟨h7, h8⟩ := He.ba h
  refine ⟨?_, of_decide_eq_true h2, fun f hf => of_decide_eq_true (List.all_eq_true.mp h3 f hf), of_decide_eq_true h4, of_decide_eq_true h5, h6, of_decide_eq_true h7, of_decide_eq_true h8, ⟨x, qual, params, body, scope, fd, F, hp, hs, hb⟩⟩
  split at h1
  · rename_i t dd cd sl e
    obtain ⟨k1, k2⟩ := He.ba h1
    split at k2
    · rename_i c' bm k0 ka kb kc n kd em es
      obtain ⟨j1, j⟩ := He.ba k2
      obtain ⟨j2, j⟩ := He.ba j
      obtain ⟨j3, j⟩ := He.ba j
      obtain ⟨j4, j5⟩ := He.ba j
      have t1 := of_decide_eq_true k1
      have t2 := of_decide_eq_true j1
      have t3 := of_decide_eq_true j2
      obtain ⟨nm1, bs, mro, ns, qn, hd, sn, sub, ab, col, del⟩ := cd
      dsimp only at em j3 j4
      have j3' : del = false := by cases del with | false => rfl | true => cases j3
      obtain ⟨l⟩ := sl
      dsimp only at es
      subst es t1 t3 em j3' j4
      rw [t2] at e
      exact ⟨nm1, qn, ns, bs, bm, sn, sub, ab, col, dd, k0, ka, kb, kc, kd, e, j5⟩
    · cases k2
  · cases h1
/-- e.f of a caught exception -/
def fXf (c f : Str) : Fc := fun K => L2.xfB K (He.ga K c) && decide (PySem.W.findIn K (.ref (He.ga K c)) f = some none)
/-- instances of C know their class -/
def fIsi (c : Str) : Fc := fun K => (He.Fa.cls c).ok K && (decide (PySem.W.findIn K (.ref (He.ga K c)) "__class__" = some (some (.builtin "object.__class__"))) && (decide (PySem.W.specialIn K (.builtin "object.__class__") "__get__" = some (some (.builtin "getset_descriptor.__get__"))) &&
  (decide (PySem.W.takesIn K (.builtin "object.__class__") = some true) && decide (PySem.W.mroIn K (He.ga K c) (.type "object") = some true))))
theorem fIsi_ok {K : PySem.W.Frag} {c : Str} (h : fIsi c K = true) : IsiC K (He.ga K c) := by
  obtain ⟨h1, h⟩ := He.ba h
  obtain ⟨h2, h⟩ := He.ba h
  obtain ⟨h3, h⟩ := He.ba h
  obtain ⟨h4, h5⟩ := He.ba h
  exact ⟨He.cls_ok h1, of_decide_eq_true h2, of_decide_eq_true h3, of_decide_eq_true h4, of_decide_eq_true h5⟩
def fKit (c d : Str) (b : Bool) : Fc := fun K => decide (PySem.W.kitOne K (.ref (He.ga K c)) (.ref (He.ga K d)) = some b)
def fNe (c : Str) : Fc := fun K => decide (PySem.W.findIn K (.ref (He.ga K c)) "__ne__" = some (some (.builtin "object.__ne__"))) && decide (PySem.W.mroIn K (He.ga K c) (.type "object") = some true)
def fNotFirst (c d : Str) : Fc := fun K => PySem.W.notFirst K (He.ga K c) (.ref (He.ga K d))
def fSelfFirst (c : Str) : Fc := fun K => PySem.W.selfFirst K (He.ga K c)
/-! ### an __init__ with super -/
def cdAt (f : PySem.W.Frag → Addr) (K : PySem.W.Frag) : Addr := match K.lookup (f K) with
  | some ⟨_, _, .func z, _⟩ => (match z.code with
    | .ref c => c
    | _ => 0)
  | _ => 0
def ccAt (f : PySem.W.Frag → Addr) (K : PySem.W.Frag) : Addr := match K.lookup (f K) with
  | some ⟨_, _, .func z, _⟩ => (match z.closure with
    | (_, c) :: _ => c
    | [] => 0)
  | _ => 0
/-- f: the __init__ of class c, which names the one of b -/
def fSup (c b fl : Str) : Fc := fun K => (match K.lookup (ccAt (pMe c "__init__") K) with
  | some ⟨_, _, .cell (some (.ref d)), _⟩ => decide (d = He.ga K c)
  | _ => false) && ((match K.lookup (cdAt (pMe c "__init__") K) with
  | some ⟨_, _, .fields vs, _⟩ => (match (vs[2]? : Option Value) with
    | some (.str x _) => decide (x = fl)
    | _ => false)
  | _ => false) && ((PySem.W.clsIn K (He.ga K c)).isSome && (decide (PySem.W.nsIn K cStatics "thirdparty.any" = some none) && (decide (PySem.W.ks_superIn K (He.ga K c) (He.ga K c) "__init__" = some (some (.ref (pMe b "__init__" K)))) &&
  (decide (PySem.W.typeIn K (.ref (pMe b "__init__" K)) = some (.type "function")) && (PySem.W.fnIn K (pMe b "__init__" K) && decide (PySem.W.mroIn K (He.ga K c) (.ref (He.ga K c)) = some true)))))))
theorem fSup_ok {P : Program} {K : PySem.W.Frag} {mg : Str → Option Value} {c b fl : Str} {d : Df} {N ps : List Str} (h : fSup c b fl K = true) (hd : sdAt K (d.pl K) = d.want ∧ d.rest K = true) (hpl : d.pl K = pMe c "__init__" K) (hcl : d.clo K = [(("__class__" : Str), ccAt (pMe c "__init__") K)]) (hfl : P.main.file = fl)
    (sc : NdefX.NScope N ps ["__class__"] d.scope) (sup : mg "super" = none) (top : (P.main.scope.names.lookup ("super" : Str)).isSome = false) (par : ∃ ar, (d.params.posonlyargs ++ d.params.args).head? = some ar ∧ ar.arg = ("self" : Str)) (self : ps[0]? = some ("self" : Str))
    (ks : d.scope.names.lookup ("super" : Str) = some .globalImplicit) (kc : d.scope.names.lookup ("__class__" : Str) = some .free) (big : ps.length < N.length) (hne : d.dfl ≠ [])
    (hb : ∀ (cl : List (Str × Addr)) (T : Addr) (kV doc pm : Value) (an : Option Addr) (cdv ct : Value) (us its : List Value), us.length = ps.length → its.length = d.dfl.length →
      ∃ k, bindArgs (PySem.W.fnX d.name d.qual d.params d.body d.scope cl (.ref T) kV doc pm an cdv ct) ⟨us, []⟩ = seqItems? (.ref T) >>= k ∧ k (some its.toArray) = pure (ps.zip us)) :
    SupT P K mg (pMe c "__init__" K) (pMe b "__init__" K) (ccAt (pMe c "__init__") K) (cdAt (pMe c "__init__") K) (He.ga K c) ⟨d.name, d.qual, d.params, d.body, d.scope, [(("__class__" : Str), ccAt (pMe c "__init__") K)], cdAt (pMe c "__init__") K⟩ N ps := by
  obtain ⟨h1, h⟩ := He.ba h
  obtain ⟨h2, h⟩ := He.ba h
  obtain ⟨h3, h⟩ := He.ba h
  obtain ⟨h4, h⟩ := He.ba h
  obtain ⟨h5, h⟩ := He.ba h
  obtain ⟨h6, h⟩ := He.ba h
  obtain ⟨h7, h8⟩ := He.ba h
  obtain ⟨kp, oc, od, dV, kV, doc, pm, an, cdv, ct, osl, lk, k1, k2⟩ := Df.open_ hd
  rw [hpl, hcl] at lk
  have ecd : cdv = .ref (cdAt (pMe c "__init__") K) := by
    unfold cdAt
    rw [lk]
    cases cdv with
    | ref z => rfl
    | _ => cases k1
  subst ecd
  refine ⟨⟨oc, od, dV, kV, doc, pm, an, ct, osl, lk, fun s us X hlen => ?_⟩, rfl, rfl, k1, sc, ?_, ?_, Option.isSome_iff_exists.mp h3, sup, top, par, self, ks, kc, of_decide_eq_true h4, of_decide_eq_true h5, of_decide_eq_true h6, h7, of_decide_eq_true h8, big⟩
  · rw [List.append_nil] at hlen ⊢
    rcases He.dflB_ok k2 with ⟨e, _⟩ | ⟨_, T, o, its, m, rfl, lT, oT, rT⟩
    · exact absurd (List.map_eq_nil_iff.mp e) hne
    · obtain ⟨k, e1, e2⟩ := hb _ T kV doc pm an _ ct us its hlen (by rw [← rT.length, List.length_map])
      refine BindsTo.of_looks fun M => ?_
      rw [e1]
      exact looks_items X lT oT (.of_pure e2)
  · split at h1
    · rename_i x1 x2 dd x3 e
      rw [of_decide_eq_true h1] at e
      exact ⟨_, _, _, e⟩
    · cases h1
  · split at h2
    · rename_i x1 x2 vs x3 e
      split at h2
      · rename_i x t e2
        refine ⟨_, _, vs, _, x, t, e, e2, ?_⟩
        rw [hfl, of_decide_eq_true h2]
        exact beq_self_eq_true _
      · cases h2
    · cases h2
end DL

set_option Elab.async false
set_option linter.all false
set_option maxRecDepth 100000
set_option maxHeartbeats 4000000
/-! list(range(n)); a list of two clauses put in a plain slot; what each def's derivation needs -/
namespace DL
open PySem PySem.Spec L2
section
variable {X : Cx} {ms : Ms} {Wx : WX}
theorem rel_rg {T : Tx} {B : Addr → Prop} {H : Hp} : ∀ n k : Nat, RelL T B H ((List.range' k n).map fun (i : Nat) => D.int (0 + i)) ((List.range' k n).map fun (i : Nat) => V.int (0 + i))
  | 0, _ => trivial
  | n + 1, k => ⟨rfl, rel_rg n (k + 1)⟩
def lstRg : List D → Option D
  | [.int j] => if (decide (0 ≤ j) && decide (j < 100000)) = true then some (.lst ((List.range' 0 j.toNat).map fun (i : Nat) => D.int (0 + i))) else none
  | _ => none
theorem df_listRg {a : Expr} {fa : M D} {p p1 pos pos1 : Pos} (hc : X.calm = true) (hg : Gl X "list") (hm : X.mg "list" = none) (hg1 : Gl X "range") (hm1 : X.mg "range" = none) (ha : DE X Wx ms a fa)
    (na : starEach [a] X.env = (false, eval a X.env) :: starEach [] X.env := by rfl) (na2 : starEach [.Call (.Name "range" p1) [a] [] pos1] X.env = (false, eval (.Call (.Name "range" p1) [a] [] pos1) X.env) :: starEach [] X.env := by rfl) :
    DF X Wx ms (.Call (.Name "list" p) [.Call (.Name "range" p1) [a] [] pos1] [] pos) (opN lstRg (aCons fa aNil)) := fun B W env σ H Q o h => by
  refine PE.tm (pe_listRg hc hg hm (prg_1 hg1 hm1 pe_tm na) na2) ?_
  have e0 : opN lstRg (aCons fa aNil) env = (fa env).bind fun d env1 => M.of (lstRg [d]) env1 := by
    unfold opN aCons aNil
    cases fa env <;> rfl
  rw [e0] at h
  refine ha _ _ _ _ _ _ o (Po.cont (k1 := rkD (tx X)) h fun d env1 W1 H1 v n1 o1 r1 h1 => ?_)
  · obtain ⟨z, e1, h3⟩ := of_pos h1
    cases d with
    | int j =>
      have e2 : (if (decide (0 ≤ j) && decide (j < 100000)) = true then some (D.lst ((List.range' 0 j.toNat).map fun (i : Nat) => D.int (0 + i))) else none) = some z := e1
      obtain ⟨e3, e5⟩ := ite_some e2
      subst e5
      obtain ⟨e3, e4⟩ := Bool.and_eq_true_iff.mp e3
      have hj := of_decide_eq_true e3
      have e4 := of_decide_eq_true e4
      obtain rfl : v = V.int j := r1
      have ev : rgV 0 j = (List.range' 0 j.toNat).map fun (i : Nat) => V.int (0 + i) := by
        unfold rgV
        rw [Int.sub_zero, List.range_eq_range']
      refine ⟨j, rfl, RgOk.of_le (Int.le_refl _) (by omega) (by omega) hj, fun q hq => ?_⟩
      rw [ev]
      exact h3.made o1 hq (rel_rg _ 0)
    | _ => cases e1
theorem tmS_lc2 {kr : Rk (tx X) D V} (k i i1 : Nat) {x x1 y : Str} {px px1 py pos spos : Pos} {iter iter1 elt : Expr} {ifs ifs1 : List Expr} {scope : Scope} {fi f1 : M (List D)} {gc gc1 : M Bool} {fe : M D} (hi : DI X Wx ms (.Name x px) iter fi) (ht : DTs X ms scope ifs gc)
    (hi1 : ∀ (s : Shared) (H : Hp) (C : Addr) (cl : List (Str × Addr)) (fp : List Addr), DI (X.blk s H scope (compEnvC scope cl C X.env) fp) WF ms (.Name x1 px1) iter1 f1) (ht1 : DTs X ms scope ifs1 gc1)
    (he : ∀ (s : Shared) (H : Hp) (C : Addr) (cl : List (Str × Addr)) (fp : List Addr), DE (X.blk s H scope (compEnvC scope cl C X.env) fp) WF ms elt fe)
    (hc : X.calm = true) (hN : X.N.Nodup) (ok : BlkOk X.N X.env.scope scope [(x1, i1), (x, i)])
    (hg : ∀ (s : Shared) (H : Hp) (C : Addr) (cl : List (Str × Addr)) (fp : List Addr), PG (X.blk s H scope (compEnvC scope cl C X.env) fp) (.Name x px) (gName i))
    (hg1 : ∀ (s : Shared) (H : Hp) (C : Addr) (cl : List (Str × Addr)) (fp : List Addr), PG (X.blk s H scope (compEnvC scope cl C X.env) fp) (.Name x1 px1) (gName i1))
    (hy : X.N[k]? = some y := by rfl) (hyl : X.env.scope.names.lookup y = some .local := by rfl) (hsw : swapsWith (.ListComp elt [⟨.Name x px, iter, ifs, 0⟩, ⟨.Name x1 px1, iter1, ifs1, 0⟩] scope pos) (some (.Name y py)) spos.line X.env = pure true := by exact sw_true rfl rfl rfl (by decide +kernel))
    (hne : i ≠ i1 := by decide) (hm : ms.contains i = false := by rfl) (hio : ms.io.contains i = false := by rfl) (hm1 : ms.contains i1 = false := by rfl) (hio1 : ms.io.contains i1 = false := by rfl) (hk : ms.contains k = false := by rfl) (hkio : ms.io.contains k = false := by rfl)
    (hs : ∀ x, foldedSetIterable iter X.env x = pure x := by intro _; rfl) (hs1 : ∀ env x, foldedSetIterable iter1 env x = pure x := by intro _ _; rfl) :
    DS X Wx ms kr (.Assign [.Name y py] (.ListComp elt [⟨.Name x px, iter, ifs, 0⟩, ⟨.Name x1 px1, iter1, ifs1, 0⟩] scope pos) spos) (sSet k (lc2M i i1 fi gc f1 gc1 fe)) := fun B W env σ H Dn o h => by
  obtain ⟨tt, ht2, ht3⟩ := ht
  obtain ⟨tt1, ht4, ht5⟩ := ht1
  refine PS.tm (ps_setLc2 (i := k) (own := [(x1, i1), (x, i)]) (vs1 := [i1]) hc hN hy hyl hsw pi_tm ok (fun z hz => by simp at hz; simp [hz]) hg ht2 (fun s H C cl fp => ⟨fun pins s1 σ H1 R I q => q s H C cl fp pins s1 I⟩) hg1 ht4 (fun s H C cl fp => ⟨fun pins s1 σ H1 Q I q => q s H C cl fp pins s1 I⟩) hs hs1)
    (tm_lc2 hc i i1 hne hm hio hm1 hio1 hi ht3 ht5 hi1 he o ?_)
  have key := PoS.cont (k1 := rkD (tx X)) (Q1 := fun v H1 => Dn.nx (σ.set k (some v)) H1) h fun d env1 W1 H1 v n1 o1 r1 h1 => h1 W1 H1 (σ.set k (some v)) (Nxt.refl W1 H1) (o1.set hk hkio r1)
  revert key
  cases lc2M i i1 fi gc f1 gc1 fe env with
  | ok a env' =>
    intro key W' H' v n o' z
    obtain ⟨c, vs, l, rfl, rfl, hw, h0, hl, rl, hf⟩ := z
    refine key (fun b => W' b ∧ b ≠ c) H' _ ⟨n.keep, fun b w => n.new b w.1, n.live⟩ (o'.less hf) ⟨c, vs, rfl, hl, fun b => ?_, RelL.ext ⟨fun b u h _ => h, fun b w => ?_⟩ l rl⟩
    · rcases b with b | b
      · obtain ⟨u, e⟩ := o.wf c (.inl b)
        rw [h0] at e; cases e
      · exact b.2 rfl
    · rcases w with w | w
      · exact .inl (.inl w)
      · exact .inl (.inr w.1)
  | err c ns ds env' => exact fun key => key
  | stuck => exact fun key => key
end
/-! ### the frame of a derivation -/
section
variable {P : Program} {w : World} {K : PySem.W.Frag} {mg : Str → Option Value} {base : Heap} {N : List Str} {qual : Str} {scope : Scope} {f : Addr} {cdv : Value} {A : Around} {outer : List Env} {s : Shared} {H : Hp} {E : XK}
theorem takesD : Takes (xof P w K mg base N qual scope f cdv A outer s H E) (fun cls d _ H => E cls d H) := takes_of rfl rfl rfl rfl
theorem ownsD : PassesOwn (model P w) (xof P w K mg base N qual scope f cdv A outer s H E).A (xof P w K mg base N qual scope f cdv A outer s H E).env (xof P w K mg base N qual scope f cdv A outer s H E).xe := passes_of (X := xof P w K mg base N qual scope f cdv A outer s H E) rfl
end
theorem takesF {X : Cx} : Takes X WF := fun u s' ⟨_, _, _, _, _, _, _, _, _, _, _, _, _, _, _, _, z⟩ => z.elim
theorem units1 {k : Nat} {A : Around} (r : Room k A) : A.units + 65 < cLine := by
  have := r.un
  omega
def msB (ms : Ms) (np : Nat) (io : Option Nat) : Bool := ((List.range np).all fun i => ms.contains i == (io == some i)) && match io with
  | none => true
  | some i => ms.io.contains i
theorem msB_ok {ms : Ms} {np : Nat} {io : Option Nat} (h : msB ms np io = true) : MsOk ms np io := by
  obtain ⟨h1, h2⟩ := Bool.and_eq_true_iff.mp h
  refine ⟨fun i hi => ?_, fun i e => ?_⟩
  · have z := List.all_eq_true.mp h1 i (List.mem_range.mpr hi)
    rw [beq_iff_eq.mp z, beq_iff_eq]
  · subst e
    exact h2
def blkB (N : List Str) (sc scope : Scope) (own : List (Str × Nat)) : Bool := decide (scope.kind = .function) && ((scope.names.all fun y => decide (scope.names.lookup y.1 = some y.2)) && ((own.all fun p => decide (N[p.2]? = some p.1)) &&
  ((scope.names.all fun y => !decide (y.2 = .free) || (decide (sc.names.lookup y.1 = some .cell) || decide (sc.names.lookup y.1 = some .free))) && scope.names.all fun y => (!decide (y.2 = .local) && !decide (y.2 = .cell)) || (decide (y.1 ∈ own.map (·.1)) || !decide (y.1 ∈ N)))))
theorem blkB_ok {N : List Str} {sc scope : Scope} {own : List (Str × Nat)} (h : blkB N sc scope own = true) : BlkOk N sc scope own := by
  obtain ⟨h1, h⟩ := Bool.and_eq_true_iff.mp h
  obtain ⟨h2, h⟩ := Bool.and_eq_true_iff.mp h
  obtain ⟨h3, h⟩ := Bool.and_eq_true_iff.mp h
  obtain ⟨h4, h5⟩ := Bool.and_eq_true_iff.mp h
  refine ⟨of_decide_eq_true h1, fun y hy => of_decide_eq_true (List.all_eq_true.mp h2 y hy), fun p hp => of_decide_eq_true (List.all_eq_true.mp h3 p hp), fun y hy e => ?_, fun y hy e => ?_⟩
  · have z := List.all_eq_true.mp h4 y hy
    simp only [e, decide_true, Bool.not_true, Bool.false_or, Bool.or_eq_true, decide_eq_true_eq] at z
    exact z
  · have z := List.all_eq_true.mp h5 y hy
    rcases Bool.or_eq_true_iff.mp z with z | z
    · obtain ⟨z1, z2⟩ := Bool.and_eq_true_iff.mp z
      simp only [Bool.not_eq_true', decide_eq_false_iff_not] at z1 z2
      exact absurd e (fun e => e.elim z1 z2)
    · rcases Bool.or_eq_true_iff.mp z with z | z
      · exact .inl (of_decide_eq_true z)
      · simp only [Bool.not_eq_true', decide_eq_false_iff_not] at z
        exact .inr z
/-- FnScope by a test -/
def fscB (N ps : List Str) (sc : Scope) : Bool := decide (sc.kind = .function) && (!sc.isCoroutine && (!sc.isGenerator && (decide N.Nodup && (decide (N.take ps.length = ps) && (ps.all (fun x => decide (sc.names.lookup x = some .local) || decide (sc.names.lookup x = some .cell)) && sc.names.all fun y => !decide (y.2 = .free))))))
theorem fscB_ok {N ps : List Str} {sc : Scope} (h : fscB N ps sc = true) : FnScope N ps sc := by
  unfold fscB at h
  simp only [Bool.and_eq_true, Bool.not_eq_true', decide_eq_true_eq, List.all_eq_true, Bool.or_eq_true, decide_eq_false_iff_not] at h
  obtain ⟨h1, h2, h3, h4, h5, h6, h7⟩ := h
  exact ⟨h1, h2, h3, h4, h5, h6, h7⟩
theorem FnR.up {P : Program} {w : World} {K : PySem.W.Frag} {mg : Str → Option Value} {base : Heap} {CX : CXT} {j k : Nat} {f : Addr} {sp : Sp} (F : FnR P w K mg base CX j f sp) (h : j ≤ k) : FnR P w K mg base CX k f sp := fun A outer s H us vs Q E hr => F A outer s H us vs Q E (hr.mono h)
/-- among few -/
theorem mem_cs {l : List Nat} {i : Nat} (h : l.contains i = true) : i ∈ l := List.contains_iff_mem.mp h
def fMeth (c m o : Str) : Fc := fun K => (He.Fa.meth c m).ok K && decide (He.ma K (He.ga K c) m = He.ma K (He.ga K o) m)
theorem fMeth_ok {K : PySem.W.Frag} {c m o : Str} (h : fMeth c m o K = true) : Meth K (He.ga K c) m (He.ma K (He.ga K o) m) := by
  obtain ⟨h1, h2⟩ := He.ba h
  rw [← of_decide_eq_true h2]
  exact He.meth_ok h1
def fMk (c o : Str) : Fc := fun K => (He.Fa.mkr c).ok K && decide (He.ma K (He.ga K c) "__init__" = He.ma K (He.ga K o) "__init__")
theorem fMk_ok {K : PySem.W.Frag} {c o : Str} (h : fMk c o K = true) : Mk K (He.ga K c) (He.ma K (He.ga K o) "__init__") := by
  obtain ⟨h1, h2⟩ := He.ba h
  rw [← of_decide_eq_true h2]
  exact He.mkr_ok h1
theorem fXf_ok {K : PySem.W.Frag} {c f : Str} (h : fXf c f K = true) : L2.XfC K (He.ga K c) ∧ PySem.W.findIn K (.ref (He.ga K c)) f = some none := by
  obtain ⟨h1, h2⟩ := He.ba h
  exact ⟨L2.xfB_ok h1, of_decide_eq_true h2⟩
theorem fNe_ok {K : PySem.W.Frag} {c : Str} (h : fNe c K = true) : PySem.W.findIn K (.ref (He.ga K c)) "__ne__" = some (some (.builtin "object.__ne__")) ∧ PySem.W.mroIn K (He.ga K c) (.type "object") = some true := by
  obtain ⟨h1, h2⟩ := He.ba h
  exact ⟨of_decide_eq_true h1, of_decide_eq_true h2⟩
/-- the i-th default of the def at p is () -/
def fTup0 (p : Str × Option Str) (i : Nat) : Fc := fun K => match K.lookup (He.dflAt p i K) with
  | some ⟨.type t, _, .seq its _, _⟩ => decide (t = "tuple") && its.isEmpty
  | _ => false
theorem fTup0_ok {K : PySem.W.Frag} {P : Program} {w : World} {pn : List (Addr × Obj)} {p : Str × Option Str} {i : Nat} (h : fTup0 p i K = true) (B : Addr → Prop) (H : Hp) : Rel ⟨K, P, w, pn⟩ B H (.tup []) (.ref (He.dflAt p i K)) := by
  unfold fTup0 at h
  split at h
  · rename_i t dd its n sl e
    obtain ⟨h1, h2⟩ := He.ba h
    have e2 : its = #[] := Array.isEmpty_iff.mp h2
    subst e2
    exact ⟨_, [], rfl, .inr ⟨_, #[], n, e, by rw [of_decide_eq_true h1], rfl, Nat.zero_le _, .nil⟩, trivial⟩
  · cases h
end DL

set_option Elab.async false
set_option linter.all false
set_option maxRecDepth 100000
set_option maxHeartbeats 4000000
/-! from a law's mirror to what the head asks of the law's def -/
namespace DL
open PySem PySem.Spec L2
/-- nothing leaves the law's def -/
theorem fnOk_quiet {P : Program} {w : World} {K : PySem.W.Frag} {mg : Str → Option Value} {base : Heap} {k : Nat} {f : Addr} {fd : FuncData} {ps : List Str} {sp : Sp} (F : FnOk P w K mg base (L2.CX P w) k f fd ps sp) :
    FnOk P w K mg base L2.CX0 k f fd ps (fun vs H Q _ => sp vs H Q fun _ _ _ => False) :=
  ⟨fun vs H Q E h => F.len _ _ _ _ h, fun A outer s H args us vs Q E hr he hb hv hs => codeAny_mono (F.run A outer s H args us vs Q (fun _ _ _ => False) hr he hb hv hs) fun r s' h => match r, h with
    | .ok (.ret u), h => h
    | .error e, h => by
      obtain ⟨_, _, _, _, _, _, _, _, _, _, _, _, z⟩ := h
      exact z⟩
theorem scr_sp {n : Nat} {m : List D → Rs} (hm : ∀ ns : List Int, ns.length ≤ n → ∃ io, m [.scr ns] = .ok (.bl true) io) {K : PySem.W.Frag} {P : Program} {w : World} {H : Hp} {a : Addr} {ns : List Int} (hl : ns.length ≤ n) (hS : SqL K H a (ns.map V.int)) :
    SpD ⟨K, P, w, []⟩ 1 none false m [.ref a] H (fun v _ => v = .bl true) fun _ _ _ => False := by
  refine ⟨fun _ => False, fun _ => False, [.scr ns], rfl, rfl, fun a z => (z.elim id id).elim, fun i d v e1 e2 => ?_, fun _ a z => z, (fun i z => by cases z), ?_⟩
  · cases i with
    | zero =>
      cases e1
      cases e2
      refine ⟨fun _ => ⟨a, rfl, ?_⟩, (fun z => by cases z)⟩
      rcases hS with h | h
      · exact .inl ⟨h, fun z => z.elim id id⟩
      · exact .inr h
    | succ i => cases e1
  · obtain ⟨io, e⟩ := hm ns hl
    rw [e]
    intro W' H' v _ _ z
    exact z
end DL

set_option Elab.async false
set_option linter.all false
set_option maxRecDepth 100000
set_option maxHeartbeats 4000000
/-! l.remove(x); our own lists handed to a def that only reads them, its answer a plain value -/
namespace DL
open PySem PySem.Spec L2 PyProof.Rows
def rRemD (K : PySem.W.Frag) : V → List V → Hp → VK → Prop := fun x xs H Q => ∃ (a : Addr) (y : V) (d : PyData) (vs : List V) (ds : List PyData) (j : Nat), x = .ref a ∧ xs = [y] ∧ H a = some (.lst vs) ∧ DpAll K H vs ds ∧ Dp K H y d ∧ SeqAt.shaped (.list ds) = true ∧ SeqAt.shaped d = true ∧ SeqAt.dataPlace ds d = some j ∧ Q .non (upd H a (.lst (vs.eraseIdx j)))
theorem mt_removeD {X : Cx} (hu : X.A.units + 65 < cLine) : MtM X "list.remove" (rRemD X.K) := by
  intro pins s σ H x xs v us Q I rx rxs h
  obtain ⟨a, y, d, vs, ds, j, rfl, rfl, hH, hl, hy, sl, sd, hp, q⟩ := h
  cases rx
  obtain ⟨u, rfl, ru⟩ := rxs.one
  obtain ⟨z, its, n, r, hl2, e⟩ := I.lstM hH
  obtain ⟨bs, r1⟩ := Dp.reads I d y u hy ru
  obtain ⟨as, h4⟩ := Dp.readsAll I ds vs its hl r
  refine SeqAt.remove_list_data (vs := its.toArray) ⟨_, e, rfl, n, rfl⟩ h4 r1 (PyData.plainAll_of_canLay0 _ (SeqAt.canLay_of_shaped sl)) (PyData.plain_of_canLay0 _ (SeqAt.canLay_of_shaped sd)) (room_in_shaped sd hu) hp (by rw [List.size_toArray]; omega) ?_
  refine ⟨.non, _, I.lset (its' := its.eraseIdx j) hH e ?_ (r.eraseIdx j) ?_, rfl, q⟩
  · show its.toArray.eraseIdxIfInBounds j = (its.eraseIdx j).toArray
    rw [List.eraseIdxIfInBounds_toArray]
  · rw [List.length_eraseIdx]
    split <;> omega
def mRemove (l ds : List D) : Option (D × List D) := match ds with
  | [d] => if (okF 12 d && l.all (okF 12)) = true then (l.findIdx? fun z => eqF 12 z d).map fun j => (.non, l.eraseIdx j) else none
  | _ => none
theorem find_eqv {d : D} {p : PyData} (hd : okF 12 d = true) (hp : toP d = some p) : ∀ {ds : List D} {ps : List PyData}, ds.all (okF 12) = true → toPL ds = some ps → (ds.findIdx? fun z => eqF 12 z d) = ps.findIdx? fun z => PyData.eqv z p
  | [], ps, _, e => by
    have e' := Option.some.inj e
    subst e'
    rfl
  | z :: ds, ps, h, e => by
    obtain ⟨q, qs, e1, e2, rfl⟩ := toPL_cons e
    obtain ⟨h1, h2⟩ := Bool.and_eq_true_iff.mp h
    rw [List.findIdx?_cons, List.findIdx?_cons, find_eqv hd hp h2 e2, eqF_eqv 12 z d q p h1 hd e1 hp]
theorem RelL.eraseIdx {T : Tx} {B : Addr → Prop} {H : Hp} : ∀ {ds : List D} {vs : List V} (j : Nat), RelL T B H ds vs → RelL T B H (ds.eraseIdx j) (vs.eraseIdx j)
  | [], [], _, _ => by simp only [List.eraseIdx_nil]; trivial
  | [], _ :: _, _, h => h.elim
  | _ :: _, [], _, h => h.elim
  | _ :: _, _ :: _, 0, h => h.2
  | d :: ds, v :: vs, j + 1, h => ⟨h.1, RelL.eraseIdx j h.2⟩
section
variable {X : Cx} {Wx : WX} {ms : Ms} {pos cpos apos : Pos} {x : Str} {e : Expr} {fe : M D}
theorem mo_remove : MethOk X (rRemD X.K) mRemove := by
  intro B H a xs vs l ds l' d Q h1 h2 h3 h4 q
  match ds, h4 with
  | [d1], h4 =>
    obtain ⟨v, rfl, rv⟩ := relL1 h3
    have h5 : (if (okF 12 d1 && l.all (okF 12)) = true then (l.findIdx? fun z => eqF 12 z d1).map fun j => (D.non, l.eraseIdx j) else none) = some (d, l') := h4
    have e1 : (okF 12 d1 && l.all (okF 12)) = true := by
      by_cases e : (okF 12 d1 && l.all (okF 12)) = true
      · exact e
      · rw [if_neg e] at h5
        cases h5
    rw [if_pos e1] at h5
    obtain ⟨c1, c2⟩ := Bool.and_eq_true_iff.mp e1
    obtain ⟨j, f1, f2⟩ := Option.map_eq_some_iff.mp h5
    cases f2
    obtain ⟨p, a1, a2⟩ := okF_shaped (by decide) c1
    obtain ⟨p2, b1, b2⟩ := okF_shaped (n := 13) (d := .lst l) (by decide) c2
    obtain ⟨ps, b3, rfl⟩ := Option.map_eq_some_iff.mp (show (toPL l).map .list = some p2 from b1)
    exact ⟨a, v, p, xs, ps, j, rfl, rfl, h1, rel_dpL l b3 h2, rel_dp d1 a1 rv, b2, a2, by rw [← f1, find_eqv c1 a1 c2 b3]; rfl, q _ .non rfl (h2.eraseIdx j)⟩
theorem de_remove (hu : X.A.units + 65 < cLine) (i : Nat) (ha : DE X Wx ms e fe) (hm : ms.contains i = true := by rfl) (hN : X.N[i]? = some x := by rfl) (hv : Vis X.env.scope x := by first | exact Or.inl rfl | exact Or.inr (Or.inl rfl) | exact Or.inr (Or.inr rfl))
    (hd : (x == ("__debug__" : Str)) = false := by decide) (hcd : (x == ("__classdict__" : Str)) = false := by decide)
    (hs1 : starEach [e] X.env = (false, eval e X.env) :: starEach [] X.env := by rfl)
    (hbase : attributeBase (.Name x pos) "remove" X.env (eval (.Name x pos) X.env) = eval (.Name x pos) X.env := by rfl)
    (hfew : ((backTo cpos (starEach [e] X.env)).all (fun x => !x.1) && (backToKw cpos (keywordEach [] X.env)).all (fun x => x.1.isSome)
      && decide ([e].length + ([] : List Keyword).length + (if ([] : List Keyword).isEmpty then 0 else 1) < 30)) = true := by rfl)
    (hline : (apos.endLine == cpos.line) = true := by rfl) (hplain : (backTo cpos (starEach [] X.env)).any (·.1) = false := by rfl) :
    DE X Wx ms (.Call (.Attribute (.Name x pos) "remove" apos) [e] [] cpos) (vMeth i mRemove (aCons fe aNil)) := fun B W env σ H Q o h =>
  PE.tm (pe_bm PySem.F.plainAttrs_list PySem.F.slot_list_remove PySem.F.type_list_remove (mt_removeD hu) (pe_var hN hv hd hcd) pa_tm hbase hfew hline hs1 hplain) (tm_meth (o := e) mo_remove o hm (da_cons ha da_nil hs1) h)
end

/-! ### arguments that are only read: all our own lists are lent -/
abbrev Ld (W : Addr → Prop) (H : Hp) : Addr → Prop := fun a => W a ∧ ∃ vs, H a = some (.lst vs)
abbrev LB (B : Br) (W : Addr → Prop) (H : Hp) : Addr → Prop := fun a => Bar B W a ∧ ¬ Ld W H a
theorem Rel.lent {T : Tx} {B : Br} {W : Addr → Prop} {H : Hp} {d : D} {v : V} (r : Rel T (Bar B W) H d v) : Rel T (LB B W H) H d v := Rel.anti (fun _ z => z.1) r
def rkL0 (T : Tx) : Rk T (List D) (List V) := ⟨fun _ _ _ B W H ds vs => RelL T (LB B W H) H ds vs, fun _ h => h⟩
def DA0 (X : Cx) (Wx : WX) (ms : Ms) (es : List Expr) (f : M (List D)) : Prop := ∀ B W env σ H Q, Ok (tx X) ms B W env σ H → Po (tx X) Wx ms B W σ H (rkL0 (tx X)) (f env) Q → tmA X es σ H Q
/-- our own list, as it stands behind the other arguments -/
def aOwn (j : Nat) (fs : M (List D)) : M (List D) := fun env => match env[j]? with
  | some (some (.lst _)) => (fs env).bind fun ds env1 => match env1[j]? with
    | some (some (.lst l)) => .ok (.lst l :: ds) env1
    | _ => .stuck
  | _ => .stuck
mutual
/-- no list, no object in it -/
def flatD : D → Bool
  | .non => true
  | .bl _ => true
  | .int _ => true
  | .str _ => true
  | .tup l => flatL l
  | _ => false
def flatL : List D → Bool
  | [] => true
  | d :: ds => flatD d && flatL ds
end
mutual
theorem flat_rel {T : Tx} {B B' : Addr → Prop} {H : Hp} (hB : ∀ a, B' a → B a ∨ ∃ vs, H a = some (.lst vs)) : ∀ (d : D) {v : V}, flatD d = true → Rel T B H d v → Rel T B' H d v
  | .non, _, _, r => r
  | .bl _, _, _, r => r
  | .int _, _, _, r => r
  | .str _, _, _, r => r
  | .tup l, _, h, r => by
    obtain ⟨a, vs, e1, e2, e3⟩ := r
    refine ⟨a, vs, e1, ?_, flat_relL hB l h e3⟩
    rcases e2 with ⟨e2, n⟩ | e2
    · refine .inl ⟨e2, fun z => ?_⟩
      rcases hB a z with z | ⟨us, z⟩
      · exact n z
      · rw [e2] at z
        cases z
    · exact .inr e2
  | .lst _, _, h, _ => by cases h
  | .obj _ _ _, _, h, _ => by cases h
  | .set _, _, h, _ => by cases h
  | .cls _, _, h, _ => by cases h
  | .scr _, _, h, _ => by cases h
  | .xc _ _ _, _, h, _ => by cases h
theorem flat_relL {T : Tx} {B B' : Addr → Prop} {H : Hp} (hB : ∀ a, B' a → B a ∨ ∃ vs, H a = some (.lst vs)) : ∀ (ds : List D) {vs : List V}, flatL ds = true → RelL T B H ds vs → RelL T B' H ds vs
  | [], [], _, _ => trivial
  | [], _ :: _, _, r => r.elim
  | _ :: _, [], _, r => r.elim
  | d :: ds, _ :: _, h, r => ⟨flat_rel hB d (Bool.and_eq_true_iff.mp h).1 r.1, flat_relL hB ds (Bool.and_eq_true_iff.mp h).2 r.2⟩
end
section
variable {X : Cx} {Wx : WX} {ms : Ms} {e : Expr} {es : List Expr} {fe : M D} {fs : M (List D)} {pos : Pos} {x y : Str} {p p' : Pos}
theorem da0_nil : DA0 X Wx ms [] aNil := fun B W env σ H Q o h => PA.tm pa_nil (h.done (v := []) o trivial)
theorem da0_cons (ha : DE X Wx ms e fe) (hr : DA0 X Wx ms es fs) (hs : starEach (e :: es) X.env = (false, eval e X.env) :: starEach es X.env := by rfl) : DA0 X Wx ms (e :: es) (aCons fe fs) := fun B W env σ H Q o h =>
  PA.tm (pa_cons pe_tm pa_tm hs) (ha _ _ _ _ _ _ o (h.cont (k1 := rkD (tx X)) fun d env1 W1 H1 x n1 o1 r1 h1 => hr _ _ _ _ _ _ o1 (h1.cont (k1 := rkL0 (tx X)) fun ds env2 W2 H2 xs n2 o2 r2 h2 => h2.done (v := x :: xs) o2 ⟨(Rel.ext n2.ext d r1).lent, r2⟩)))
theorem da0_own (j : Nat) (hr : DA0 X Wx ms es fs) (hj : ms.contains j = true := by rfl) (hN : X.N[j]? = some y := by rfl) (hv : Vis X.env.scope y := by first | exact Or.inl rfl | exact Or.inr (Or.inl rfl) | exact Or.inr (Or.inr rfl))
    (hdy : (y == ("__debug__" : Str)) = false := by decide) (hcd : (y == ("__classdict__" : Str)) = false := by decide)
    (hs : starEach (.Name y p' :: es) X.env = (false, eval (.Name y p') X.env) :: starEach es X.env := by rfl) : DA0 X Wx ms (.Name y p' :: es) (aOwn j fs) := by
  intro B W env σ H Q o h
  unfold aOwn at h
  cases q : env[j]? with
  | none =>
    rw [q] at h
    exact h.elim
  | some z =>
    cases z with
    | none =>
      rw [q] at h
      exact h.elim
    | some d0 =>
      rw [q] at h
      cases d0 with
      | lst l0 =>
        obtain ⟨a, vs0, e1, e2, e3, e4⟩ := o.cell hj q
        refine PA.tm (pa_cons (pe_var hN hv hdy hcd) pa_tm hs) ⟨_, e1, hr _ _ _ _ _ _ o (Po.cont (k1 := rkL0 (tx X)) h fun ds env1 W1 H1 vs n1 o1 r1 h1 => ?_)⟩
        cases q1 : env1[j]? with
        | none =>
          rw [q1] at h1
          exact h1.elim
        | some z =>
          cases z with
          | none =>
            rw [q1] at h1
            exact h1.elim
          | some d1 =>
            rw [q1] at h1
            cases d1 with
            | lst l =>
              obtain ⟨b, xs, f1, f2, f3, f4⟩ := o1.cell hj q1
              have eb : b = a := by
                rw [e1] at f1
                have z := Option.some.inj (Option.some.inj f1)
                injection z with z
                exact z.symm
              subst eb
              exact Po.done (k := rkL0 (tx X)) h1 (v := .ref b :: vs) o1 ⟨⟨b, xs, rfl, f3, (fun z => z.2 ⟨f2, _, f3⟩), RelL.anti (fun _ z => z.1) f4⟩, r1⟩
            | _ => exact h1.elim
      | _ => exact h.elim
/-- what a call may answer that was lent our lists -/
def flatF (fr : Bool) (d : D) : Bool := match d with
  | .lst l => fr && flatL l
  | d => flatD d
def cCallRo (fr : Bool) (np : Nat) (m : List D → Rs) (fs : M (List D)) : M D := fun env => (fs env).bind fun ds env1 => if ds.length = np then (match m ds with
  | .ok d _ => if flatF fr d = true then .ok d env1 else .stuck
  | .err c ns es _ => if flatL es = true then .err c ns es env1 else .stuck
  | .stuck => .stuck) else .stuck
variable {m : List D → Rs} {np k : Nat} {f : Addr}
theorem sp_callRo {fr : Bool} {B : Br} {W : Addr → Prop} {env : En} {σ : L2.St} {H : Hp} {Q : VK} {ds : List D} {vs : List V} (o : Ok (tx X) ms B W env σ H) (r : RelL (tx X) (LB B W H) H ds vs) (hn : ds.length = np)
    (h : Po (tx X) Wx ms B W σ H (if fr = true then rkF (tx X) ms else rkD (tx X)) (match m ds with | .ok d _ => if flatF fr d = true then .ok d env else .stuck | .err c ns es _ => if flatL es = true then .err c ns es env else .stuck | .stuck => .stuck) Q) : SpD (tx X) np none fr m vs H Q (WE Wx σ) := by
  have an : ∀ a, LB B W H a ∨ False → LB B W H a := fun a z => z.elim id False.elim
  refine ⟨LB B W H, fun _ => False, ds, by rw [← r.length]; exact hn, hn, fun a z => o.wf a (an a z).1, fun i d v e1 e2 => ⟨fun _ => Rel.anti an (r.nth e1 e2), (fun z => by cases z)⟩, fun _ _ z => z, (fun i z => by cases z), ?_⟩
  have bk : ∀ {H' : Hp} {W' : Addr → Prop}, Same H H' → ∀ a, Bar B W a → (LB B W H a ∨ W' a) ∨ ∃ vs, H' a = some (.lst vs) := fun {H' W'} sm a z => by
    by_cases q : Ld W H a
    · obtain ⟨us, e⟩ := q.2
      exact .inr ⟨us, sm _ _ e⟩
    · exact .inl (.inl ⟨z, q⟩)
  cases q : m ds with
  | stuck => rw [q] at h; exact h
  | ok d iod =>
    rw [q] at h
    intro W' H' v n _ z
    have sm : Same H H' := fun a u e => n.keep a u e fun z => z
    have h' : Po (tx X) Wx ms B W σ H (if fr = true then rkF (tx X) ms else rkD (tx X)) (if flatF fr d = true then R.ok d env else .stuck) Q := h
    by_cases hs : flatF fr d = true
    · rw [if_pos hs] at h'
      cases fr with
      | false =>
        have hs' : flatD d = true := by
          cases d with
          | lst l => cases hs
          | _ => exact hs
        exact h' W H' v (Nxt.same sm) (o.same sm) (flat_rel (bk sm) d hs' z)
      | true =>
        obtain ⟨a, us, l, rfl, rfl, z1, z2, z3, z4⟩ := z
        have hs' : flatL l = true := hs
        have ha : H a = none := (n.new a z1).elim (fun z => z.elim) id
        have ex : Ext (Bar B W) H (Bar B fun c => W c ∨ c = a) H' := ⟨fun c u e _ => sm c u e, fun c z => by
          rcases z with z | z | z
          · exact .inl (.inl z)
          · exact .inl (.inr z)
          · exact .inr (by rw [z]; exact ha)⟩
        refine h' (fun c => W c ∨ c = a) H' _ ⟨fun c u e _ => sm c u e, fun c z => ?_, fun c u e => ⟨u, sm c u e⟩⟩ ⟨o.len, fun c z => ?_, fun i d hi e => ?_, fun i d hi e => ?_, o.dj, o.fx⟩
          ⟨a, us, l, rfl, rfl, .inr rfl, ha, z3, flat_relL (fun c b => ?_) l hs' z4, fun i e hi he hs => ?_⟩
        · rcases z with z | z
          · exact .inl z
          · exact .inr (by rw [z]; exact ha)
        · rcases z with z | z | z
          · obtain ⟨u, e⟩ := o.wf c (.inl z)
            exact ⟨u, sm c u e⟩
          · obtain ⟨u, e⟩ := o.wf c (.inr z)
            exact ⟨u, sm c u e⟩
          · exact ⟨_, by rw [z]; exact z3⟩
        · obtain ⟨v, e1, e2⟩ := o.sl i d hi e
          exact ⟨v, e1, Rel.ext ex d e2⟩
        · obtain ⟨v, e1, e2⟩ := o.mu i d hi e
          exact ⟨v, e1, e2.ext ex fun c u w e => ⟨.inl w, sm c u e⟩⟩
        · rcases b with b | b | b
          · exact bk sm c (.inl b)
          · exact bk sm c (.inr b)
          · exact .inl (.inr (by rw [b]; exact z1))
        · obtain ⟨_, u, hu⟩ := o.cellAt hi he hs
          rw [ha] at hu
          cases hu
    · rw [if_neg hs] at h'
      exact h'.elim
  | err c ns es iod =>
    rw [q] at h
    intro W' H' dx ws n _ z1 z2 z3 z4
    have sm : Same H H' := fun a u e => n.keep a u e fun z => z
    have h' : Po (tx X) Wx ms B W σ H (if fr = true then rkF (tx X) ms else rkD (tx X)) (if flatL es = true then R.err c ns es env else .stuck) Q := h
    by_cases hs : flatL es = true
    · rw [if_pos hs] at h'
      exact h' W H' dx ws (Nxt.same sm) (o.same sm) z1 z2 z3 (flat_relL (bk sm) es hs z4)
    · rw [if_neg hs] at h'
      exact h'.elim
theorem de_callRo (F : Fn X k f np none false m) (hr : Room k X.A) (hg : Gl X x) (hm : X.mg x = some (.ref f)) (hk : PySem.W.keepIn X.K (.ref f) = true) (tk : Takes X Wx) (ha : DA0 X Wx ms (e :: es) fs) (hdb : (x == ("__debug__" : Str)) = false := by decide)
    (he : starEach (e :: es) X.env = (false, eval e X.env) :: starEach es X.env := by rfl) (hpl : (backTo pos (starEach es X.env)).any (·.1) = false := by rfl) : DE X Wx ms (.Call (.Name x p) (e :: es) [] pos) (cCallRo false np m fs) := fun B W env σ H Q o h =>
  tm_call F hr hg hm hk (E := WE Wx) (passAt tk) (ha _ _ _ _ _ _ o (h.cont (k1 := rkL0 (tx X)) fun ds env1 W1 H1 vs n1 o1 r1 h1 => by
    by_cases hn : ds.length = np
    · rw [if_pos hn] at h1
      exact sp_callRo (fr := false) o1 r1 hn h1
    · rw [if_neg hn] at h1
      exact h1.elim)) hdb he hpl
theorem df_callRo (F : Fn X k f np none true m) (hr : Room k X.A) (hg : Gl X x) (hm : X.mg x = some (.ref f)) (hk : PySem.W.keepIn X.K (.ref f) = true) (tk : Takes X Wx) (ha : DA0 X Wx ms (e :: es) fs) (hdb : (x == ("__debug__" : Str)) = false := by decide)
    (he : starEach (e :: es) X.env = (false, eval e X.env) :: starEach es X.env := by rfl) (hpl : (backTo pos (starEach es X.env)).any (·.1) = false := by rfl) : DF X Wx ms (.Call (.Name x p) (e :: es) [] pos) (cCallRo true np m fs) := fun B W env σ H Q o h =>
  tm_call F hr hg hm hk (E := WE Wx) (passAt tk) (ha _ _ _ _ _ _ o (h.cont (k1 := rkL0 (tx X)) fun ds env1 W1 H1 vs n1 o1 r1 h1 => by
    by_cases hn : ds.length = np
    · rw [if_pos hn] at h1
      exact sp_callRo (fr := true) o1 r1 hn h1
    · rw [if_neg hn] at h1
      exact h1.elim)) hdb he hpl
end
end DL

set_option Elab.async false
set_option linter.all false
set_option maxRecDepth 100000
set_option maxHeartbeats 4000000
/-! displays of constants; the Hook by a quicker walk over what is reached -/
namespace DL
open PySem PySem.Spec PyProof.Rows L2
def aC (ds : List D) : M (List D) := fun env => .ok ds env
def cL (f : Expr → Option D) : List Expr → Option (List D)
  | [] => some []
  | e :: es => match f e with
    | some d => (cL f es).map fun ds => d :: ds
    | none => none
def cD : Nat → Expr → Option D
  | _, .Constant (.int i) _ _ => some (.int i)
  | _, .Constant (.bool b) _ _ => some (.bl b)
  | _, .Constant .none _ _ => some .non
  | n + 1, .Tuple es _ _ => (cL (cD n) es).bind fun ds => if small ds.length = true then some (.tup ds) else none
  | _, _ => none
section
variable {X : Cx} {Wx : WX} {ms : Ms}
abbrev Star (e : Expr) : Prop := ∀ es env, starEach (e :: es) env = (false, eval e env) :: starEach es env
theorem da_cL {f : Expr → Option D} (hf : ∀ e d, f e = some d → DE X Wx ms e (vC d) ∧ Star e) : ∀ (es : List Expr) (ds : List D), cL f es = some ds → DA X Wx ms es (aC ds)
  | [], ds, h => by
    cases h
    exact da_nil
  | e :: es, ds, h => by
    unfold cL at h
    cases q : f e with
    | none =>
      rw [q] at h
      cases h
    | some d =>
      rw [q] at h
      obtain ⟨r, h1, rfl⟩ := Option.map_eq_some_iff.mp (show (cL f es).map (fun ds => d :: ds) = some ds from h)
      obtain ⟨h2, h3⟩ := hf e d q
      exact da_cons h2 (da_cL hf es r h1) (h3 _ _)
theorem de_cD : ∀ (n : Nat) (e : Expr) (d : D), cD n e = some d → DE X Wx ms e (vC d) ∧ Star e := by
  intro n
  induction n with
  | zero =>
    intro e d h
    cases e with
    | Constant c j p =>
      cases c with
      | int i => cases h; exact ⟨de_int, fun _ _ => rfl⟩
      | bool b => cases h; exact ⟨de_bl, fun _ _ => rfl⟩
      | none => cases h; exact ⟨de_non, fun _ _ => rfl⟩
      | _ => cases h
    | _ => cases h
  | succ n ih =>
    intro e d h
    cases e with
    | Constant c j p =>
      cases c with
      | int i => cases h; exact ⟨de_int, fun _ _ => rfl⟩
      | bool b => cases h; exact ⟨de_bl, fun _ _ => rfl⟩
      | none => cases h; exact ⟨de_non, fun _ _ => rfl⟩
      | _ => cases h
    | Tuple es c p =>
      obtain ⟨ds, h1, h2⟩ := Option.bind_eq_some_iff.mp (show (cL (cD n) es).bind (fun ds => if small ds.length = true then some (D.tup ds) else none) = some d from h)
      obtain ⟨h3, rfl⟩ := ite_some h2
      have t := de_tup (x1 := c) (pos := p) (da_cL ih es ds h1)
      refine ⟨?_, fun _ _ => rfl⟩
      have e : opN mkT (aC ds) = vC (.tup ds) := by
        funext env
        show M.of (if small ds.length = true then some (D.tup ds) else none) env = _
        rw [if_pos h3]
        rfl
      rw [← e]
      exact t
    | _ => cases h
theorem da_const (n : Nat) {es : List Expr} {ds : List D} (h : cL (cD n) es = some ds := by rfl) : DA X Wx ms es (aC ds) := da_cL (de_cD n) es ds h
end
/-! ### the Hook -/
def refsOf (g : Addr → Option Obj) (a : Addr) : List Addr := match g a with
  | some o => He.refsD o
  | none => []
def addAll (k : Nat → List Addr → List Addr) : List Addr → Nat → List Addr → List Addr
  | [], m, nw => k m nw
  | a :: as, m, nw => match Nat.testBit m a with
    | true => addAll k as m nw
    | false => match Nat.lor m (Nat.shiftLeft 1 a) with
      | 0 => []
      | m' + 1 => addAll k as (m' + 1) (a :: nw)
def rounds (g : Addr → Option Obj) : Nat → Nat → List Addr → List Addr
  | 0, _, fr => fr
  | n + 1, m, fr => fr ++ addAll (fun m nw => rounds g n m nw) (fr.flatMap (refsOf g)) m []
def reachN (g : Addr → Option Obj) (n : Nat) : List Addr := addAll (fun m nw => rounds g n m nw) [mainGlobals, cStatics] 0 []
def lookM (n : Nat) (fx : List (PySem.W.Frag → Bool)) (fn : List Df) (g : Addr → Option Obj) : Lk := look fx fn (He.frG g (reachN g n))
def hookM (n : Nat) (fx : List (PySem.W.Frag → Bool)) (fn : List Df) : PySem.W.Hook where
  α := Lk
  obs := fun sh => lookM n fx fn sh.heap.get?
  val := fun _ => lookWant fn
  says := fun _ hp => ∃ K : PySem.W.Frag, K.In hp ∧ Told fx fn K
  of := fun _ _ z => ⟨_, He.frG_in, z⟩
  keeps := fun _ _ _ ⟨K, q, c⟩ kp => ⟨K, PySem.W.Frag.In.keeps q kp, c⟩
theorem lookM_eq {n : Nat} {fx : List (PySem.W.Frag → Bool)} {fn : List Df} {g : Addr → Option Obj} {sh : Shared} (h : ∀ a, g a = sh.heap.get? a) : lookM n fx fn g = (hookM n fx fn).obs sh := by
  rw [show g = sh.heap.get? from funext h]
  rfl
end DL

set_option Elab.async false
set_option linter.all false
set_option maxRecDepth 100000
set_option maxHeartbeats 4000000
namespace KX
open PySem PySem.Spec PyProof.Rows L2 DL
def ocs : List Nat := [62, 100]
def cc_WORD : List (Nat × D) := [(62, .str 86), (100, .str 117)]
def is_Marks : List (Nat × Bool) := [(62, true), (100, true)]
def is_Family : List (Nat × Bool) := [(62, false), (100, true)]
def b__law_draws : M Fl := sSeq (sSet 1 (opN mkL (aNil))) (sSeq (sSet 2 (vC (.int 911))) (sSeq (sFor 3 (iRng rng1 (aCons (opN min2D (aCons (op1 lenD (vVar 0)) (aCons (vC (.int 63)) (aNil)))) (aNil))) (sSeq (sSet 4 (op1 intD (op2 ixD (vVar 0) (vVar 3)))) (sSeq (sIf (tB1 (op2 ltD (vVar 4) (vC (.int 0)))) (sSet 4 (op2 subD (vC (.int 3)) (op2 mulI (vC (.int 2)) (vVar 4)))) (sNx)) (sIf (tB1 (op2 geI (vVar 4) (op2 powD (vC (.int 10)) (vC (.int 18))))) (sFor 5 (iRng rng1 (aCons (vC (.int 44)) (aNil))) (sIf (tB1 (op2 gtI (vVar 4) (vC (.int 0)))) (sSeq (sExpr (vMeth 1 mAppend (aCons (op2 modD (op1 intD (vVar 4)) (vC (.int 30))) aNil))) (sSet 4 (op2 fdivD (vVar 4) (vC (.int 30))))) (sNx))) (sSeq (sSet 2 (op2 modD (op1 intD (op2 addD (op2 addD (op2 mulI (vVar 2) (vC (.int 31))) (op2 mulI (vVar 4) (vC (.int 7919)))) (vVar 3))) (vC (.int 2147483629)))) (sFor 5 (iRng rng1 (aCons (vC (.int 5)) (aNil))) (sSeq (sSet 2 (op2 modD (op1 intD (op2 addD (op2 addD (op2 addD (op2 mulI (vVar 2) (vVar 2)) (op2 mulI (vC (.int 5)) (vVar 5))) (vVar 3)) (vC (.int 1)))) (vC (.int 2147483587)))) (sExpr (vMeth 1 mAppend (aCons (op2 modD (op1 intD (op2 fdivD (vVar 2) (vC (.int 11)))) (vC (.int 27720))) aNil)))))))))) (sSeq (sExpr (vMeth 1 mReverse aNil)) (sRet (vVarL 1)))))
def m__law_draws : List D → Rs := runF 6 none true b__law_draws
def b__law_lots : M Fl := sSeq (sSet 2 (opN mkL (aCons (opN mkL (aNil)) (aNil)))) (sSeq (sFor 3 (iRng rng1 (aCons (vVar 1) (aNil))) (sSeq (sSet 4 (opN mkL (aNil))) (sSeq (sFor 5 (iSeq (vVar 2)) (sSeq (sSet 6 (vC (.int 0))) (sSeq (sIf (tB1 (op2 gtI (op1 lenD (vVar 5)) (vC (.int 0)))) (sSet 6 (op2 addD (op2 ixD (vVar 5) (op2 subD (op1 lenD (vVar 5)) (vC (.int 1)))) (vC (.int 1)))) (sNx)) (sFor 7 (iRng rng2 (aCons (vVar 6) (aCons (vVar 0) (aNil)))) (sExpr (vMeth 4 mAppend (aCons (op2 catD (vVar 5) (opN mkL (aCons (vVar 7) (aNil)))) aNil))))))) (sSet 2 (op1 listD (vVar 4)))))) (sRet (lcM 5 (iSeq (vVar 2)) (bTrue) (op1 tupleD (vVar 5)))))
def m__law_lots : List D → Rs := runF 8 none false b__law_lots
def b__law_take : M Fl := sSeq (sIf (bOr (tB1 (op2 ltD (vVar 1) (vC (.int 2)))) (tB1 (op2 eqD (op1 lenD (vVar 0)) (vC (.int 0))))) (sRet (vC (.int 0))) (sNx)) (sRet (op2 modD (op1 intD (vMeth 0 mPop aNil)) (vVar 1)))
def m__law_take : List D → Rs := runF 2 (some 0) false b__law_take
def b_is_int : M Fl := sRet (vAnd (op1 (isa1 .int) (vVar 0)) (op1 notD (op1 (isa1 .bool) (vVar 0))))
def m_is_int : List D → Rs := runF 1 none false b_is_int
def b_check_number : M Fl := sSeq (sIf (bNot (tB1 (cCall 1 m_is_int (aCons (vVar 1) (aNil))))) (sRaise 176 [50] (aCons (vVar 0) (aNil))) (sNx)) (sSeq (sIf (bAnd (tB1 (op2 notNone (vVar 2) (vC .non))) (tB1 (op2 ltD (vVar 1) (vVar 2)))) (sRaise 176 [50] (aCons (vVar 0) (aNil))) (sNx)) (sSeq (sIf (bAnd (tB1 (op2 notNone (vVar 3) (vC .non))) (tB1 (op2 gtI (vVar 1) (vVar 3)))) (sRaise 176 [50] (aCons (vVar 0) (aNil))) (sNx)) (sRet (vVar 1))))
def m_check_number : List D → Rs := runF 4 none false b_check_number
def b__check_shape : M Fl := sSeq (sExpr (cCall 4 m_check_number (aCons (vC (.str 53)) (aCons (vVar 0) (aCons (vC (.int 0)) (aCons (vC (.int 8)) (aNil))))))) (sExpr (cCall 4 m_check_number (aCons (vC (.str 83)) (aCons (vVar 1) (aCons (vC (.int 0)) (aCons (op2 addD (vVar 0) (vC (.int 1))) (aNil)))))))
def m__check_shape : List D → Rs := runF 2 none false b__check_shape
def b__first_wrong : M Fl := sSeq (sIf (bNot (tB1 (op1 (isa2 .list .tuple) (vVar 1)))) (sRet (op1 negD (vC (.int 1)))) (sNx)) (sSeq (sFor 2 (iRng rng1 (aCons (op1 lenD (vVar 1)) (aNil))) (sSeq (sSet 3 (op2 ixD (vVar 1) (vVar 2))) (sSeq (sIf (bOr (bNot (tB1 (cCall 1 m_is_int (aCons (vVar 3) (aNil))))) (bOr (tB1 (op2 ltD (vVar 3) (vC (.int 0)))) (tB1 (op2 geI (vVar 3) (vVar 0))))) (sRet (vVar 2)) (sNx)) (sIf (tB1 (op2 inD (vVar 3) (vSl slD (vVar 1) (vPart none) (vPart (some (vVar 2)))))) (sRet (vVar 2)) (sNx))))) (sRet (vC .non)))
def m__first_wrong : List D → Rs := runF 4 none false b__first_wrong
def b__check_things : M Fl := sSeq (sSet 3 (cCall 2 m__first_wrong (aCons (vVar 0) (aCons (vVar 2) (aNil))))) (sSeq (sIf (tB1 (op2 notNone (vVar 3) (vC .non))) (sRaise 96 [88] (aCons (vVar 3) (aNil))) (sNx)) (sSeq (sIf (tB1 (op2 neD (op1 lenD (vVar 2)) (vVar 1))) (sRaise 96 [88] (aCons (op1 negD (vC (.int 2))) (aNil))) (sNx)) (sRet (op1 tupleD (op1 sortD (vVar 2))))))
def m__check_things : List D → Rs := runF 4 none false b__check_things
def b_check_lots : M Fl := sSeq (sExpr (cCall 2 m__check_shape (aCons (vVar 0) (aCons (vVar 1) (aNil))))) (sSeq (sIf (bNot (tB1 (op1 (isa2 .list .tuple) (vVar 2)))) (sRaise 132 [88] (aCons (op1 negD (vC (.int 1))) (aNil))) (sNx)) (sSeq (sSet 3 (opN mkL (aNil))) (sSeq (sFor 4 (iRng rng1 (aCons (op1 lenD (vVar 2)) (aNil))) (sSeq (sTry (sSet 5 (cCall 3 m__check_things (aCons (vVar 0) (aCons (vVar 1) (aCons (op2 ixD (vVar 2) (vVar 4)) (aNil)))))) [⟨96, [96], [176, 132, 99, 136, 97], some 6, (fun _ => .stuck)⟩]) (sSeq (sIf (tB1 (op2 inD (vVar 5) (vVar 3))) (sRaise 132 [88] (aCons (vVar 4) (aNil))) (sNx)) (sExpr (vMeth 3 mAppend (aCons (vVar 5) aNil)))))) (sRet (op1 tupleD (op1 sortD (vVar 3)))))))
def m_check_lots : List D → Rs := runF 7 none false b_check_lots
def b_Marks___init__ : M Fl := sSeq (sSet 4 (cCall 3 m_check_lots (aCons (vVar 1) (aCons (vVar 2) (aCons (vVar 3) (aNil)))))) (sSeq (sFld1 0 ocs 53 (vVar 1)) (sSeq (sFld1 0 ocs 83 (vVar 2)) (sFld1 0 ocs 122 (vVar 4))))
def m_Marks___init__ : List D → Rs := runF 5 (some 0) false b_Marks___init__
def m_Marks___init___3 : List D → Rs := fun l => m_Marks___init__ (l ++ [.tup []])
def b__lots : M Fl := sSeq (sSet 2 (opN mkL (aCons (opN mkT (aNil)) (aNil)))) (sSeq (sFor 3 (iRng rng1 (aCons (vVar 1) (aNil))) (sSet 2 (lc2M 4 5 (iSeq (vVar 2)) (bTrue) (iRng rng2 (aCons (iff_ (tTru (vVar 4)) (op2 addD (op2 ixD (vVar 4) (op1 negD (vC (.int 1)))) (vC (.int 1))) (vC (.int 0))) (aCons (vVar 0) (aNil)))) (bTrue) (op2 addD (vVar 4) (opN mkT (aCons (vVar 5) (aNil))))))) (sRet (op1 tupleD (vVar 2))))
def m__lots : List D → Rs := runF 6 none false b__lots
def b__packet : M Fl := sSeq (sSet 1 (op1 lenD (vVar 0))) (sRet (op1 tupleD (lcM 2 (iRng rng3 (aCons (op2 subD (vVar 1) (vC (.int 1))) (aCons (op1 negD (vC (.int 1))) (aCons (op1 negD (vC (.int 1))) (aNil))))) (bTrue) (op2 addD (vSl slD (vVar 0) (vPart none) (vPart (some (vVar 2)))) (vSl slD (vVar 0) (vPart (some (op2 addD (vVar 2) (vC (.int 1))))) (vPart none))))))
def m__packet : List D → Rs := runF 3 none false b__packet
def b__row_break : M Fl := sSeq (sSet 2 (op2 ixD (vVar 1) (vC (.int 0)))) (sSeq (sFor 3 (iRng rng2 (aCons (vC (.int 1)) (aCons (op1 lenD (vVar 0)) (aNil)))) (sIf (tB1 (op2 neD (op2 ixD (vVar 1) (vVar 3)) (vVar 2))) (sSeq (sFor 4 (iRng rng2 (aCons (op2 addD (vVar 3) (vC (.int 1))) (aCons (op1 lenD (vVar 0)) (aNil)))) (sIf (tB1 (op2 eqD (op2 ixD (vVar 1) (vVar 4)) (vVar 2))) (sRet (opN mkT (aCons (op2 ixD (vVar 0) (vC (.int 0))) (aCons (op2 ixD (vVar 0) (vVar 3)) (aCons (op2 ixD (vVar 0) (vVar 4)) (aNil)))))) (sNx))) (sRet (vC .non))) (sNx))) (sRet (vC .non)))
def m__row_break : List D → Rs := runF 5 none false b__row_break
def b__least_break : M Fl := sSeq (sSet 3 (op1 setD (vVar 2))) (sSeq (sSet 4 (vC .non)) (sSeq (sFor 5 (iSeq (cCall 2 m__lots (aCons (vVar 0) (aCons (op2 addD (vVar 1) (vC (.int 1))) (aNil))))) (sSeq (sSet 6 (cCall 1 m__packet (aCons (vVar 5) (aNil)))) (sSeq (sSet 8 (cCall 2 m__row_break (aCons (vVar 6) (aCons (lcM 7 (iSeq (vVar 6)) (bTrue) (op2 inD (vVar 7) (vVar 3))) (aNil))))) (sIf (bAnd (tB1 (op2 notNone (vVar 8) (vC .non))) (bOr (tB1 (op2 isNone (vVar 4) (vC .non))) (tB1 (op2 ltD (vVar 8) (vVar 4))))) (sSet 4 (vVar 8)) (sNx))))) (sRet (vVar 4))))
def m__least_break : List D → Rs := runF 9 none false b__least_break
def g_Family___init__ : M Fl := sSeq (sSet 5 (cCall 3 m__least_break (aCons (op1 (fldD ocs 53) (vVar 0)) (aCons (op1 (fldD ocs 83) (vVar 0)) (aCons (op1 (fldD ocs 122) (vVar 0)) (aNil)))))) (sIf (tB1 (op2 notNone (vVar 5) (vC .non))) (sRaise 99 [47] (aCons (vVar 5) (aNil))) (sNx))
def a_Family___init__ : M (List D) := aCons (vVar 1) (aCons (vVar 2) (aCons (vVar 3) (aNil)))
def b_Family___init__ : M Fl := sSeq (sExpr (vSup 100 4 m_Marks___init__ a_Family___init__)) g_Family___init__
def m_Family___init__ : List D → Rs := runF 6 (some 0) false b_Family___init__
def mkt4 : List (Nat × (List D → Rs)) := [(62, m_Marks___init__), (100, m_Family___init__)]
def b__lots_by_row : M Fl := sSeq (sExpr (cCall 4 m_check_number (aCons (vC (.str 53)) (aCons (vVar 0) (aCons (vC (.int 0)) (aCons (vC (.int 8)) (aNil))))))) (sSeq (sExpr (cCall 4 m_check_number (aCons (vC (.str 83)) (aCons (vVar 1) (aCons (vC (.int 0)) (aCons (op2 addD (vVar 0) (vC (.int 1))) (aNil))))))) (sSeq (sSet 3 (cCall 2 m__lots (aCons (vVar 0) (aCons (vVar 1) (aNil))))) (sSeq (sIf (bOr (bNot (tB1 (op1 (isa2 .list .tuple) (vVar 2)))) (tB1 (op2 neD (op1 lenD (vVar 2)) (op1 lenD (vVar 3))))) (sRaise 97 [88] (aCons (op1 negD (vC (.int 1))) (aNil))) (sNx)) (sSeq (sSet 4 (opN mkL (aNil))) (sSeq (sFor 5 (iRng rng1 (aCons (op1 lenD (vVar 2)) (aNil))) (sSeq (sIf (bOr (bNot (tB1 (cCall 1 m_is_int (aCons (op2 ixD (vVar 2) (vVar 5)) (aNil))))) (bOr (tB1 (op2 ltD (op2 ixD (vVar 2) (vVar 5)) (vC (.int 0)))) (tB1 (op2 gtI (op2 ixD (vVar 2) (vVar 5)) (vC (.int 1)))))) (sRaise 97 [88] (aCons (vVar 5) (aNil))) (sNx)) (sIf (tB1 (op2 eqD (op2 ixD (vVar 2) (vVar 5)) (vC (.int 1)))) (sExpr (vMeth 4 mAppend (aCons (op2 ixD (vVar 3) (vVar 5)) aNil))) (sNx)))) (sRet (op1 tupleD (vVar 4))))))))
def m__lots_by_row : List D → Rs := runF 6 none false b__lots_by_row
def b_Marks_of_row : M Fl := sRet (cMakeL 0 4 mkt4 (aCons (vVar 1) (aCons (vVar 2) (aCons (cCall 3 m__lots_by_row (aCons (vVar 1) (aCons (vVar 2) (aCons (vVar 3) (aNil))))) (aNil)))))
def m_Marks_of_row : List D → Rs := runF 4 none false b_Marks_of_row
def b_Family_of_row : M Fl := sRet (cMakeL 0 4 mkt4 (aCons (vVar 1) (aCons (vVar 2) (aCons (cCall 3 m__lots_by_row (aCons (vVar 1) (aCons (vVar 2) (aCons (vVar 3) (aNil))))) (aNil)))))
def m_Family_of_row : List D → Rs := runF 4 none false b_Family_of_row
def b_Family_none : M Fl := sRet (cMakeL 0 4 mkt4 (aCons (vVar 1) (aCons (vVar 2) (aCons (opN mkT (aNil)) (aNil)))))
def m_Family_none : List D → Rs := runF 3 none false b_Family_none
def b_Family_full : M Fl := sSeq (sExpr (cCall 3 m_check_lots (aCons (vVar 1) (aCons (vVar 2) (aCons (opN mkT (aNil)) (aNil)))))) (sRet (cMakeL 0 4 mkt4 (aCons (vVar 1) (aCons (vVar 2) (aCons (cCall 2 m__lots (aCons (vVar 1) (aCons (vVar 2) (aNil)))) (aNil))))))
def m_Family_full : List D → Rs := runF 3 none false b_Family_full
def b_check_lot : M Fl := sSeq (sExpr (cCall 2 m__check_shape (aCons (vVar 0) (aCons (vVar 1) (aNil))))) (sRet (cCall 3 m__check_things (aCons (vVar 0) (aCons (vVar 1) (aCons (vVar 2) (aNil))))))
def m_check_lot : List D → Rs := runF 3 none false b_check_lot
def b__changed : M Fl := sSeq (sIf (tB1 (op2 inD (vVar 1) (vVar 0))) (sRet (op1 tupleD (lcM 2 (iSeq (vVar 0)) (tB1 (op2 neD (vVar 2) (vVar 1))) (vVar 2)))) (sNx)) (sRet (op1 tupleD (op1 sortD (op2 catD (op1 listD (vVar 0)) (opN mkL (aCons (vVar 1) (aNil)))))))
def m__changed : List D → Rs := runF 3 none false b__changed
def b_Marks_flipped : M Fl := sSeq (sSet 2 (cCall 3 m_check_lot (aCons (op1 (fldD ocs 53) (vVar 0)) (aCons (op1 (fldD ocs 83) (vVar 0)) (aCons (vVar 1) (aNil)))))) (sRet (cMake 62 4 m_Marks___init__ (aCons (op1 (fldD ocs 53) (vVar 0)) (aCons (op1 (fldD ocs 83) (vVar 0)) (aCons (cCall 2 m__changed (aCons (op1 (fldD ocs 122) (vVar 0)) (aCons (vVar 2) (aNil)))) (aNil))))))
def m_Marks_flipped : List D → Rs := runF 3 none false b_Marks_flipped
def b_Family_flipped : M Fl := sSeq (sSet 2 (cCall 3 m_check_lot (aCons (op1 (fldD ocs 53) (vVar 0)) (aCons (op1 (fldD ocs 83) (vVar 0)) (aCons (vVar 1) (aNil)))))) (sSeq (sSet 3 (cCall 2 m__changed (aCons (op1 (fldD ocs 122) (vVar 0)) (aCons (vVar 2) (aNil))))) (sSeq (sSet 4 (cCall 3 m__least_break (aCons (op1 (fldD ocs 53) (vVar 0)) (aCons (op1 (fldD ocs 83) (vVar 0)) (aCons (vVar 3) (aNil)))))) (sSeq (sIf (tB1 (op2 notNone (vVar 4) (vC .non))) (sRaise 136 [47] (aCons (vVar 4) (aNil))) (sNx)) (sRet (cMake 100 4 m_Family___init__ (aCons (op1 (fldD ocs 53) (vVar 0)) (aCons (op1 (fldD ocs 83) (vVar 0)) (aCons (vVar 3) (aNil)))))))))
def m_Family_flipped : List D → Rs := runF 5 none false b_Family_flipped
def mt_flipped : MT := [(62, m_Marks_flipped), (100, m_Family_flipped)]
def b__law_flip_told : M Fl := sSeq (sSet 2 (opN mkT (aCons (vC (.str 51)) (aCons (vC (.int 0)) (aNil))))) (sSeq (sTry (sSet 2 (opN mkT (aCons (vC (.str 44)) (aCons (cMeth 2 147 mt_flipped (vVar 0) (aCons (vVar 1) (aNil))) (aNil))))) [⟨136, [136], [176, 96, 132, 99, 97], some 3, sSet 2 (opN mkT (aCons (vC (.str 24)) (aCons (vXf 3 [136] 47) (aNil))))⟩, ⟨96, [96], [176, 132, 99, 136, 97], some 3, sSet 2 (opN mkT (aCons (vC (.str 20)) (aCons (vXf 3 [96] 88) (aNil))))⟩]) (sRet (vVar 2)))
def m__law_flip_told : List D → Rs := runF 4 none false b__law_flip_told
def b_break_of : M Fl := sRet (cCall 3 m__least_break (aCons (op1 (fldD ocs 53) (vVar 0)) (aCons (op1 (fldD ocs 83) (vVar 0)) (aCons (op1 (fldD ocs 122) (vVar 0)) (aNil)))))
def m_break_of : List D → Rs := runF 1 none false b_break_of
def b_keeps : M Fl := sRet (op2 isNone (cCall 1 m_break_of (aCons (vVar 0) (aNil))) (vC .non))
def m_keeps : List D → Rs := runF 1 none false b_keeps
def b_Marks___eq__ : M Fl := sRet (vAnd (op1 (isaOwn is_Marks) (vVar 1)) (vAnd (op2 eqD (op1 (fldD ocs 53) (vVar 0)) (op1 (fldD ocs 53) (vVar 1))) (vAnd (op2 eqD (op1 (fldD ocs 83) (vVar 0)) (op1 (fldD ocs 83) (vVar 1))) (op2 eqD (op1 (fldD ocs 122) (vVar 0)) (op1 (fldD ocs 122) (vVar 1))))))
def m_Marks___eq__ : List D → Rs := runF 2 none false b_Marks___eq__
def t_eq : OT := [(62, [62], m_Marks___eq__), (100, [62, 100], m_Marks___eq__)]
def b_Marks_full : M Fl := sSeq (sExpr (cCall 3 m_check_lots (aCons (vVar 1) (aCons (vVar 2) (aCons (opN mkT (aNil)) (aNil)))))) (sRet (cMakeL 0 4 mkt4 (aCons (vVar 1) (aCons (vVar 2) (aCons (cCall 2 m__lots (aCons (vVar 1) (aCons (vVar 2) (aNil)))) (aNil))))))
def m_Marks_full : List D → Rs := runF 3 none false b_Marks_full
def b_Marks___len__ : M Fl := sRet (op1 lenD (op1 (fldD ocs 122) (vVar 0)))
def m_Marks___len__ : List D → Rs := runF 1 none false b_Marks___len__
def t_len : MT := [(62, m_Marks___len__), (100, m_Marks___len__)]
def b__law_other_levels : M Fl := sSeq (sFor 2 (iSeq (opN mkL (aCons (vC (.int 0)) (aCons (vC (.int 1)) (aCons (vVar 1) (aCons (op2 addD (vVar 1) (vC (.int 1))) (aNil))))))) (sSeq (sSet 3 (cCall 2 m__law_lots (aCons (vVar 1) (aCons (vVar 2) (aNil))))) (sSeq (sSet 5 (lcM 4 (iSeq (vVar 3)) (bTrue) (cCallIo 2 0 m__law_take (aCons (vC (.int 2)) (aNil))))) (sSeq (sSet 6 (cClsM 4 62 m_Marks_of_row (vC (.cls 62)) (aCons (vVar 1) (aCons (vVar 2) (aCons (vVar 5) (aNil)))))) (sSeq (sIf (bOr (bNot (tB1 (cCall 1 m_keeps (aCons (vVar 6) (aNil))))) (bNot (tB1 (op2 (oEq t_eq) (cClsM 4 100 m_Family_of_row (vC (.cls 100)) (aCons (vVar 1) (aCons (vVar 2) (aCons (vVar 5) (aNil))))) (vVar 6))))) (sRet (vC (.bl false))) (sNx)) (sSeq (sIf (bOr (tB1 (op1 (isaOwn is_Family) (vVar 6))) (tB1 (op1 (isaOwn is_Family) (cClsM 3 62 m_Marks_full (vC (.cls 62)) (aCons (vVar 1) (aCons (vVar 2) (aNil))))))) (sRet (vC (.bl false))) (sNx)) (sSeq (sFor 7 (iSeq (opN mkL (aCons (cClsM 4 100 m_Family_of_row (vC (.cls 100)) (aCons (vVar 1) (aCons (vVar 2) (aCons (vVar 5) (aNil))))) (aCons (cClsM 3 100 m_Family_none (vC (.cls 100)) (aCons (vVar 1) (aCons (vVar 2) (aNil)))) (aCons (cClsM 3 100 m_Family_full (vC (.cls 100)) (aCons (vVar 1) (aCons (vVar 2) (aNil)))) (aNil)))))) (sIf (bOr (bNot (tB1 (op1 (isaOwn is_Family) (vVar 7)))) (tB1 (op2 neD (op1 (conD cc_WORD 35) (vVar 7)) (vC (.str 117))))) (sRet (vC (.bl false))) (sNx))) (sIf (tB1 (op2 gtI (op1 lenD (vVar 3)) (vC (.int 0)))) (sSeq (sSet 7 (cCall 2 m__law_flip_told (aCons (cClsM 4 100 m_Family_of_row (vC (.cls 100)) (aCons (vVar 1) (aCons (vVar 2) (aCons (vVar 5) (aNil))))) (aCons (op2 ixD (vVar 3) (op2 subD (op1 lenD (vVar 3)) (vC (.int 1)))) (aNil))))) (sIf (bOr (tB1 (op2 neD (op2 ixD (vVar 7) (vC (.int 0))) (vC (.str 44)))) (tB1 (op2 neD (op1 (oLen t_len) (op2 ixD (vVar 7) (vC (.int 1)))) (op2 subD (op2 addD (op1 sumD (vVar 5)) (vC (.int 1))) (op2 mulI (vC (.int 2)) (op2 ixD (vVar 5) (op2 subD (op1 lenD (vVar 3)) (vC (.int 1))))))))) (sRet (vC (.bl false))) (sNx))) (sNx))))))))) (sRet (vC (.bl true)))
def m__law_other_levels : List D → Rs := runF 8 (some 0) false b__law_other_levels
def b__law_member : M Fl := sSeq (sSet 2 (op1 lenD (vVar 0))) (sSeq (sIf (tB1 (op2 leI (vVar 1) (vVar 2))) (sRet (vSl slD (vVar 0) (vPart none) (vPart (some (vVar 1))))) (sNx)) (sRet (vSl slD (vVar 0) (vPart (some (op2 subD (vVar 1) (vVar 2)))) (vPart none))))
def m__law_member : List D → Rs := runF 3 none false b__law_member
def b_Marks___xor__ : M Fl := sSeq (sSet 2 (cCall 3 m_check_lot (aCons (op1 (fldD ocs 53) (vVar 0)) (aCons (op1 (fldD ocs 83) (vVar 0)) (aCons (vVar 1) (aNil)))))) (sRet (cMake 62 4 m_Marks___init__ (aCons (op1 (fldD ocs 53) (vVar 0)) (aCons (op1 (fldD ocs 83) (vVar 0)) (aCons (cCall 2 m__changed (aCons (op1 (fldD ocs 122) (vVar 0)) (aCons (vVar 2) (aNil)))) (aNil))))))
def m_Marks___xor__ : List D → Rs := runF 3 none false b_Marks___xor__
def t_xor : MT := [(62, m_Marks___xor__), (100, m_Marks___xor__)]
def b__law_least_break : M Fl := sSeq (sSet 2 (opN mkL (aNil))) (sSeq (sSet 4 (lcM 3 (iSeq (vVar 0)) (bTrue) (op2 inD (vVar 3) (vVar 1)))) (sSeq (sFor 5 (iRng rng1 (aCons (op1 lenD (vVar 0)) (aNil))) (sFor 6 (iRng rng2 (aCons (op2 addD (vVar 5) (vC (.int 1))) (aCons (op1 lenD (vVar 0)) (aNil)))) (sFor 7 (iRng rng2 (aCons (op2 addD (vVar 6) (vC (.int 1))) (aCons (op1 lenD (vVar 0)) (aNil)))) (sIf (bAnd (tB1 (op2 eqD (op2 ixD (vVar 4) (vVar 5)) (op2 ixD (vVar 4) (vVar 7)))) (tB1 (op2 neD (op2 ixD (vVar 4) (vVar 5)) (op2 ixD (vVar 4) (vVar 6))))) (sExpr (vMeth 2 mAppend (aCons (opN mkT (aCons (op2 ixD (vVar 0) (vVar 5)) (aCons (op2 ixD (vVar 0) (vVar 6)) (aCons (op2 ixD (vVar 0) (vVar 7)) (aNil))))) aNil))) (sNx))))) (sRet (op2 ixD (op1 sortD (vVar 2)) (vC (.int 0))))))
def m__law_least_break : List D → Rs := runF 8 none false b__law_least_break
def b__law_flips_good : M Fl := sSeq (sSet 3 (op2 subD (vVar 0) (vC (.int 1)))) (sSeq (sSet 4 (cCall 2 m__law_member (aCons (vVar 1) (aCons (vVar 2) (aNil))))) (sSeq (sSet 5 (cMake 100 4 m_Family___init__ (aCons (vVar 0) (aCons (vVar 3) (aCons (op1 listD (vVar 4)) (aNil)))))) (sSeq (sSet 6 (opN mkL (aCons (cCall 2 m__law_member (aCons (vVar 1) (aCons (op2 modD (op1 intD (op2 addD (vVar 2) (vC (.int 1)))) (op2 mulI (vC (.int 2)) (vVar 0))) (aNil)))) (aCons (cCall 2 m__law_member (aCons (vVar 1) (aCons (op2 modD (op1 intD (op2 subD (vVar 2) (vC (.int 1)))) (op2 mulI (vC (.int 2)) (vVar 0))) (aNil)))) (aNil))))) (sSeq (sSet 7 (vC (.int 0))) (sSeq (sFor 8 (iSeq (vVar 1)) (sSeq (sSet 10 (op1 sortD (op2 catD (lcM 9 (iSeq (vVar 4)) (tB1 (op2 neD (vVar 9) (vVar 8))) (vVar 9)) (lcM 9 (iSeq (opN mkL (aCons (vC (.int 0)) (aNil)))) (tB1 (op2 notInD (vVar 8) (vVar 4))) (vVar 8))))) (sSeq (sSet 11 (cCall 2 m__law_flip_told (aCons (vVar 5) (aCons (op1 revD (op1 listD (vVar 8))) (aNil))))) (sSeq (sSet 12 (cMeth 2 147 mt_flipped (cMake 62 4 m_Marks___init__ (aCons (vVar 0) (aCons (vVar 3) (aCons (op1 listD (vVar 4)) (aNil))))) (aCons (op1 revD (op1 listD (vVar 8))) (aNil)))) (sSeq (sIf (bOr (tB1 (op1 (isaOwn is_Family) (vVar 12))) (bOr (tB1 (op2 neD (op1 (fldD ocs 122) (vVar 12)) (op1 tupleD (vVar 10)))) (bNot (tB1 (op2 (oEq t_eq) (op2 (oXor t_xor) (vVar 5) (op1 revD (op1 listD (vVar 8)))) (vVar 12)))))) (sRet (vC (.bl false))) (sNx)) (sSeq (sIf (bOr (tB1 (op1 (isaOwn is_Family) (op2 (oXor t_xor) (vVar 5) (vVar 8)))) (tB1 (op2 (oNe t_eq) (op2 (oXor t_xor) (vVar 5) (vVar 8)) (vVar 12)))) (sRet (vC (.bl false))) (sNx)) (sIf (tB1 (op2 inD (vVar 10) (vVar 6))) (sSeq (sAug 7 (i2 fun a b => some (.int (a + b))) (vC (.int 1))) (sIf (bOr (tB1 (op2 neD (op2 ixD (vVar 11) (vC (.int 0))) (vC (.str 44)))) (bOr (bNot (tB1 (op1 (isaOwn is_Family) (op2 ixD (vVar 11) (vC (.int 1)))))) (tB1 (op2 neD (op1 (fldD ocs 122) (op2 ixD (vVar 11) (vC (.int 1)))) (op1 tupleD (vVar 10)))))) (sRet (vC (.bl false))) (sNx))) (sIf (tB1 (op2 neD (vVar 11) (opN mkT (aCons (vC (.str 24)) (aCons (cCall 2 m__law_least_break (aCons (vVar 1) (aCons (vVar 10) (aNil)))) (aNil)))))) (sRet (vC (.bl false))) (sNx))))))))) (sRet (vAnd (op2 eqD (vVar 7) (vC (.int 2))) (op2 eqD (op1 (fldD ocs 122) (vVar 5)) (op1 tupleD (vVar 4))))))))))
def m__law_flips_good : List D → Rs := runF 13 none false b__law_flips_good
def b__law_count_good : M Fl := sSeq (sSet 2 (vC (.int 0))) (sSeq (sFor 3 (iRng rng1 (aCons (op2 powD (vC (.int 2)) (vC (.int 5))) (aNil))) (sSeq (sSet 4 (opN mkL (aCons (op2 modD (op1 intD (op2 fdivD (vVar 3) (op2 powD (vC (.int 2)) (vC (.int 4))))) (vC (.int 2))) (aCons (op2 modD (op1 intD (op2 fdivD (vVar 3) (op2 powD (vC (.int 2)) (vC (.int 3))))) (vC (.int 2))) (aCons (op2 modD (op1 intD (op2 fdivD (vVar 3) (vC (.int 4)))) (vC (.int 2))) (aCons (op2 modD (op1 intD (op2 fdivD (vVar 3) (vC (.int 2)))) (vC (.int 2))) (aNil))))))) (sSeq (sSet 5 (vSl slD (op2 catD (vVar 4) (opN mkL (aCons (op2 modD (op1 intD (vVar 3)) (vC (.int 2))) (aNil)))) (vPart (some (op2 subD (vC (.int 5)) (vVar 0)))) (vPart none))) (sIf (bAnd (tB1 (op2 ltD (vVar 3) (op2 fdivD (vC (.int 32)) (op2 ixD (opN mkL (aCons (vC (.int 32)) (aCons (vC (.int 16)) (aCons (vC (.int 8)) (aCons (vC (.int 4)) (aCons (vC (.int 2)) (aCons (vC (.int 1)) (aNil)))))))) (vVar 0))))) (tB1 (cCall 1 m_keeps (aCons (cClsM 4 62 m_Marks_of_row (vC (.cls 62)) (aCons (vVar 0) (aCons (op2 subD (vVar 0) (vC (.int 1))) (aCons (vVar 5) (aNil))))) (aNil))))) (sAug 2 (i2 fun a b => some (.int (a + b))) (vC (.int 1))) (sNx))))) (sRet (op2 eqD (vVar 2) (op2 mulI (vC (.int 2)) (vVar 0)))))
def m__law_count_good : List D → Rs := runF 6 none false b__law_count_good
def b_law : M Fl := sSeq (sSet 1 (cCall 1 m__law_draws (aCons (vVar 0) (aNil)))) (sSeq (sSet 2 (op2 addD (vC (.int 2)) (cCallIo 2 1 m__law_take (aCons (vC (.int 6)) (aNil))))) (sSeq (sSet 3 (cCall 2 m__law_lots (aCons (vVar 2) (aCons (op2 subD (vVar 2) (vC (.int 1))) (aNil))))) (sSeq (sSet 4 (cCallIo 2 1 m__law_take (aCons (op2 mulI (vC (.int 2)) (vVar 2)) (aNil)))) (sSeq (sIf (bNot (tB1 (cCall 3 m__law_flips_good (aCons (vVar 2) (aCons (vVar 3) (aCons (vVar 4) (aNil))))))) (sRet (vC (.bl false))) (sNx)) (sSeq (sIf (bAnd (tB1 (op2 leI (vVar 2) (vC (.int 5)))) (bNot (tB1 (cCall 2 m__law_count_good (aCons (vVar 2) (aCons (vVar 3) (aNil))))))) (sRet (vC (.bl false))) (sNx)) (sSeq (sSet 5 (cMake 100 4 m_Family___init__ (aCons (vVar 2) (aCons (op2 subD (vVar 2) (vC (.int 1))) (aCons (cCall 2 m__law_member (aCons (vVar 3) (aCons (vVar 4) (aNil)))) (aNil)))))) (sSeq (sIf (bOr (tB1 (op2 neD (cCall 2 m__law_flip_told (aCons (vVar 5) (aCons (vC (.int 7)) (aNil)))) (opN mkT (aCons (vC (.str 20)) (aCons (op1 negD (vC (.int 1))) (aNil)))))) (tB1 (op2 neD (cCall 2 m__law_flip_told (aCons (vVar 5) (aCons (opN lstRg (aCons (vVar 2) aNil)) (aNil)))) (opN mkT (aCons (vC (.str 20)) (aCons (op1 negD (vC (.int 2))) (aNil))))))) (sRet (vC (.bl false))) (sNx)) (sSeq (sIf (tB1 (op2 neD (cCall 2 m__law_flip_told (aCons (vVar 5) (aCons (op2 repD (opN mkL (aCons (vVar 2) (aNil))) (op2 subD (vVar 2) (vC (.int 1)))) (aNil)))) (opN mkT (aCons (vC (.str 20)) (aCons (vC (.int 0)) (aNil)))))) (sRet (vC (.bl false))) (sNx)) (sSeq (sSet 6 (cMake 62 3 m_Marks___init___3 (aCons (vVar 2) (aCons (op2 subD (vVar 2) (vC (.int 1))) (aNil))))) (sSeq (sIf (bOr (tB1 (op2 neD (cCall 2 m__law_flip_told (aCons (vVar 6) (aCons (op2 repD (opN mkL (aCons (vVar 2) (aNil))) (op2 subD (vVar 2) (vC (.int 1)))) (aNil)))) (opN mkT (aCons (vC (.str 20)) (aCons (vC (.int 0)) (aNil)))))) (tB1 (op2 neD (cCall 2 m__law_flip_told (aCons (vVar 6) (aCons (vC (.int 7)) (aNil)))) (opN mkT (aCons (vC (.str 20)) (aCons (op1 negD (vC (.int 1))) (aNil))))))) (sRet (vC (.bl false))) (sNx)) (sRet (cCallIo 2 1 m__law_other_levels (aCons (vVar 2) (aNil))))))))))))))
def m_law : List D → Rs := runF 7 none false b_law
end KX

set_option Elab.async false
set_option linter.all false
set_option maxRecDepth 100000
set_option maxHeartbeats 4000000
namespace KX
open PySem PySem.Spec PyProof.Rows L2 DL
def top (i : Nat) : Stmt := PySem.Challenge.pw_packetmarks_k06_ring_of_almost_all_thing.main.body.getD i (.Pass ⟨0, 0, 0, 0⟩)
abbrev s__law_draws : Stmt := top 36
def d__law_draws : Df := ⟨pGl "_law_draws", "_law_draws", "_law_draws", defArgs s__law_draws, defBody s__law_draws, defScope s__law_draws, [], fun _ => []⟩
abbrev n__law_draws : List PySem.Str := ["_law_script", "_law_drawn", "_law_seed", "_law_at", "_law_cell", "_law_turn"]
theorem n_nd__law_draws : (n__law_draws).Nodup := by decide +kernel
abbrev s__law_lots : Stmt := top 38
def d__law_lots : Df := ⟨pGl "_law_lots", "_law_lots", "_law_lots", defArgs s__law_lots, defBody s__law_lots, defScope s__law_lots, [], fun _ => []⟩
abbrev n__law_lots : List PySem.Str := ["_law_size", "_law_level", "_law_rows", "_law_k", "_law_longer", "_law_lot", "_law_start", "_law_thing"]
theorem n_nd__law_lots : (n__law_lots).Nodup := by decide +kernel
abbrev s__law_take : Stmt := top 37
def d__law_take : Df := ⟨pGl "_law_take", "_law_take", "_law_take", defArgs s__law_take, defBody s__law_take, defScope s__law_take, [], fun _ => []⟩
abbrev n__law_take : List PySem.Str := ["_law_draws_here", "_law_many"]
theorem n_nd__law_take : (n__law_take).Nodup := by decide +kernel
abbrev s_BadNumber___init__ : Stmt := inClass (top 4) 0
def d_BadNumber___init__ : Df := ⟨pMe "BadNumber" "__init__", "__init__", "BadNumber.__init__", defArgs s_BadNumber___init__, defBody s_BadNumber___init__, defScope s_BadNumber___init__, [], fun _ => []⟩
abbrev s_is_int : Stmt := top 13
def d_is_int : Df := ⟨pGl "is_int", "is_int", "is_int", defArgs s_is_int, defBody s_is_int, defScope s_is_int, [], fun _ => []⟩
abbrev n_is_int : List PySem.Str := ["value"]
theorem n_nd_is_int : (n_is_int).Nodup := by decide +kernel
abbrev s_check_number : Stmt := top 14
def d_check_number : Df := ⟨pGl "check_number", "check_number", "check_number", defArgs s_check_number, defBody s_check_number, defScope s_check_number, [], fun _ => []⟩
abbrev n_check_number : List PySem.Str := ["name", "value", "least", "most"]
theorem n_nd_check_number : (n_check_number).Nodup := by decide +kernel
abbrev s__check_shape : Stmt := top 16
def d__check_shape : Df := ⟨pGl "_check_shape", "_check_shape", "_check_shape", defArgs s__check_shape, defBody s__check_shape, defScope s__check_shape, [], fun _ => []⟩
abbrev n__check_shape : List PySem.Str := ["size", "level"]
theorem n_nd__check_shape : (n__check_shape).Nodup := by decide +kernel
abbrev s_BadLots___init__ : Stmt := inClass (top 6) 0
def d_BadLots___init__ : Df := ⟨pMe "BadLots" "__init__", "__init__", "BadLots.__init__", defArgs s_BadLots___init__, defBody s_BadLots___init__, defScope s_BadLots___init__, [], fun _ => []⟩
abbrev s__first_wrong : Stmt := top 18
def d__first_wrong : Df := ⟨pGl "_first_wrong", "_first_wrong", "_first_wrong", defArgs s__first_wrong, defBody s__first_wrong, defScope s__first_wrong, [], fun _ => []⟩
abbrev n__first_wrong : List PySem.Str := ["size", "things", "place", "thing"]
theorem n_nd__first_wrong : (n__first_wrong).Nodup := by decide +kernel
abbrev s_BadLot___init__ : Stmt := inClass (top 5) 0
def d_BadLot___init__ : Df := ⟨pMe "BadLot" "__init__", "__init__", "BadLot.__init__", defArgs s_BadLot___init__, defBody s_BadLot___init__, defScope s_BadLot___init__, [], fun _ => []⟩
abbrev s__check_things : Stmt := top 19
def d__check_things : Df := ⟨pGl "_check_things", "_check_things", "_check_things", defArgs s__check_things, defBody s__check_things, defScope s__check_things, [], fun _ => []⟩
abbrev n__check_things : List PySem.Str := ["size", "level", "things", "wrong"]
theorem n_nd__check_things : (n__check_things).Nodup := by decide +kernel
abbrev s_check_lots : Stmt := top 21
def d_check_lots : Df := ⟨pGl "check_lots", "check_lots", "check_lots", defArgs s_check_lots, defBody s_check_lots, defScope s_check_lots, [], fun _ => []⟩
abbrev n_check_lots : List PySem.Str := ["size", "level", "lots", "found", "place", "lot", "e"]
theorem n_nd_check_lots : (n_check_lots).Nodup := by decide +kernel
abbrev s_Marks___init__ : Stmt := inClass (top 30) 1
def d_Marks___init__ : Df := ⟨pMe "Marks" "__init__", "__init__", "Marks.__init__", defArgs s_Marks___init__, defBody s_Marks___init__, defScope s_Marks___init__, [.adr (He.dflAt ("Marks", some "__init__") 0)], fun _ => []⟩
abbrev n_Marks___init__ : List PySem.Str := ["self", "size", "level", "marked", "found"]
theorem n_nd_Marks___init__ : (n_Marks___init__).Nodup := by decide +kernel
abbrev s__lots : Stmt := top 22
def d__lots : Df := ⟨pGl "_lots", "_lots", "_lots", defArgs s__lots, defBody s__lots, defScope s__lots, [], fun _ => []⟩
abbrev n__lots : List PySem.Str := ["size", "level", "rows", "_", "row", "thing"]
theorem n_nd__lots : (n__lots).Nodup := by decide +kernel
abbrev s__packet : Stmt := top 23
def d__packet : Df := ⟨pGl "_packet", "_packet", "_packet", defArgs s__packet, defBody s__packet, defScope s__packet, [], fun _ => []⟩
abbrev n__packet : List PySem.Str := ["things", "many", "at"]
theorem n_nd__packet : (n__packet).Nodup := by decide +kernel
abbrev s__row_break : Stmt := top 25
def d__row_break : Df := ⟨pGl "_row_break", "_row_break", "_row_break", defArgs s__row_break, defBody s__row_break, defScope s__row_break, [], fun _ => []⟩
abbrev n__row_break : List PySem.Str := ["row", "held", "first", "second", "third"]
theorem n_nd__row_break : (n__row_break).Nodup := by decide +kernel
abbrev s__least_break : Stmt := top 26
def d__least_break : Df := ⟨pGl "_least_break", "_least_break", "_least_break", defArgs s__least_break, defBody s__least_break, defScope s__least_break, [], fun _ => []⟩
abbrev n__least_break : List PySem.Str := ["size", "level", "marked", "known", "least", "things", "row", "lot", "found"]
theorem n_nd__least_break : (n__least_break).Nodup := by decide +kernel
abbrev s_Broken___init__ : Stmt := inClass (top 8) 0
def d_Broken___init__ : Df := ⟨pMe "Broken" "__init__", "__init__", "Broken.__init__", defArgs s_Broken___init__, defBody s_Broken___init__, defScope s_Broken___init__, [], fun _ => []⟩
abbrev s_Family___init__ : Stmt := inClass (top 31) 1
def d_Family___init__ : Df := ⟨pMe "Family" "__init__", "__init__", "Family.__init__", defArgs s_Family___init__, defBody s_Family___init__, defScope s_Family___init__, [.adr (He.dflAt ("Family", some "__init__") 0)], fun K => [(("__class__" : PySem.Str), ccAt (pMe "Family" "__init__") K)]⟩
abbrev n_Family___init__ : List PySem.Str := ["self", "size", "level", "marked", "__class__", "broken"]
theorem n_nd_Family___init__ : (n_Family___init__).Nodup := by decide +kernel
abbrev s_BadRow___init__ : Stmt := inClass (top 10) 0
def d_BadRow___init__ : Df := ⟨pMe "BadRow" "__init__", "__init__", "BadRow.__init__", defArgs s_BadRow___init__, defBody s_BadRow___init__, defScope s_BadRow___init__, [], fun _ => []⟩
abbrev s__lots_by_row : Stmt := top 29
def d__lots_by_row : Df := ⟨pGl "_lots_by_row", "_lots_by_row", "_lots_by_row", defArgs s__lots_by_row, defBody s__lots_by_row, defScope s__lots_by_row, [], fun _ => []⟩
abbrev n__lots_by_row : List PySem.Str := ["size", "level", "row", "lots", "found", "place"]
theorem n_nd__lots_by_row : (n__lots_by_row).Nodup := by decide +kernel
abbrev s_Marks_of_row : Stmt := inClass (top 30) 4
def d_Marks_of_row : Df := ⟨pCm "Marks" "of_row", "of_row", "Marks.of_row", defArgs s_Marks_of_row, defBody s_Marks_of_row, defScope s_Marks_of_row, [], fun _ => []⟩
abbrev n_Marks_of_row : List PySem.Str := ["cls", "size", "level", "row"]
theorem n_nd_Marks_of_row : (n_Marks_of_row).Nodup := by decide +kernel
abbrev s_Family_of_row : Stmt := inClass (top 31) 4
def d_Family_of_row : Df := ⟨pCm "Family" "of_row", "of_row", "Family.of_row", defArgs s_Family_of_row, defBody s_Family_of_row, defScope s_Family_of_row, [], fun _ => []⟩
abbrev n_Family_of_row : List PySem.Str := ["cls", "size", "level", "row"]
theorem n_nd_Family_of_row : (n_Family_of_row).Nodup := by decide +kernel
abbrev s_Family_none : Stmt := inClass (top 31) 2
def d_Family_none : Df := ⟨pCm "Family" "none", "none", "Family.none", defArgs s_Family_none, defBody s_Family_none, defScope s_Family_none, [], fun _ => []⟩
abbrev n_Family_none : List PySem.Str := ["cls", "size", "level"]
theorem n_nd_Family_none : (n_Family_none).Nodup := by decide +kernel
abbrev s_Family_full : Stmt := inClass (top 31) 3
def d_Family_full : Df := ⟨pCm "Family" "full", "full", "Family.full", defArgs s_Family_full, defBody s_Family_full, defScope s_Family_full, [], fun _ => []⟩
abbrev n_Family_full : List PySem.Str := ["cls", "size", "level"]
theorem n_nd_Family_full : (n_Family_full).Nodup := by decide +kernel
abbrev s_check_lot : Stmt := top 20
def d_check_lot : Df := ⟨pGl "check_lot", "check_lot", "check_lot", defArgs s_check_lot, defBody s_check_lot, defScope s_check_lot, [], fun _ => []⟩
abbrev n_check_lot : List PySem.Str := ["size", "level", "things"]
theorem n_nd_check_lot : (n_check_lot).Nodup := by decide +kernel
abbrev s__changed : Stmt := top 28
def d__changed : Df := ⟨pGl "_changed", "_changed", "_changed", defArgs s__changed, defBody s__changed, defScope s__changed, [], fun _ => []⟩
abbrev n__changed : List PySem.Str := ["marked", "lot", "one"]
theorem n_nd__changed : (n__changed).Nodup := by decide +kernel
abbrev s_Marks_flipped : Stmt := inClass (top 30) 9
def d_Marks_flipped : Df := ⟨pMe "Marks" "flipped", "flipped", "Marks.flipped", defArgs s_Marks_flipped, defBody s_Marks_flipped, defScope s_Marks_flipped, [], fun _ => []⟩
abbrev n_Marks_flipped : List PySem.Str := ["self", "lot", "found"]
theorem n_nd_Marks_flipped : (n_Marks_flipped).Nodup := by decide +kernel
abbrev s_NotFlip___init__ : Stmt := inClass (top 9) 0
def d_NotFlip___init__ : Df := ⟨pMe "NotFlip" "__init__", "__init__", "NotFlip.__init__", defArgs s_NotFlip___init__, defBody s_NotFlip___init__, defScope s_NotFlip___init__, [], fun _ => []⟩
abbrev s_Family_flipped : Stmt := inClass (top 31) 5
def d_Family_flipped : Df := ⟨pMe "Family" "flipped", "flipped", "Family.flipped", defArgs s_Family_flipped, defBody s_Family_flipped, defScope s_Family_flipped, [], fun _ => []⟩
abbrev n_Family_flipped : List PySem.Str := ["self", "lot", "found", "marked", "broken"]
theorem n_nd_Family_flipped : (n_Family_flipped).Nodup := by decide +kernel
abbrev s__law_flip_told : Stmt := top 41
def d__law_flip_told : Df := ⟨pGl "_law_flip_told", "_law_flip_told", "_law_flip_told", defArgs s__law_flip_told, defBody s__law_flip_told, defScope s__law_flip_told, [], fun _ => []⟩
abbrev n__law_flip_told : List PySem.Str := ["_law_made", "_law_lot", "_law_told", "e"]
theorem n_nd__law_flip_told : (n__law_flip_told).Nodup := by decide +kernel
abbrev s_break_of : Stmt := top 33
def d_break_of : Df := ⟨pGl "break_of", "break_of", "break_of", defArgs s_break_of, defBody s_break_of, defScope s_break_of, [], fun _ => []⟩
abbrev n_break_of : List PySem.Str := ["marks"]
theorem n_nd_break_of : (n_break_of).Nodup := by decide +kernel
abbrev s_keeps : Stmt := top 34
def d_keeps : Df := ⟨pGl "keeps", "keeps", "keeps", defArgs s_keeps, defBody s_keeps, defScope s_keeps, [], fun _ => []⟩
abbrev n_keeps : List PySem.Str := ["marks"]
theorem n_nd_keeps : (n_keeps).Nodup := by decide +kernel
abbrev s_Marks___eq__ : Stmt := inClass (top 30) 16
def d_Marks___eq__ : Df := ⟨pMe "Marks" "__eq__", "__eq__", "Marks.__eq__", defArgs s_Marks___eq__, defBody s_Marks___eq__, defScope s_Marks___eq__, [], fun _ => []⟩
abbrev n_Marks___eq__ : List PySem.Str := ["self", "other"]
theorem n_nd_Marks___eq__ : (n_Marks___eq__).Nodup := by decide +kernel
abbrev s_Marks_full : Stmt := inClass (top 30) 3
def d_Marks_full : Df := ⟨pCm "Marks" "full", "full", "Marks.full", defArgs s_Marks_full, defBody s_Marks_full, defScope s_Marks_full, [], fun _ => []⟩
abbrev n_Marks_full : List PySem.Str := ["cls", "size", "level"]
theorem n_nd_Marks_full : (n_Marks_full).Nodup := by decide +kernel
abbrev s_Marks___len__ : Stmt := inClass (top 30) 17
def d_Marks___len__ : Df := ⟨pMe "Marks" "__len__", "__len__", "Marks.__len__", defArgs s_Marks___len__, defBody s_Marks___len__, defScope s_Marks___len__, [], fun _ => []⟩
abbrev n_Marks___len__ : List PySem.Str := ["self"]
theorem n_nd_Marks___len__ : (n_Marks___len__).Nodup := by decide +kernel
abbrev s__law_other_levels : Stmt := top 44
def d__law_other_levels : Df := ⟨pGl "_law_other_levels", "_law_other_levels", "_law_other_levels", defArgs s__law_other_levels, defBody s__law_other_levels, defScope s__law_other_levels, [], fun _ => []⟩
abbrev n__law_other_levels : List PySem.Str := ["_law_draws_here", "_law_size", "_law_level", "_law_lots_here", "_law_lot", "_law_row", "_law_made", "_law_told"]
theorem n_nd__law_other_levels : (n__law_other_levels).Nodup := by decide +kernel
abbrev s__law_member : Stmt := top 39
def d__law_member : Df := ⟨pGl "_law_member", "_law_member", "_law_member", defArgs s__law_member, defBody s__law_member, defScope s__law_member, [], fun _ => []⟩
abbrev n__law_member : List PySem.Str := ["_law_lots_here", "_law_place", "_law_count"]
theorem n_nd__law_member : (n__law_member).Nodup := by decide +kernel
abbrev s_Marks___xor__ : Stmt := inClass (top 30) 15
def d_Marks___xor__ : Df := ⟨pMe "Marks" "__xor__", "__xor__", "Marks.__xor__", defArgs s_Marks___xor__, defBody s_Marks___xor__, defScope s_Marks___xor__, [], fun _ => []⟩
abbrev n_Marks___xor__ : List PySem.Str := ["self", "lot", "found"]
theorem n_nd_Marks___xor__ : (n_Marks___xor__).Nodup := by decide +kernel
abbrev s__law_least_break : Stmt := top 40
def d__law_least_break : Df := ⟨pGl "_law_least_break", "_law_least_break", "_law_least_break", defArgs s__law_least_break, defBody s__law_least_break, defScope s__law_least_break, [], fun _ => []⟩
abbrev n__law_least_break : List PySem.Str := ["_law_lots_here", "_law_marked", "_law_found", "_law_lot", "_law_bits", "_law_one", "_law_mid", "_law_last"]
theorem n_nd__law_least_break : (n__law_least_break).Nodup := by decide +kernel
abbrev s__law_flips_good : Stmt := top 42
def d__law_flips_good : Df := ⟨pGl "_law_flips_good", "_law_flips_good", "_law_flips_good", defArgs s__law_flips_good, defBody s__law_flips_good, defScope s__law_flips_good, [], fun _ => []⟩
abbrev n__law_flips_good : List PySem.Str := ["_law_size", "_law_lots_here", "_law_place", "_law_level", "_law_marked", "_law_made", "_law_near", "_law_count", "_law_lot", "_law_one", "_law_changed", "_law_told", "_law_plain"]
theorem n_nd__law_flips_good : (n__law_flips_good).Nodup := by decide +kernel
abbrev s__law_count_good : Stmt := top 43
def d__law_count_good : Df := ⟨pGl "_law_count_good", "_law_count_good", "_law_count_good", defArgs s__law_count_good, defBody s__law_count_good, defScope s__law_count_good, [], fun _ => []⟩
abbrev n__law_count_good : List PySem.Str := ["_law_size", "_law_lots_here", "_law_kept", "_law_number", "_law_bits", "_law_row"]
theorem n_nd__law_count_good : (n__law_count_good).Nodup := by decide +kernel
abbrev s_law : Stmt := top 45
def d_law : Df := ⟨pGl "law", "law", "law", defArgs s_law, defBody s_law, defScope s_law, [], fun _ => []⟩
abbrev n_law : List PySem.Str := ["_law_script", "_law_draws_here", "_law_size", "_law_lots_here", "_law_place", "_law_made", "_law_plain"]
theorem n_nd_law : (n_law).Nodup := by decide +kernel
def fns : List Df := [d__law_draws, d__law_lots, d__law_take, d_BadNumber___init__, d_is_int, d_check_number, d__check_shape, d_BadLots___init__, d__first_wrong, d_BadLot___init__, d__check_things, d_check_lots, d_Marks___init__, d__lots, d__packet, d__row_break, d__least_break, d_Broken___init__, d_Family___init__, d_BadRow___init__, d__lots_by_row, d_Marks_of_row, d_Family_of_row, d_Family_none, d_Family_full, d_check_lot, d__changed, d_Marks_flipped, d_NotFlip___init__, d_Family_flipped, d__law_flip_told, d_break_of, d_keeps, d_Marks___eq__, d_Marks_full, d_Marks___len__, d__law_other_levels, d__law_member, d_Marks___xor__, d__law_least_break, d__law_flips_good, d__law_count_good, d_law]
def fxs : List Fc := [fHe (.free "len"),
  fHe (.free "min"),
  fHe (.free "range"),
  fHe (.free "int"),
  fHe (.free "tuple"),
  fHe (.free "list"),
  fHe (.free "isinstance"),
  fHe (.free "bool"),
  fHe (.glo "BadNumber"),
  fHe (.glo "is_int"),
  fHe (.glo "check_number"),
  fHe (.int "MOST_THINGS" 8),
  fHe (.free "sorted"),
  fHe (.glo "BadLot"),
  fHe (.glo "_first_wrong"),
  fHe (.glo "BadLots"),
  fHe (.glo "_check_things"),
  fHe (.glo "_check_shape"),
  fHe (.glo "check_lots"),
  fHe (.glo "_lots"),
  fHe (.glo "_row_break"),
  fHe (.glo "_packet"),
  fHe (.free "set"),
  fHe (.free "super"),
  fHe (.glo "Broken"),
  fHe (.glo "_least_break"),
  fHe (.glo "BadRow"),
  fHe (.glo "_lots_by_row"),
  fHe (.glo "_changed"),
  fHe (.glo "Marks"),
  fHe (.glo "check_lot"),
  fHe (.glo "Family"),
  fHe (.glo "NotFlip"),
  fHe (.glo "break_of"),
  fHe (.free "sum"),
  fHe (.glo "_law_flip_told"),
  fHe (.glo "keeps"),
  fHe (.glo "_law_take"),
  fHe (.glo "_law_lots"),
  fHe (.glo "_law_least_break"),
  fHe (.glo "_law_member"),
  fHe (.glo "_law_other_levels"),
  fHe (.glo "_law_count_good"),
  fHe (.glo "_law_flips_good"),
  fHe (.glo "_law_draws"),
  fHe (.cls "Marks"),
  fHe (.cls "Family"),
  fHe (.noat "Marks" "marked"),
  fHe (.noat "Family" "marked"),
  fHe (.noat "Marks" "level"),
  fHe (.noat "Family" "level"),
  fHe (.noat "Marks" "size"),
  fHe (.noat "Family" "size"),
  fCon "Marks" "WORD" (.str "marks"),
  fCon "Family" "WORD" (.str "family"),
  fEx "BadNumber" ["name"],
  fEx "BadLot" ["place"],
  fEx "BadLots" ["place"],
  fHe (.exm "BadNumber" "BadLot" false),
  fHe (.exm "BadLot" "BadLot" true),
  fHe (.exm "BadLots" "BadLot" false),
  fHe (.exm "Broken" "BadLot" false),
  fHe (.exm "NotFlip" "BadLot" false),
  fHe (.exm "BadRow" "BadLot" false),
  fEx "Broken" ["lots"],
  fEx "BadRow" ["place"],
  fMk "Marks" "Marks",
  fMk "Family" "Family",
  fEx "NotFlip" ["lots"],
  fMeth "Marks" "flipped" "Marks",
  fMeth "Family" "flipped" "Family",
  fXf "NotFlip" "lots",
  fHe (.exm "BadNumber" "NotFlip" false),
  fHe (.exm "BadLot" "NotFlip" false),
  fHe (.exm "BadLots" "NotFlip" false),
  fHe (.exm "Broken" "NotFlip" false),
  fHe (.exm "NotFlip" "NotFlip" true),
  fHe (.exm "BadRow" "NotFlip" false),
  fXf "BadLot" "place",
  fIsi "Marks",
  fKit "Marks" "Marks" true,
  fIsi "Family",
  fKit "Family" "Marks" true,
  fCm "Family" "of_row",
  fCm "Family" "full",
  fCm "Family" "none",
  fKit "Marks" "Family" false,
  fKit "Family" "Family" true,
  fCm "Marks" "full",
  fCm "Marks" "of_row",
  fMeth "Marks" "__len__" "Marks",
  fMeth "Family" "__len__" "Marks",
  fMeth "Marks" "__eq__" "Marks",
  fNe "Marks",
  fNotFirst "Marks" "Marks",
  fMeth "Family" "__eq__" "Marks",
  fNe "Family",
  fNotFirst "Family" "Marks",
  fNotFirst "Family" "Family",
  fMeth "Marks" "__xor__" "Marks",
  fSelfFirst "Marks",
  fMeth "Family" "__xor__" "Marks",
  fSelfFirst "Family",
  fTup0 ("Marks", some "__init__") 0,
  fSup "Family" "Marks" "/claim/cut.py"]
section
variable {P : Program} {w : World} {K : PySem.W.Frag} {mg : Str → Option Value} {base : Heap}
structure Cz (P : Program) (w : World) (K : PySem.W.Frag) (mg : Str → Option Value) : Prop where
  told : Told fxs fns K
  hp : ∃ h : Heap, K.In h ∧ h.Ns mainGlobals mg
  prog : P = PySem.Challenge.pw_packetmarks_k06_ring_of_almost_all_thing
theorem Cz.gl (c : Cz P w K mg) {x : Str} (z : fHe (.glo x) K = true) : mg x = some (.ref (He.ga K x)) := by
  obtain ⟨h, a, b⟩ := c.hp
  exact He.glo_ok a b z
theorem Cz.fr (c : Cz P w K mg) {x : Str} (z : fHe (.free x) K = true) : mg x = none := by
  obtain ⟨h, a, b⟩ := c.hp
  exact He.free_ok a b z
theorem Cz.it (c : Cz P w K mg) {x : Str} {i : Int} (z : fHe (.int x i) K = true) : ∃ t, mg x = some (.int i t) := by
  obtain ⟨h, a, b⟩ := c.hp
  exact He.int_ok a b z
theorem f_len (c : Cz P w K mg) : mg "len" = none := c.fr (c.told.fact 0 (f := fHe (.free "len")) rfl)
theorem f_min (c : Cz P w K mg) : mg "min" = none := c.fr (c.told.fact 1 (f := fHe (.free "min")) rfl)
theorem f_range (c : Cz P w K mg) : mg "range" = none := c.fr (c.told.fact 2 (f := fHe (.free "range")) rfl)
theorem f_int (c : Cz P w K mg) : mg "int" = none := c.fr (c.told.fact 3 (f := fHe (.free "int")) rfl)
theorem f_tuple (c : Cz P w K mg) : mg "tuple" = none := c.fr (c.told.fact 4 (f := fHe (.free "tuple")) rfl)
theorem f_list (c : Cz P w K mg) : mg "list" = none := c.fr (c.told.fact 5 (f := fHe (.free "list")) rfl)
theorem f_isinstance (c : Cz P w K mg) : mg "isinstance" = none := c.fr (c.told.fact 6 (f := fHe (.free "isinstance")) rfl)
theorem f_bool (c : Cz P w K mg) : mg "bool" = none := c.fr (c.told.fact 7 (f := fHe (.free "bool")) rfl)
theorem g_BadNumber (c : Cz P w K mg) : mg "BadNumber" = some (.ref (He.ga K "BadNumber")) := c.gl (c.told.fact 8 (f := fHe (.glo "BadNumber")) rfl)
theorem g_is_int (c : Cz P w K mg) : mg "is_int" = some (.ref (He.ga K "is_int")) := c.gl (c.told.fact 9 (f := fHe (.glo "is_int")) rfl)
theorem g_check_number (c : Cz P w K mg) : mg "check_number" = some (.ref (He.ga K "check_number")) := c.gl (c.told.fact 10 (f := fHe (.glo "check_number")) rfl)
theorem g_MOST_THINGS (c : Cz P w K mg) : ∃ t, mg "MOST_THINGS" = some (.int 8 t) := c.it (c.told.fact 11 (f := fHe (.int "MOST_THINGS" 8)) rfl)
theorem f_sorted (c : Cz P w K mg) : mg "sorted" = none := c.fr (c.told.fact 12 (f := fHe (.free "sorted")) rfl)
theorem g_BadLot (c : Cz P w K mg) : mg "BadLot" = some (.ref (He.ga K "BadLot")) := c.gl (c.told.fact 13 (f := fHe (.glo "BadLot")) rfl)
theorem g__first_wrong (c : Cz P w K mg) : mg "_first_wrong" = some (.ref (He.ga K "_first_wrong")) := c.gl (c.told.fact 14 (f := fHe (.glo "_first_wrong")) rfl)
theorem g_BadLots (c : Cz P w K mg) : mg "BadLots" = some (.ref (He.ga K "BadLots")) := c.gl (c.told.fact 15 (f := fHe (.glo "BadLots")) rfl)
theorem g__check_things (c : Cz P w K mg) : mg "_check_things" = some (.ref (He.ga K "_check_things")) := c.gl (c.told.fact 16 (f := fHe (.glo "_check_things")) rfl)
theorem g__check_shape (c : Cz P w K mg) : mg "_check_shape" = some (.ref (He.ga K "_check_shape")) := c.gl (c.told.fact 17 (f := fHe (.glo "_check_shape")) rfl)
theorem g_check_lots (c : Cz P w K mg) : mg "check_lots" = some (.ref (He.ga K "check_lots")) := c.gl (c.told.fact 18 (f := fHe (.glo "check_lots")) rfl)
theorem g__lots (c : Cz P w K mg) : mg "_lots" = some (.ref (He.ga K "_lots")) := c.gl (c.told.fact 19 (f := fHe (.glo "_lots")) rfl)
theorem g__row_break (c : Cz P w K mg) : mg "_row_break" = some (.ref (He.ga K "_row_break")) := c.gl (c.told.fact 20 (f := fHe (.glo "_row_break")) rfl)
theorem g__packet (c : Cz P w K mg) : mg "_packet" = some (.ref (He.ga K "_packet")) := c.gl (c.told.fact 21 (f := fHe (.glo "_packet")) rfl)
theorem f_set (c : Cz P w K mg) : mg "set" = none := c.fr (c.told.fact 22 (f := fHe (.free "set")) rfl)
theorem f_super (c : Cz P w K mg) : mg "super" = none := c.fr (c.told.fact 23 (f := fHe (.free "super")) rfl)
theorem g_Broken (c : Cz P w K mg) : mg "Broken" = some (.ref (He.ga K "Broken")) := c.gl (c.told.fact 24 (f := fHe (.glo "Broken")) rfl)
theorem g__least_break (c : Cz P w K mg) : mg "_least_break" = some (.ref (He.ga K "_least_break")) := c.gl (c.told.fact 25 (f := fHe (.glo "_least_break")) rfl)
theorem g_BadRow (c : Cz P w K mg) : mg "BadRow" = some (.ref (He.ga K "BadRow")) := c.gl (c.told.fact 26 (f := fHe (.glo "BadRow")) rfl)
theorem g__lots_by_row (c : Cz P w K mg) : mg "_lots_by_row" = some (.ref (He.ga K "_lots_by_row")) := c.gl (c.told.fact 27 (f := fHe (.glo "_lots_by_row")) rfl)
theorem g__changed (c : Cz P w K mg) : mg "_changed" = some (.ref (He.ga K "_changed")) := c.gl (c.told.fact 28 (f := fHe (.glo "_changed")) rfl)
theorem g_Marks (c : Cz P w K mg) : mg "Marks" = some (.ref (He.ga K "Marks")) := c.gl (c.told.fact 29 (f := fHe (.glo "Marks")) rfl)
theorem g_check_lot (c : Cz P w K mg) : mg "check_lot" = some (.ref (He.ga K "check_lot")) := c.gl (c.told.fact 30 (f := fHe (.glo "check_lot")) rfl)
theorem g_Family (c : Cz P w K mg) : mg "Family" = some (.ref (He.ga K "Family")) := c.gl (c.told.fact 31 (f := fHe (.glo "Family")) rfl)
theorem g_NotFlip (c : Cz P w K mg) : mg "NotFlip" = some (.ref (He.ga K "NotFlip")) := c.gl (c.told.fact 32 (f := fHe (.glo "NotFlip")) rfl)
theorem g_break_of (c : Cz P w K mg) : mg "break_of" = some (.ref (He.ga K "break_of")) := c.gl (c.told.fact 33 (f := fHe (.glo "break_of")) rfl)
theorem f_sum (c : Cz P w K mg) : mg "sum" = none := c.fr (c.told.fact 34 (f := fHe (.free "sum")) rfl)
theorem g__law_flip_told (c : Cz P w K mg) : mg "_law_flip_told" = some (.ref (He.ga K "_law_flip_told")) := c.gl (c.told.fact 35 (f := fHe (.glo "_law_flip_told")) rfl)
theorem g_keeps (c : Cz P w K mg) : mg "keeps" = some (.ref (He.ga K "keeps")) := c.gl (c.told.fact 36 (f := fHe (.glo "keeps")) rfl)
theorem g__law_take (c : Cz P w K mg) : mg "_law_take" = some (.ref (He.ga K "_law_take")) := c.gl (c.told.fact 37 (f := fHe (.glo "_law_take")) rfl)
theorem g__law_lots (c : Cz P w K mg) : mg "_law_lots" = some (.ref (He.ga K "_law_lots")) := c.gl (c.told.fact 38 (f := fHe (.glo "_law_lots")) rfl)
theorem g__law_least_break (c : Cz P w K mg) : mg "_law_least_break" = some (.ref (He.ga K "_law_least_break")) := c.gl (c.told.fact 39 (f := fHe (.glo "_law_least_break")) rfl)
theorem g__law_member (c : Cz P w K mg) : mg "_law_member" = some (.ref (He.ga K "_law_member")) := c.gl (c.told.fact 40 (f := fHe (.glo "_law_member")) rfl)
theorem g__law_other_levels (c : Cz P w K mg) : mg "_law_other_levels" = some (.ref (He.ga K "_law_other_levels")) := c.gl (c.told.fact 41 (f := fHe (.glo "_law_other_levels")) rfl)
theorem g__law_count_good (c : Cz P w K mg) : mg "_law_count_good" = some (.ref (He.ga K "_law_count_good")) := c.gl (c.told.fact 42 (f := fHe (.glo "_law_count_good")) rfl)
theorem g__law_flips_good (c : Cz P w K mg) : mg "_law_flips_good" = some (.ref (He.ga K "_law_flips_good")) := c.gl (c.told.fact 43 (f := fHe (.glo "_law_flips_good")) rfl)
theorem g__law_draws (c : Cz P w K mg) : mg "_law_draws" = some (.ref (He.ga K "_law_draws")) := c.gl (c.told.fact 44 (f := fHe (.glo "_law_draws")) rfl)
theorem cl_Marks (c : Cz P w K mg) : Cls K (He.ga K "Marks") := He.cls_ok (c.told.fact 45 (f := fHe (.cls "Marks")) rfl)
theorem cl_Family (c : Cz P w K mg) : Cls K (He.ga K "Family") := He.cls_ok (c.told.fact 46 (f := fHe (.cls "Family")) rfl)
theorem na_Marks_marked (c : Cz P w K mg) : NoAttr K (He.ga K "Marks") "marked" := He.noat_ok (c.told.fact 47 (f := fHe (.noat "Marks" "marked")) rfl)
theorem na_Family_marked (c : Cz P w K mg) : NoAttr K (He.ga K "Family") "marked" := He.noat_ok (c.told.fact 48 (f := fHe (.noat "Family" "marked")) rfl)
theorem fld_marked (c : Cz P w K mg) : Fld K ocs 122 := fun i h => by
  have z : i ∈ ([62, 100] : List Nat) := mem_cs h
  simp only [List.mem_cons, List.not_mem_nil, or_false] at z
  rcases z with rfl | rfl
  · exact ⟨cl_Marks c, na_Marks_marked c⟩
  · exact ⟨cl_Family c, na_Family_marked c⟩
theorem na_Marks_level (c : Cz P w K mg) : NoAttr K (He.ga K "Marks") "level" := He.noat_ok (c.told.fact 49 (f := fHe (.noat "Marks" "level")) rfl)
theorem na_Family_level (c : Cz P w K mg) : NoAttr K (He.ga K "Family") "level" := He.noat_ok (c.told.fact 50 (f := fHe (.noat "Family" "level")) rfl)
theorem fld_level (c : Cz P w K mg) : Fld K ocs 83 := fun i h => by
  have z : i ∈ ([62, 100] : List Nat) := mem_cs h
  simp only [List.mem_cons, List.not_mem_nil, or_false] at z
  rcases z with rfl | rfl
  · exact ⟨cl_Marks c, na_Marks_level c⟩
  · exact ⟨cl_Family c, na_Family_level c⟩
theorem na_Marks_size (c : Cz P w K mg) : NoAttr K (He.ga K "Marks") "size" := He.noat_ok (c.told.fact 51 (f := fHe (.noat "Marks" "size")) rfl)
theorem na_Family_size (c : Cz P w K mg) : NoAttr K (He.ga K "Family") "size" := He.noat_ok (c.told.fact 52 (f := fHe (.noat "Family" "size")) rfl)
theorem fld_size (c : Cz P w K mg) : Fld K ocs 53 := fun i h => by
  have z : i ∈ ([62, 100] : List Nat) := mem_cs h
  simp only [List.mem_cons, List.not_mem_nil, or_false] at z
  rcases z with rfl | rfl
  · exact ⟨cl_Marks c, na_Marks_size c⟩
  · exact ⟨cl_Family c, na_Family_size c⟩
theorem cv_Marks_WORD (c : Cz P w K mg) : ∃ u, Con K (He.ga K "Marks") "WORD" (.str "marks") u := He.conB_ok (c.told.fact 53 (f := fCon "Marks" "WORD" (.str "marks")) rfl)
theorem cv_Family_WORD (c : Cz P w K mg) : ∃ u, Con K (He.ga K "Family") "WORD" (.str "family") u := He.conB_ok (c.told.fact 54 (f := fCon "Family" "WORD" (.str "family")) rfl)

theorem exf_BadNumber (c : Cz P w K mg) : fEx "BadNumber" ["name"] K = true := (c.told.fact 55 (f := fEx "BadNumber" ["name"]) rfl)
theorem exf_BadLot (c : Cz P w K mg) : fEx "BadLot" ["place"] K = true := (c.told.fact 56 (f := fEx "BadLot" ["place"]) rfl)
theorem exf_BadLots (c : Cz P w K mg) : fEx "BadLots" ["place"] K = true := (c.told.fact 57 (f := fEx "BadLots" ["place"]) rfl)
theorem exm_BadNumber_BadLot (c : Cz P w K mg) : PySem.W.exmOne K (.ref (He.ga K "BadNumber")) (.ref (He.ga K "BadLot")) = some false := He.exm_ok (c.told.fact 58 (f := fHe (.exm "BadNumber" "BadLot" false)) rfl)
theorem exm_BadLot_BadLot (c : Cz P w K mg) : PySem.W.exmOne K (.ref (He.ga K "BadLot")) (.ref (He.ga K "BadLot")) = some true := He.exm_ok (c.told.fact 59 (f := fHe (.exm "BadLot" "BadLot" true)) rfl)
theorem exm_BadLots_BadLot (c : Cz P w K mg) : PySem.W.exmOne K (.ref (He.ga K "BadLots")) (.ref (He.ga K "BadLot")) = some false := He.exm_ok (c.told.fact 60 (f := fHe (.exm "BadLots" "BadLot" false)) rfl)
theorem exm_Broken_BadLot (c : Cz P w K mg) : PySem.W.exmOne K (.ref (He.ga K "Broken")) (.ref (He.ga K "BadLot")) = some false := He.exm_ok (c.told.fact 61 (f := fHe (.exm "Broken" "BadLot" false)) rfl)
theorem exm_NotFlip_BadLot (c : Cz P w K mg) : PySem.W.exmOne K (.ref (He.ga K "NotFlip")) (.ref (He.ga K "BadLot")) = some false := He.exm_ok (c.told.fact 62 (f := fHe (.exm "NotFlip" "BadLot" false)) rfl)
theorem exm_BadRow_BadLot (c : Cz P w K mg) : PySem.W.exmOne K (.ref (He.ga K "BadRow")) (.ref (He.ga K "BadLot")) = some false := He.exm_ok (c.told.fact 63 (f := fHe (.exm "BadRow" "BadLot" false)) rfl)
theorem exf_Broken (c : Cz P w K mg) : fEx "Broken" ["lots"] K = true := (c.told.fact 64 (f := fEx "Broken" ["lots"]) rfl)
theorem exf_BadRow (c : Cz P w K mg) : fEx "BadRow" ["place"] K = true := (c.told.fact 65 (f := fEx "BadRow" ["place"]) rfl)
theorem mkf_Marks (c : Cz P w K mg) : Mk K (He.ga K "Marks") (He.ma K (He.ga K "Marks") "__init__") := fMk_ok (c.told.fact 66 (f := fMk "Marks" "Marks") rfl)
theorem mkf_Family (c : Cz P w K mg) : Mk K (He.ga K "Family") (He.ma K (He.ga K "Family") "__init__") := fMk_ok (c.told.fact 67 (f := fMk "Family" "Family") rfl)
theorem exf_NotFlip (c : Cz P w K mg) : fEx "NotFlip" ["lots"] K = true := (c.told.fact 68 (f := fEx "NotFlip" ["lots"]) rfl)
theorem me_Marks_flipped (c : Cz P w K mg) : Meth K (He.ga K "Marks") "flipped" (He.ma K (He.ga K "Marks") "flipped") := fMeth_ok (c.told.fact 69 (f := fMeth "Marks" "flipped" "Marks") rfl)
theorem me_Family_flipped (c : Cz P w K mg) : Meth K (He.ga K "Family") "flipped" (He.ma K (He.ga K "Family") "flipped") := fMeth_ok (c.told.fact 70 (f := fMeth "Family" "flipped" "Family") rfl)
theorem xff_NotFlip_lots (c : Cz P w K mg) : L2.XfC K (He.ga K "NotFlip") ∧ PySem.W.findIn K (.ref (He.ga K "NotFlip")) "lots" = some none := fXf_ok (c.told.fact 71 (f := fXf "NotFlip" "lots") rfl)
theorem exm_BadNumber_NotFlip (c : Cz P w K mg) : PySem.W.exmOne K (.ref (He.ga K "BadNumber")) (.ref (He.ga K "NotFlip")) = some false := He.exm_ok (c.told.fact 72 (f := fHe (.exm "BadNumber" "NotFlip" false)) rfl)
theorem exm_BadLot_NotFlip (c : Cz P w K mg) : PySem.W.exmOne K (.ref (He.ga K "BadLot")) (.ref (He.ga K "NotFlip")) = some false := He.exm_ok (c.told.fact 73 (f := fHe (.exm "BadLot" "NotFlip" false)) rfl)
theorem exm_BadLots_NotFlip (c : Cz P w K mg) : PySem.W.exmOne K (.ref (He.ga K "BadLots")) (.ref (He.ga K "NotFlip")) = some false := He.exm_ok (c.told.fact 74 (f := fHe (.exm "BadLots" "NotFlip" false)) rfl)
theorem exm_Broken_NotFlip (c : Cz P w K mg) : PySem.W.exmOne K (.ref (He.ga K "Broken")) (.ref (He.ga K "NotFlip")) = some false := He.exm_ok (c.told.fact 75 (f := fHe (.exm "Broken" "NotFlip" false)) rfl)
theorem exm_NotFlip_NotFlip (c : Cz P w K mg) : PySem.W.exmOne K (.ref (He.ga K "NotFlip")) (.ref (He.ga K "NotFlip")) = some true := He.exm_ok (c.told.fact 76 (f := fHe (.exm "NotFlip" "NotFlip" true)) rfl)
theorem exm_BadRow_NotFlip (c : Cz P w K mg) : PySem.W.exmOne K (.ref (He.ga K "BadRow")) (.ref (He.ga K "NotFlip")) = some false := He.exm_ok (c.told.fact 77 (f := fHe (.exm "BadRow" "NotFlip" false)) rfl)
theorem xff_BadLot_place (c : Cz P w K mg) : L2.XfC K (He.ga K "BadLot") ∧ PySem.W.findIn K (.ref (He.ga K "BadLot")) "place" = some none := fXf_ok (c.told.fact 78 (f := fXf "BadLot" "place") rfl)
theorem isf_Marks (c : Cz P w K mg) : IsiC K (He.ga K "Marks") := fIsi_ok (c.told.fact 79 (f := fIsi "Marks") rfl)
theorem kit_Marks_Marks (c : Cz P w K mg) : PySem.W.kitOne K (.ref (He.ga K "Marks")) (.ref (He.ga K "Marks")) = some true := of_decide_eq_true (c.told.fact 80 (f := fKit "Marks" "Marks" true) rfl)
theorem isf_Family (c : Cz P w K mg) : IsiC K (He.ga K "Family") := fIsi_ok (c.told.fact 81 (f := fIsi "Family") rfl)
theorem kit_Family_Marks (c : Cz P w K mg) : PySem.W.kitOne K (.ref (He.ga K "Family")) (.ref (He.ga K "Marks")) = some true := of_decide_eq_true (c.told.fact 82 (f := fKit "Family" "Marks" true) rfl)
theorem cmf_Family_of_row (c : Cz P w K mg) : ClX.CRead K (He.ga K "Family") (.type "type") ∧ ClX.CMet K (He.ga K "Family") (.type "type") "of_row" (He.ma K (He.ga K "Family") "of_row") (pCm "Family" "of_row" K) := fCm_ok (c.told.fact 83 (f := fCm "Family" "of_row") rfl)
theorem cmf_Family_full (c : Cz P w K mg) : ClX.CRead K (He.ga K "Family") (.type "type") ∧ ClX.CMet K (He.ga K "Family") (.type "type") "full" (He.ma K (He.ga K "Family") "full") (pCm "Family" "full" K) := fCm_ok (c.told.fact 84 (f := fCm "Family" "full") rfl)
theorem cmf_Family_none (c : Cz P w K mg) : ClX.CRead K (He.ga K "Family") (.type "type") ∧ ClX.CMet K (He.ga K "Family") (.type "type") "none" (He.ma K (He.ga K "Family") "none") (pCm "Family" "none" K) := fCm_ok (c.told.fact 85 (f := fCm "Family" "none") rfl)
theorem kit_Marks_Family (c : Cz P w K mg) : PySem.W.kitOne K (.ref (He.ga K "Marks")) (.ref (He.ga K "Family")) = some false := of_decide_eq_true (c.told.fact 86 (f := fKit "Marks" "Family" false) rfl)
theorem kit_Family_Family (c : Cz P w K mg) : PySem.W.kitOne K (.ref (He.ga K "Family")) (.ref (He.ga K "Family")) = some true := of_decide_eq_true (c.told.fact 87 (f := fKit "Family" "Family" true) rfl)
theorem cmf_Marks_full (c : Cz P w K mg) : ClX.CRead K (He.ga K "Marks") (.type "type") ∧ ClX.CMet K (He.ga K "Marks") (.type "type") "full" (He.ma K (He.ga K "Marks") "full") (pCm "Marks" "full" K) := fCm_ok (c.told.fact 88 (f := fCm "Marks" "full") rfl)
theorem cmf_Marks_of_row (c : Cz P w K mg) : ClX.CRead K (He.ga K "Marks") (.type "type") ∧ ClX.CMet K (He.ga K "Marks") (.type "type") "of_row" (He.ma K (He.ga K "Marks") "of_row") (pCm "Marks" "of_row" K) := fCm_ok (c.told.fact 89 (f := fCm "Marks" "of_row") rfl)
theorem me_Marks_len (c : Cz P w K mg) : Meth K (He.ga K "Marks") "__len__" (He.ma K (He.ga K "Marks") "__len__") := fMeth_ok (c.told.fact 90 (f := fMeth "Marks" "__len__" "Marks") rfl)
theorem me_Family_len (c : Cz P w K mg) : Meth K (He.ga K "Family") "__len__" (He.ma K (He.ga K "Marks") "__len__") := fMeth_ok (c.told.fact 91 (f := fMeth "Family" "__len__" "Marks") rfl)
theorem me_Marks_eq (c : Cz P w K mg) : Meth K (He.ga K "Marks") "__eq__" (He.ma K (He.ga K "Marks") "__eq__") := fMeth_ok (c.told.fact 92 (f := fMeth "Marks" "__eq__" "Marks") rfl)
theorem ne_Marks (c : Cz P w K mg) : PySem.W.findIn K (.ref (He.ga K "Marks")) "__ne__" = some (some (.builtin "object.__ne__")) ∧ PySem.W.mroIn K (He.ga K "Marks") (.type "object") = some true := fNe_ok (c.told.fact 93 (f := fNe "Marks") rfl)
theorem nf_Marks_Marks (c : Cz P w K mg) : PySem.W.notFirst K (He.ga K "Marks") (.ref (He.ga K "Marks")) = true := (c.told.fact 94 (f := fNotFirst "Marks" "Marks") rfl)
theorem me_Family_eq (c : Cz P w K mg) : Meth K (He.ga K "Family") "__eq__" (He.ma K (He.ga K "Marks") "__eq__") := fMeth_ok (c.told.fact 95 (f := fMeth "Family" "__eq__" "Marks") rfl)
theorem ne_Family (c : Cz P w K mg) : PySem.W.findIn K (.ref (He.ga K "Family")) "__ne__" = some (some (.builtin "object.__ne__")) ∧ PySem.W.mroIn K (He.ga K "Family") (.type "object") = some true := fNe_ok (c.told.fact 96 (f := fNe "Family") rfl)
theorem nf_Family_Marks (c : Cz P w K mg) : PySem.W.notFirst K (He.ga K "Family") (.ref (He.ga K "Marks")) = true := (c.told.fact 97 (f := fNotFirst "Family" "Marks") rfl)
theorem nf_Family_Family (c : Cz P w K mg) : PySem.W.notFirst K (He.ga K "Family") (.ref (He.ga K "Family")) = true := (c.told.fact 98 (f := fNotFirst "Family" "Family") rfl)
theorem me_Marks_xor (c : Cz P w K mg) : Meth K (He.ga K "Marks") "__xor__" (He.ma K (He.ga K "Marks") "__xor__") := fMeth_ok (c.told.fact 99 (f := fMeth "Marks" "__xor__" "Marks") rfl)
theorem sf_Marks (c : Cz P w K mg) : PySem.W.selfFirst K (He.ga K "Marks") = true := (c.told.fact 100 (f := fSelfFirst "Marks") rfl)
theorem me_Family_xor (c : Cz P w K mg) : Meth K (He.ga K "Family") "__xor__" (He.ma K (He.ga K "Marks") "__xor__") := fMeth_ok (c.told.fact 101 (f := fMeth "Family" "__xor__" "Marks") rfl)
theorem sf_Family (c : Cz P w K mg) : PySem.W.selfFirst K (He.ga K "Family") = true := (c.told.fact 102 (f := fSelfFirst "Family") rfl)
theorem dt_Marks___init__ (c : Cz P w K mg) : ∀ B H, Rel ⟨K, P, w, []⟩ B H (.tup []) (.ref (He.dflAt ("Marks", some "__init__") 0 K)) := fun B H => fTup0_ok (c.told.fact 103 (f := fTup0 ("Marks", some "__init__") 0) rfl) B H
theorem supf_Family (c : Cz P w K mg) : fSup "Family" "Marks" "/claim/cut.py" K = true := (c.told.fact 104 (f := fSup "Family" "Marks" "/claim/cut.py") rfl)
theorem kp__law_draws (c : Cz P w K mg) : PySem.W.keepIn K (.ref (He.ga K "_law_draws")) = true := (Df.open_ (c.told.df 0 (d := d__law_draws) rfl)).1
theorem kp__law_lots (c : Cz P w K mg) : PySem.W.keepIn K (.ref (He.ga K "_law_lots")) = true := (Df.open_ (c.told.df 1 (d := d__law_lots) rfl)).1
theorem kp__law_take (c : Cz P w K mg) : PySem.W.keepIn K (.ref (He.ga K "_law_take")) = true := (Df.open_ (c.told.df 2 (d := d__law_take) rfl)).1
theorem kp_BadNumber___init__ (c : Cz P w K mg) : PySem.W.keepIn K (.ref (He.ma K (He.ga K "BadNumber") "__init__")) = true := (Df.open_ (c.told.df 3 (d := d_BadNumber___init__) rfl)).1
theorem kp_is_int (c : Cz P w K mg) : PySem.W.keepIn K (.ref (He.ga K "is_int")) = true := (Df.open_ (c.told.df 4 (d := d_is_int) rfl)).1
theorem kp_check_number (c : Cz P w K mg) : PySem.W.keepIn K (.ref (He.ga K "check_number")) = true := (Df.open_ (c.told.df 5 (d := d_check_number) rfl)).1
theorem kp__check_shape (c : Cz P w K mg) : PySem.W.keepIn K (.ref (He.ga K "_check_shape")) = true := (Df.open_ (c.told.df 6 (d := d__check_shape) rfl)).1
theorem kp_BadLots___init__ (c : Cz P w K mg) : PySem.W.keepIn K (.ref (He.ma K (He.ga K "BadLots") "__init__")) = true := (Df.open_ (c.told.df 7 (d := d_BadLots___init__) rfl)).1
theorem kp__first_wrong (c : Cz P w K mg) : PySem.W.keepIn K (.ref (He.ga K "_first_wrong")) = true := (Df.open_ (c.told.df 8 (d := d__first_wrong) rfl)).1
theorem kp_BadLot___init__ (c : Cz P w K mg) : PySem.W.keepIn K (.ref (He.ma K (He.ga K "BadLot") "__init__")) = true := (Df.open_ (c.told.df 9 (d := d_BadLot___init__) rfl)).1
theorem kp__check_things (c : Cz P w K mg) : PySem.W.keepIn K (.ref (He.ga K "_check_things")) = true := (Df.open_ (c.told.df 10 (d := d__check_things) rfl)).1
theorem kp_check_lots (c : Cz P w K mg) : PySem.W.keepIn K (.ref (He.ga K "check_lots")) = true := (Df.open_ (c.told.df 11 (d := d_check_lots) rfl)).1
theorem kp_Marks___init__ (c : Cz P w K mg) : PySem.W.keepIn K (.ref (He.ma K (He.ga K "Marks") "__init__")) = true := (Df.open_ (c.told.df 12 (d := d_Marks___init__) rfl)).1
theorem kp__lots (c : Cz P w K mg) : PySem.W.keepIn K (.ref (He.ga K "_lots")) = true := (Df.open_ (c.told.df 13 (d := d__lots) rfl)).1
theorem kp__packet (c : Cz P w K mg) : PySem.W.keepIn K (.ref (He.ga K "_packet")) = true := (Df.open_ (c.told.df 14 (d := d__packet) rfl)).1
theorem kp__row_break (c : Cz P w K mg) : PySem.W.keepIn K (.ref (He.ga K "_row_break")) = true := (Df.open_ (c.told.df 15 (d := d__row_break) rfl)).1
theorem kp__least_break (c : Cz P w K mg) : PySem.W.keepIn K (.ref (He.ga K "_least_break")) = true := (Df.open_ (c.told.df 16 (d := d__least_break) rfl)).1
theorem kp_Broken___init__ (c : Cz P w K mg) : PySem.W.keepIn K (.ref (He.ma K (He.ga K "Broken") "__init__")) = true := (Df.open_ (c.told.df 17 (d := d_Broken___init__) rfl)).1
theorem kp_Family___init__ (c : Cz P w K mg) : PySem.W.keepIn K (.ref (He.ma K (He.ga K "Family") "__init__")) = true := (Df.open_ (c.told.df 18 (d := d_Family___init__) rfl)).1
theorem kp_BadRow___init__ (c : Cz P w K mg) : PySem.W.keepIn K (.ref (He.ma K (He.ga K "BadRow") "__init__")) = true := (Df.open_ (c.told.df 19 (d := d_BadRow___init__) rfl)).1
theorem kp__lots_by_row (c : Cz P w K mg) : PySem.W.keepIn K (.ref (He.ga K "_lots_by_row")) = true := (Df.open_ (c.told.df 20 (d := d__lots_by_row) rfl)).1
theorem kp_Marks_of_row (c : Cz P w K mg) : PySem.W.keepIn K (.ref (pCm "Marks" "of_row" K)) = true := (Df.open_ (c.told.df 21 (d := d_Marks_of_row) rfl)).1
theorem kp_Family_of_row (c : Cz P w K mg) : PySem.W.keepIn K (.ref (pCm "Family" "of_row" K)) = true := (Df.open_ (c.told.df 22 (d := d_Family_of_row) rfl)).1
theorem kp_Family_none (c : Cz P w K mg) : PySem.W.keepIn K (.ref (pCm "Family" "none" K)) = true := (Df.open_ (c.told.df 23 (d := d_Family_none) rfl)).1
theorem kp_Family_full (c : Cz P w K mg) : PySem.W.keepIn K (.ref (pCm "Family" "full" K)) = true := (Df.open_ (c.told.df 24 (d := d_Family_full) rfl)).1
theorem kp_check_lot (c : Cz P w K mg) : PySem.W.keepIn K (.ref (He.ga K "check_lot")) = true := (Df.open_ (c.told.df 25 (d := d_check_lot) rfl)).1
theorem kp__changed (c : Cz P w K mg) : PySem.W.keepIn K (.ref (He.ga K "_changed")) = true := (Df.open_ (c.told.df 26 (d := d__changed) rfl)).1
theorem kp_Marks_flipped (c : Cz P w K mg) : PySem.W.keepIn K (.ref (He.ma K (He.ga K "Marks") "flipped")) = true := (Df.open_ (c.told.df 27 (d := d_Marks_flipped) rfl)).1
theorem kp_NotFlip___init__ (c : Cz P w K mg) : PySem.W.keepIn K (.ref (He.ma K (He.ga K "NotFlip") "__init__")) = true := (Df.open_ (c.told.df 28 (d := d_NotFlip___init__) rfl)).1
theorem kp_Family_flipped (c : Cz P w K mg) : PySem.W.keepIn K (.ref (He.ma K (He.ga K "Family") "flipped")) = true := (Df.open_ (c.told.df 29 (d := d_Family_flipped) rfl)).1
theorem kp__law_flip_told (c : Cz P w K mg) : PySem.W.keepIn K (.ref (He.ga K "_law_flip_told")) = true := (Df.open_ (c.told.df 30 (d := d__law_flip_told) rfl)).1
theorem kp_break_of (c : Cz P w K mg) : PySem.W.keepIn K (.ref (He.ga K "break_of")) = true := (Df.open_ (c.told.df 31 (d := d_break_of) rfl)).1
theorem kp_keeps (c : Cz P w K mg) : PySem.W.keepIn K (.ref (He.ga K "keeps")) = true := (Df.open_ (c.told.df 32 (d := d_keeps) rfl)).1
theorem kp_Marks___eq__ (c : Cz P w K mg) : PySem.W.keepIn K (.ref (He.ma K (He.ga K "Marks") "__eq__")) = true := (Df.open_ (c.told.df 33 (d := d_Marks___eq__) rfl)).1
theorem kp_Marks_full (c : Cz P w K mg) : PySem.W.keepIn K (.ref (pCm "Marks" "full" K)) = true := (Df.open_ (c.told.df 34 (d := d_Marks_full) rfl)).1
theorem kp_Marks___len__ (c : Cz P w K mg) : PySem.W.keepIn K (.ref (He.ma K (He.ga K "Marks") "__len__")) = true := (Df.open_ (c.told.df 35 (d := d_Marks___len__) rfl)).1
theorem kp__law_other_levels (c : Cz P w K mg) : PySem.W.keepIn K (.ref (He.ga K "_law_other_levels")) = true := (Df.open_ (c.told.df 36 (d := d__law_other_levels) rfl)).1
theorem kp__law_member (c : Cz P w K mg) : PySem.W.keepIn K (.ref (He.ga K "_law_member")) = true := (Df.open_ (c.told.df 37 (d := d__law_member) rfl)).1
theorem kp_Marks___xor__ (c : Cz P w K mg) : PySem.W.keepIn K (.ref (He.ma K (He.ga K "Marks") "__xor__")) = true := (Df.open_ (c.told.df 38 (d := d_Marks___xor__) rfl)).1
theorem kp__law_least_break (c : Cz P w K mg) : PySem.W.keepIn K (.ref (He.ga K "_law_least_break")) = true := (Df.open_ (c.told.df 39 (d := d__law_least_break) rfl)).1
theorem kp__law_flips_good (c : Cz P w K mg) : PySem.W.keepIn K (.ref (He.ga K "_law_flips_good")) = true := (Df.open_ (c.told.df 40 (d := d__law_flips_good) rfl)).1
theorem kp__law_count_good (c : Cz P w K mg) : PySem.W.keepIn K (.ref (He.ga K "_law_count_good")) = true := (Df.open_ (c.told.df 41 (d := d__law_count_good) rfl)).1
theorem kp_law (c : Cz P w K mg) : PySem.W.keepIn K (.ref (He.ga K "law")) = true := (Df.open_ (c.told.df 42 (d := d_law) rfl)).1
theorem ex_BadNumber {X : Cx} (c : Cz X.prog X.w X.K X.mg) : ExOk X 176 [50] := by
  obtain ⟨fd, F⟩ := Df.fun_ (c.told.df 3 (d := d_BadNumber___init__) rfl) rfl
  refine ⟨_, fEx_ok (fs := ["name"]) (exf_BadNumber c) F ⟨_, _, _, _, _, rfl, rfl⟩ ?_ fun doc pm an cdv ct kV u vs hl => match vs, hl with | [_], _ => rfl⟩
  exact ⟨fun L a cd x vs hl => match vs, hl with | [v0], _ => fun p hp => by (simp at hp; rcases hp with rfl | rfl <;> rfl), fun L a cd f hf => by (simp at hf; rcases hf with rfl | rfl <;> rfl), fun x vs hl => match vs, hl with | [_], _ => rfl, rfl, rfl, rfl, by decide, by decide, by decide⟩
theorem ex_BadLot {X : Cx} (c : Cz X.prog X.w X.K X.mg) : ExOk X 96 [88] := by
  obtain ⟨fd, F⟩ := Df.fun_ (c.told.df 9 (d := d_BadLot___init__) rfl) rfl
  refine ⟨_, fEx_ok (fs := ["place"]) (exf_BadLot c) F ⟨_, _, _, _, _, rfl, rfl⟩ ?_ fun doc pm an cdv ct kV u vs hl => match vs, hl with | [_], _ => rfl⟩
  exact ⟨fun L a cd x vs hl => match vs, hl with | [v0], _ => fun p hp => by (simp at hp; rcases hp with rfl | rfl <;> rfl), fun L a cd f hf => by (simp at hf; rcases hf with rfl | rfl <;> rfl), fun x vs hl => match vs, hl with | [_], _ => rfl, rfl, rfl, rfl, by decide, by decide, by decide⟩
theorem ex_BadLots {X : Cx} (c : Cz X.prog X.w X.K X.mg) : ExOk X 132 [88] := by
  obtain ⟨fd, F⟩ := Df.fun_ (c.told.df 7 (d := d_BadLots___init__) rfl) rfl
  refine ⟨_, fEx_ok (fs := ["place"]) (exf_BadLots c) F ⟨_, _, _, _, _, rfl, rfl⟩ ?_ fun doc pm an cdv ct kV u vs hl => match vs, hl with | [_], _ => rfl⟩
  exact ⟨fun L a cd x vs hl => match vs, hl with | [v0], _ => fun p hp => by (simp at hp; rcases hp with rfl | rfl <;> rfl), fun L a cd f hf => by (simp at hf; rcases hf with rfl | rfl <;> rfl), fun x vs hl => match vs, hl with | [_], _ => rfl, rfl, rfl, rfl, by decide, by decide, by decide⟩
theorem hdn_BadLot {X : Cx} (c : Cz X.prog X.w X.K X.mg) (hg : Gl X "BadLot") : Names X "BadLot" (.ref (He.ga X.K "BadLot")) := ⟨hg, by decide, .inl (g_BadLot c)⟩
theorem hdy_BadLot {X : Cx} (c : Cz X.prog X.w X.K X.mg) : ∀ i : Nat, ([96] : List Nat).contains i = true → PySem.W.exmOne X.K (.ref (He.ga X.K (nm i))) (.ref (He.ga X.K "BadLot")) = some true := fun i h => by
  have z : i ∈ ([96] : List Nat) := mem_cs h
  simp only [List.mem_cons, List.not_mem_nil, or_false] at z
  rcases z with rfl
  · exact exm_BadLot_BadLot c
theorem hdno_BadLot {X : Cx} (c : Cz X.prog X.w X.K X.mg) : ∀ i : Nat, ([176, 132, 99, 136, 97] : List Nat).contains i = true → PySem.W.exmOne X.K (.ref (He.ga X.K (nm i))) (.ref (He.ga X.K "BadLot")) = some false := fun i h => by
  have z : i ∈ ([176, 132, 99, 136, 97] : List Nat) := mem_cs h
  simp only [List.mem_cons, List.not_mem_nil, or_false] at z
  rcases z with rfl | rfl | rfl | rfl | rfl
  · exact exm_BadNumber_BadLot c
  · exact exm_BadLots_BadLot c
  · exact exm_Broken_BadLot c
  · exact exm_NotFlip_BadLot c
  · exact exm_BadRow_BadLot c
theorem ex_Broken {X : Cx} (c : Cz X.prog X.w X.K X.mg) : ExOk X 99 [47] := by
  obtain ⟨fd, F⟩ := Df.fun_ (c.told.df 17 (d := d_Broken___init__) rfl) rfl
  refine ⟨_, fEx_ok (fs := ["lots"]) (exf_Broken c) F ⟨_, _, _, _, _, rfl, rfl⟩ ?_ fun doc pm an cdv ct kV u vs hl => match vs, hl with | [_], _ => rfl⟩
  exact ⟨fun L a cd x vs hl => match vs, hl with | [v0], _ => fun p hp => by (simp at hp; rcases hp with rfl | rfl <;> rfl), fun L a cd f hf => by (simp at hf; rcases hf with rfl | rfl <;> rfl), fun x vs hl => match vs, hl with | [_], _ => rfl, rfl, rfl, rfl, by decide, by decide, by decide⟩
theorem ex_BadRow {X : Cx} (c : Cz X.prog X.w X.K X.mg) : ExOk X 97 [88] := by
  obtain ⟨fd, F⟩ := Df.fun_ (c.told.df 19 (d := d_BadRow___init__) rfl) rfl
  refine ⟨_, fEx_ok (fs := ["place"]) (exf_BadRow c) F ⟨_, _, _, _, _, rfl, rfl⟩ ?_ fun doc pm an cdv ct kV u vs hl => match vs, hl with | [_], _ => rfl⟩
  exact ⟨fun L a cd x vs hl => match vs, hl with | [v0], _ => fun p hp => by (simp at hp; rcases hp with rfl | rfl <;> rfl), fun L a cd f hf => by (simp at hf; rcases hf with rfl | rfl <;> rfl), fun x vs hl => match vs, hl with | [_], _ => rfl, rfl, rfl, rfl, by decide, by decide, by decide⟩
theorem ex_NotFlip {X : Cx} (c : Cz X.prog X.w X.K X.mg) : ExOk X 136 [47] := by
  obtain ⟨fd, F⟩ := Df.fun_ (c.told.df 28 (d := d_NotFlip___init__) rfl) rfl
  refine ⟨_, fEx_ok (fs := ["lots"]) (exf_NotFlip c) F ⟨_, _, _, _, _, rfl, rfl⟩ ?_ fun doc pm an cdv ct kV u vs hl => match vs, hl with | [_], _ => rfl⟩
  exact ⟨fun L a cd x vs hl => match vs, hl with | [v0], _ => fun p hp => by (simp at hp; rcases hp with rfl | rfl <;> rfl), fun L a cd f hf => by (simp at hf; rcases hf with rfl | rfl <;> rfl), fun x vs hl => match vs, hl with | [_], _ => rfl, rfl, rfl, rfl, by decide, by decide, by decide⟩
theorem xf_NotFlip_lots {X : Cx} (c : Cz X.prog X.w X.K X.mg) : XfOk X [136] 47 := fun i h => by
  have z : i ∈ ([136] : List Nat) := mem_cs h
  simp only [List.mem_cons, List.not_mem_nil, or_false] at z
  rcases z with rfl
  · exact xff_NotFlip_lots c
theorem hdn_NotFlip {X : Cx} (c : Cz X.prog X.w X.K X.mg) (hg : Gl X "NotFlip") : Names X "NotFlip" (.ref (He.ga X.K "NotFlip")) := ⟨hg, by decide, .inl (g_NotFlip c)⟩
theorem hdy_NotFlip {X : Cx} (c : Cz X.prog X.w X.K X.mg) : ∀ i : Nat, ([136] : List Nat).contains i = true → PySem.W.exmOne X.K (.ref (He.ga X.K (nm i))) (.ref (He.ga X.K "NotFlip")) = some true := fun i h => by
  have z : i ∈ ([136] : List Nat) := mem_cs h
  simp only [List.mem_cons, List.not_mem_nil, or_false] at z
  rcases z with rfl
  · exact exm_NotFlip_NotFlip c
theorem hdno_NotFlip {X : Cx} (c : Cz X.prog X.w X.K X.mg) : ∀ i : Nat, ([176, 96, 132, 99, 97] : List Nat).contains i = true → PySem.W.exmOne X.K (.ref (He.ga X.K (nm i))) (.ref (He.ga X.K "NotFlip")) = some false := fun i h => by
  have z : i ∈ ([176, 96, 132, 99, 97] : List Nat) := mem_cs h
  simp only [List.mem_cons, List.not_mem_nil, or_false] at z
  rcases z with rfl | rfl | rfl | rfl | rfl
  · exact exm_BadNumber_NotFlip c
  · exact exm_BadLot_NotFlip c
  · exact exm_BadLots_NotFlip c
  · exact exm_Broken_NotFlip c
  · exact exm_BadRow_NotFlip c
theorem xf_BadLot_place {X : Cx} (c : Cz X.prog X.w X.K X.mg) : XfOk X [96] 88 := fun i h => by
  have z : i ∈ ([96] : List Nat) := mem_cs h
  simp only [List.mem_cons, List.not_mem_nil, or_false] at z
  rcases z with rfl
  · exact xff_BadLot_place c
theorem isok_Marks {X : Cx} (c : Cz X.prog X.w X.K X.mg) : IsiOk X is_Marks 62 := fun p h => by
  rcases List.mem_cons.mp h with rfl | h
  · exact ⟨isf_Marks c, kit_Marks_Marks c⟩
  rcases List.mem_cons.mp h with rfl | h
  · exact ⟨isf_Family c, kit_Family_Marks c⟩
  · cases h
theorem isok_Family {X : Cx} (c : Cz X.prog X.w X.K X.mg) : IsiOk X is_Family 100 := fun p h => by
  rcases List.mem_cons.mp h with rfl | h
  · exact ⟨isf_Marks c, kit_Marks_Family c⟩
  rcases List.mem_cons.mp h with rfl | h
  · exact ⟨isf_Family c, kit_Family_Family c⟩
  · cases h
end
end KX

set_option Elab.async false
set_option linter.all false
set_option maxRecDepth 100000
set_option maxHeartbeats 0
namespace KX
open PySem PySem.Spec PyProof.Rows L2 DL
def nms0 : List PySem.Str := ["comb", "_wall", "__name__", "PacketsError", "BadNumber", "BadLot", "BadLots", "OtherShape", "Broken", "NotFlip", "BadRow", "MOST_THINGS", "is_int", "check_number", "choose", "_check_shape", "_first_wrong", "_check_things", "check_lot", "check_lots", "_lots", "_packet", "_row_break", "_least_break", "_others", "_changed", "_lots_by_row", "Marks", "Family", "break_of"]
def nms1 : List PySem.Str := ["keeps", "_law_draws", "_law_take", "_law_lots", "_law_member", "_law_least_break", "_law_flip_told", "_law_flips_good", "_law_count_good", "_law_other_levels"]
def tops : List PySem.Str := nms0 ++ nms1
abbrev row : PySem.W.OpenRow := PySem.W.OpenLaw.row PySem.Challenge.rw_packetmarks_k06_ring_of_almost_all_thing
abbrev hk : PySem.W.Hook := hookM 6 fxs fns
def ob (s : PySem.W.SharedT) : Lk := lookM 6 fxs fns (HandSHeadRun.getT s)
theorem ob_eq (s : PySem.W.SharedT) : ob s = hk.obs s.abs := lookM_eq (HandSHeadRun.getT_eq s)
theorem run (w : World) : HandSHeadRun.RunEqI row (PySem.W.view row.prog [0, 45]) hk ob 8000 tops w := by
  unfold HandSHeadRun.RunEqI
  kernel_rfl
end KX

set_option Elab.async false
set_option linter.all false
set_option maxRecDepth 100000
set_option maxHeartbeats 4000000
namespace KX
open PySem PySem.Spec PyProof.Rows L2 DL
section
variable {P : Program} {w : World} {K : PySem.W.Frag} {mg : Str → Option Value} {base : Heap}
theorem con_WORD {X : Cx} (c : Cz X.prog X.w X.K X.mg) : CCon X cc_WORD 35 := by
  intro p hp
  rcases List.mem_cons.mp hp with rfl | hp
  · exact ⟨cl_Marks c, _, (cv_Marks_WORD c).choose, (cv_Marks_WORD c).choose_spec, fun _ _ => rfl⟩
  rcases List.mem_cons.mp hp with rfl | hp
  · exact ⟨cl_Family c, _, (cv_Family_WORD c).choose, (cv_Family_WORD c).choose_spec, fun _ _ => rfl⟩
  · cases hp
theorem ok__law_draws {fd : FuncData} (F : FunD K d__law_draws.name d__law_draws.qual d__law_draws.params d__law_draws.body d__law_draws.scope (d__law_draws.dfl.map (He.Dv.v K)) [] (He.ga K "_law_draws") fd) (c : Cz P w K mg) : FnOk P w K mg base (L2.CX P w) 2 (He.ga K "_law_draws") fd ["_law_script"] (SpD ⟨K, P, w, []⟩ 1 none true m__law_draws) := by
  refine fnD (N := n__law_draws) (ps := ["_law_script"]) (k := 1) (ms := ⟨[1], []⟩) (io := none) (fr := true) (g := b__law_draws) F (fscB_ok (by decide +kernel)) (msB_ok (by decide)) (by decide) ?_
  intro cdv A outer s H E hr
  exact (dss_cons (ds_setF 1 (df_lst da_nil) n_nd__law_draws)
  (dss_cons (ds_set 2 de_int n_nd__law_draws)
  (dss_cons (ds_for 3 (di_rng1 rfl (f_range c) (de_callB (call_min2 rfl) pu_min2 rfl (f_min c) (by first | rfl | kernel_rfl) (da_cons (de_call1B call_len_seq pu_len rfl (f_len c) (by first | rfl | kernel_rfl) (DE.dk (de_var 0))) (da_cons de_int da_nil)))) (dss_cons (ds_set 4 (de_call1T call_int1 pu_int rfl (f_int c) (by first | rfl | kernel_rfl) (DE.dk (de_ix (de_var 0) (DE.dk (de_var 3))))) n_nd__law_draws)
  (dss_cons (ds_if (dt_cmp (op_ltD hr.units) pu_lt (de_var 4) (DE.dk de_int))
  (dss_one (ds_set 4 (de_op op_sub pu_sub de_int (DE.dk (de_op op_mul pu_mulI de_int (DE.dk (de_var 4))))) n_nd__law_draws))
  dss_nil)
  (dss_one (ds_if (dt_cmp op_ge pu_geI (de_var 4) (DE.dk (de_op op_pow pu_pow de_int (DE.dk de_int))))
  (dss_one (ds_for 5 (di_rng1 rfl (f_range c) de_int) (dss_one (ds_if (dt_cmp op_gt pu_gtI (de_var 4) (DE.dk de_int))
  (dss_cons (ds_expr (de_append 1 (de_op op_modN pu_mod (de_call1T call_int1 pu_int rfl (f_int c) (by first | rfl | kernel_rfl) (DE.dk (de_var 4))) (DE.dk de_int))))
  (dss_one (ds_set 4 (de_op op_fdivN pu_fdiv (de_var 4) (DE.dk de_int)) n_nd__law_draws)))
  dss_nil)) ownsD rfl n_nd__law_draws))
  (dss_cons (ds_set 2 (de_op op_modN pu_mod (de_call1T call_int1 pu_int rfl (f_int c) (by first | rfl | kernel_rfl) (DE.dk (de_op op_addA pu_add (de_op op_addA pu_add (de_op op_mul pu_mulI (de_var 2) (DE.dk de_int)) (DE.dk (de_op op_mul pu_mulI (de_var 4) (DE.dk de_int)))) (DE.dk (de_var 3))))) (DE.dk de_int)) n_nd__law_draws)
  (dss_one (ds_for 5 (di_rng1 rfl (f_range c) de_int) (dss_cons (ds_set 2 (de_op op_modN pu_mod (de_call1T call_int1 pu_int rfl (f_int c) (by first | rfl | kernel_rfl) (DE.dk (de_op op_addA pu_add (de_op op_addA pu_add (de_op op_addA pu_add (de_op op_mul pu_mulI (de_var 2) (DE.dk (de_var 2))) (DE.dk (de_op op_mul pu_mulI de_int (DE.dk (de_var 5))))) (DE.dk (de_var 3))) (DE.dk de_int)))) (DE.dk de_int)) n_nd__law_draws)
  (dss_one (ds_expr (de_append 1 (de_op op_modN pu_mod (de_call1T call_int1 pu_int rfl (f_int c) (by first | rfl | kernel_rfl) (DE.dk (de_op op_fdivN pu_fdiv (de_var 2) (DE.dk de_int)))) (DE.dk de_int)))))) ownsD rfl n_nd__law_draws))))))) ownsD rfl n_nd__law_draws)
  (dss_cons (ds_expr (de_reverse 1))
  (dss_one (ds_retMu (e := .Name "" ⟨0, 0, 0, 0⟩) 1))))))
theorem k__law_draws (c : Cz P w K mg) : FnR P w K mg base (L2.CX P w) 2 (He.ga K "_law_draws") (SpD ⟨K, P, w, []⟩ 1 none true m__law_draws) := by
  obtain ⟨fd, F⟩ := Df.fun_ (c.told.df 0 (d := d__law_draws) rfl) rfl
  exact fnR_all (ok__law_draws F c) (F.bindsN fun _ _ _ _ _ _ us hl => match us, hl with | [_], _ => rfl)
theorem ok__law_lots {fd : FuncData} (F : FunD K d__law_lots.name d__law_lots.qual d__law_lots.params d__law_lots.body d__law_lots.scope (d__law_lots.dfl.map (He.Dv.v K)) [] (He.ga K "_law_lots") fd) (c : Cz P w K mg) : FnOk P w K mg base (L2.CX P w) 2 (He.ga K "_law_lots") fd ["_law_size", "_law_level"] (SpD ⟨K, P, w, []⟩ 2 none false m__law_lots) := by
  refine fnD (N := n__law_lots) (ps := ["_law_size", "_law_level"]) (k := 1) (ms := ⟨[4], []⟩) (io := none) (fr := false) (g := b__law_lots) F (fscB_ok (by decide +kernel)) (msB_ok (by decide)) (by decide) ?_
  intro cdv A outer s H E hr
  exact (dss_cons (ds_set 2 (DF.de (df_lst (da_cons (DF.de (df_lst da_nil)) da_nil))) n_nd__law_lots)
  (dss_cons (ds_for 3 (di_rng1 rfl (f_range c) (de_var 1)) (dss_cons (ds_setF 4 (df_lst da_nil) n_nd__law_lots)
  (dss_cons (ds_for 5 (di_seq (de_var 2)) (dss_cons (ds_set 6 de_int n_nd__law_lots)
  (dss_cons (ds_if (dt_cmp op_gt pu_gtI (de_call1B call_len_seq pu_len rfl (f_len c) (by first | rfl | kernel_rfl) (DE.dk (de_var 5))) (DE.dk de_int))
  (dss_one (ds_set 6 (de_op op_addA pu_add (de_ix (de_var 5) (DE.dk (de_op op_sub pu_sub (de_call1B call_len_seq pu_len rfl (f_len c) (by first | rfl | kernel_rfl) (DE.dk (de_var 5))) (DE.dk de_int)))) (DE.dk de_int)) n_nd__law_lots))
  dss_nil)
  (dss_one (ds_for 7 (di_rng2 rfl (f_range c) (de_var 6) (de_var 0)) (dss_one (ds_expr (de_append 4 (DF.de (df_op op_cat pu_cat (de_var 5) (DE.dk (DF.de (df_lst (da_cons (de_var 7) da_nil))))))))) ownsD rfl n_nd__law_lots)))) ownsD rfl n_nd__law_lots)
  (dss_one (ds_set 2 (DF.de (df_call1T call_list_of pu_list rfl (f_list c) (by first | rfl | kernel_rfl) (dk_var 4))) n_nd__law_lots)))) ownsD rfl n_nd__law_lots)
  (dss_one (ds_ret (DF.de (df_lc 5 (di_seq (de_var 2)) dts_nil (fun s0 H0 C cl fp => (de_call1T call_tuple_of pu_tuple rfl (f_tuple c) (by first | rfl | kernel_rfl) (DE.dk (de_var 5)))) rfl n_nd__law_lots (blkB_ok rfl) (fun s0 H0 C cl fp => pg_name n_nd__law_lots (i := 5) rfl (by first | exact Or.inl rfl | exact Or.inr rfl))))))))
theorem k__law_lots (c : Cz P w K mg) : FnR P w K mg base (L2.CX P w) 2 (He.ga K "_law_lots") (SpD ⟨K, P, w, []⟩ 2 none false m__law_lots) := by
  obtain ⟨fd, F⟩ := Df.fun_ (c.told.df 1 (d := d__law_lots) rfl) rfl
  exact fnR_all (ok__law_lots F c) (F.bindsN fun _ _ _ _ _ _ us hl => match us, hl with | [_, _], _ => rfl)
theorem ok__law_take {fd : FuncData} (F : FunD K d__law_take.name d__law_take.qual d__law_take.params d__law_take.body d__law_take.scope (d__law_take.dfl.map (He.Dv.v K)) [] (He.ga K "_law_take") fd) (c : Cz P w K mg) : FnOk P w K mg base (L2.CX P w) 2 (He.ga K "_law_take") fd ["_law_draws_here", "_law_many"] (SpD ⟨K, P, w, []⟩ 2 (some 0) false m__law_take) := by
  refine fnD (N := n__law_take) (ps := ["_law_draws_here", "_law_many"]) (k := 1) (ms := ⟨[0], [0]⟩) (io := (some 0)) (fr := false) (g := b__law_take) F (fscB_ok (by decide +kernel)) (msB_ok (by decide)) (by decide) ?_
  intro cdv A outer s H E hr
  exact (dss_cons (ds_if (DW.dt (dw_or (dt_cmp (op_ltD hr.units) pu_lt (de_var 1) (DE.dk de_int)) (dw_or1 (dt_cmp (op_eqD hr.units) pu_eq (de_call1B call_len_seq pu_len rfl (f_len c) (by first | rfl | kernel_rfl) (dk_var 0)) (DE.dk de_int)))))
  (dss_one (ds_ret de_int))
  dss_nil)
  (dss_one (ds_ret (de_op op_modN pu_mod (de_call1T call_int1 pu_int rfl (f_int c) (by first | rfl | kernel_rfl) (DE.dk (de_pop 0))) (DE.dk (de_var 1))))))
theorem k__law_take (c : Cz P w K mg) : FnR P w K mg base (L2.CX P w) 2 (He.ga K "_law_take") (SpD ⟨K, P, w, []⟩ 2 (some 0) false m__law_take) := by
  obtain ⟨fd, F⟩ := Df.fun_ (c.told.df 2 (d := d__law_take) rfl) rfl
  exact fnR_all (ok__law_take F c) (F.bindsN fun _ _ _ _ _ _ us hl => match us, hl with | [_, _], _ => rfl)
theorem ok_is_int {fd : FuncData} (F : FunD K d_is_int.name d_is_int.qual d_is_int.params d_is_int.body d_is_int.scope (d_is_int.dfl.map (He.Dv.v K)) [] (He.ga K "is_int") fd) (c : Cz P w K mg) : FnOk P w K mg base (L2.CX P w) 2 (He.ga K "is_int") fd ["value"] (SpD ⟨K, P, w, []⟩ 1 none false m_is_int) := by
  refine fnD (N := n_is_int) (ps := ["value"]) (k := 1) (ms := ⟨[], []⟩) (io := none) (fr := false) (g := b_is_int) F (fscB_ok (by decide +kernel)) (msB_ok (by decide)) (by decide) ?_
  intro cdv A outer s H E hr
  exact (dss_one (ds_ret (de_and (de_isa1 .int (DE.dk (de_var 0)) rfl (f_isinstance c) rfl (f_int c)) (de_one (de_not (de_isa1 .bool (DE.dk (de_var 0)) rfl (f_isinstance c) rfl (f_bool c)))))))
theorem k_is_int (c : Cz P w K mg) : FnR P w K mg base (L2.CX P w) 2 (He.ga K "is_int") (SpD ⟨K, P, w, []⟩ 1 none false m_is_int) := by
  obtain ⟨fd, F⟩ := Df.fun_ (c.told.df 4 (d := d_is_int) rfl) rfl
  exact fnR_all (ok_is_int F c) (F.bindsN fun _ _ _ _ _ _ us hl => match us, hl with | [_], _ => rfl)
theorem ok_check_number {fd : FuncData} (F : FunD K d_check_number.name d_check_number.qual d_check_number.params d_check_number.body d_check_number.scope (d_check_number.dfl.map (He.Dv.v K)) [] (He.ga K "check_number") fd) (c : Cz P w K mg) : FnOk P w K mg base (L2.CX P w) 3 (He.ga K "check_number") fd ["name", "value", "least", "most"] (SpD ⟨K, P, w, []⟩ 4 none false m_check_number) := by
  refine fnD (N := n_check_number) (ps := ["name", "value", "least", "most"]) (k := 2) (ms := ⟨[], []⟩) (io := none) (fr := false) (g := b_check_number) F (fscB_ok (by decide +kernel)) (msB_ok (by decide)) (by decide) ?_
  intro cdv A outer s H E hr
  exact (dss_cons (ds_if (dt_not (dt_val (de_call (k_is_int c) (Room.mono hr (by decide : 2 ≤ 2)) rfl (g_is_int c) (kp_is_int c) takesD (da_cons (de_var 1) da_nil))))
  (dss_one (ds_raise 176 [50] rfl (ex_BadNumber c) (Room.mono hr (by decide : 2 ≤ 2)) rfl (g_BadNumber c) takesD (da_cons (de_var 0) da_nil)))
  dss_nil)
  (dss_cons (ds_if (DW.dt (dw_and (dt_cmp op_notN pu_notN (de_var 2) (DE.dk de_non)) (dw_and1 (dt_cmp (op_ltD hr.units) pu_lt (de_var 1) (DE.dk (de_var 2))))))
  (dss_one (ds_raise 176 [50] rfl (ex_BadNumber c) (Room.mono hr (by decide : 2 ≤ 2)) rfl (g_BadNumber c) takesD (da_cons (de_var 0) da_nil)))
  dss_nil)
  (dss_cons (ds_if (DW.dt (dw_and (dt_cmp op_notN pu_notN (de_var 3) (DE.dk de_non)) (dw_and1 (dt_cmp op_gt pu_gtI (de_var 1) (DE.dk (de_var 3))))))
  (dss_one (ds_raise 176 [50] rfl (ex_BadNumber c) (Room.mono hr (by decide : 2 ≤ 2)) rfl (g_BadNumber c) takesD (da_cons (de_var 0) da_nil)))
  dss_nil)
  (dss_one (ds_ret (de_var 1))))))
theorem k_check_number (c : Cz P w K mg) : FnR P w K mg base (L2.CX P w) 3 (He.ga K "check_number") (SpD ⟨K, P, w, []⟩ 4 none false m_check_number) := by
  obtain ⟨fd, F⟩ := Df.fun_ (c.told.df 5 (d := d_check_number) rfl) rfl
  exact fnR_all (ok_check_number F c) (F.bindsN fun _ _ _ _ _ _ us hl => match us, hl with | [_, _, _, _], _ => rfl)
theorem ok__check_shape {fd : FuncData} (F : FunD K d__check_shape.name d__check_shape.qual d__check_shape.params d__check_shape.body d__check_shape.scope (d__check_shape.dfl.map (He.Dv.v K)) [] (He.ga K "_check_shape") fd) (c : Cz P w K mg) : FnOk P w K mg base (L2.CX P w) 4 (He.ga K "_check_shape") fd ["size", "level"] (SpD ⟨K, P, w, []⟩ 2 none false m__check_shape) := by
  refine fnD (N := n__check_shape) (ps := ["size", "level"]) (k := 3) (ms := ⟨[], []⟩) (io := none) (fr := false) (g := b__check_shape) F (fscB_ok (by decide +kernel)) (msB_ok (by decide)) (by decide) ?_
  intro cdv A outer s H E hr
  exact (dss_cons (ds_expr (de_call (k_check_number c) (Room.mono hr (by decide : 3 ≤ 3)) rfl (g_check_number c) (kp_check_number c) takesD (da_cons (de_str 53) (da_cons (de_var 0) (da_cons de_int (da_cons (de_glob rfl (g_MOST_THINGS c)) da_nil))))))
  (dss_one (ds_expr (de_call (k_check_number c) (Room.mono hr (by decide : 3 ≤ 3)) rfl (g_check_number c) (kp_check_number c) takesD (da_cons (de_str 83) (da_cons (de_var 1) (da_cons de_int (da_cons (de_op op_addA pu_add (de_var 0) (DE.dk de_int)) da_nil))))))))
theorem k__check_shape (c : Cz P w K mg) : FnR P w K mg base (L2.CX P w) 4 (He.ga K "_check_shape") (SpD ⟨K, P, w, []⟩ 2 none false m__check_shape) := by
  obtain ⟨fd, F⟩ := Df.fun_ (c.told.df 6 (d := d__check_shape) rfl) rfl
  exact fnR_all (ok__check_shape F c) (F.bindsN fun _ _ _ _ _ _ us hl => match us, hl with | [_, _], _ => rfl)
theorem ok__first_wrong {fd : FuncData} (F : FunD K d__first_wrong.name d__first_wrong.qual d__first_wrong.params d__first_wrong.body d__first_wrong.scope (d__first_wrong.dfl.map (He.Dv.v K)) [] (He.ga K "_first_wrong") fd) (c : Cz P w K mg) : FnOk P w K mg base (L2.CX P w) 3 (He.ga K "_first_wrong") fd ["size", "things"] (SpD ⟨K, P, w, []⟩ 2 none false m__first_wrong) := by
  refine fnD (N := n__first_wrong) (ps := ["size", "things"]) (k := 2) (ms := ⟨[], []⟩) (io := none) (fr := false) (g := b__first_wrong) F (fscB_ok (by decide +kernel)) (msB_ok (by decide)) (by decide) ?_
  intro cdv A outer s H E hr
  exact (dss_cons (ds_if (dt_not (dt_val (de_isa2 .list .tuple (DE.dk (de_var 1)) rfl (f_isinstance c) rfl (f_list c) rfl (f_tuple c))))
  (dss_one (ds_ret (de_un un_neg pu_neg (DE.dk de_int))))
  dss_nil)
  (dss_cons (ds_for 2 (di_rng1 rfl (f_range c) (de_call1B call_len_seq pu_len rfl (f_len c) (by first | rfl | kernel_rfl) (DE.dk (de_var 1)))) (dss_cons (ds_set 3 (de_ix (de_var 1) (DE.dk (de_var 2))) n_nd__first_wrong)
  (dss_cons (ds_if (DW.dt (dw_or (dt_not (dt_val (de_call (k_is_int c) (Room.mono hr (by decide : 2 ≤ 2)) rfl (g_is_int c) (kp_is_int c) takesD (da_cons (de_var 3) da_nil)))) (dw_or (dt_cmp (op_ltD hr.units) pu_lt (de_var 3) (DE.dk de_int)) (dw_or1 (dt_cmp op_ge pu_geI (de_var 3) (DE.dk (de_var 0)))))))
  (dss_one (ds_ret (de_var 2)))
  dss_nil)
  (dss_one (ds_if (dt_cmp (op_inA (units1 hr)) pu_in (de_var 3) (DE.dk (de_slice (de_var 1) dp_none (dp_some (de_var 2)))))
  (dss_one (ds_ret (de_var 2)))
  dss_nil)))) ownsD rfl n_nd__first_wrong)
  (dss_one (ds_ret de_non))))
theorem k__first_wrong (c : Cz P w K mg) : FnR P w K mg base (L2.CX P w) 3 (He.ga K "_first_wrong") (SpD ⟨K, P, w, []⟩ 2 none false m__first_wrong) := by
  obtain ⟨fd, F⟩ := Df.fun_ (c.told.df 8 (d := d__first_wrong) rfl) rfl
  exact fnR_all (ok__first_wrong F c) (F.bindsN fun _ _ _ _ _ _ us hl => match us, hl with | [_, _], _ => rfl)
theorem ok__check_things {fd : FuncData} (F : FunD K d__check_things.name d__check_things.qual d__check_things.params d__check_things.body d__check_things.scope (d__check_things.dfl.map (He.Dv.v K)) [] (He.ga K "_check_things") fd) (c : Cz P w K mg) : FnOk P w K mg base (L2.CX P w) 4 (He.ga K "_check_things") fd ["size", "level", "things"] (SpD ⟨K, P, w, []⟩ 3 none false m__check_things) := by
  refine fnD (N := n__check_things) (ps := ["size", "level", "things"]) (k := 3) (ms := ⟨[], []⟩) (io := none) (fr := false) (g := b__check_things) F (fscB_ok (by decide +kernel)) (msB_ok (by decide)) (by decide) ?_
  intro cdv A outer s H E hr
  exact (dss_cons (ds_set 3 (de_call (k__first_wrong c) (Room.mono hr (by decide : 3 ≤ 3)) rfl (g__first_wrong c) (kp__first_wrong c) takesD (da_cons (de_var 0) (da_cons (de_var 2) da_nil))) n_nd__check_things)
  (dss_cons (ds_if (dt_cmp op_notN pu_notN (de_var 3) (DE.dk de_non))
  (dss_one (ds_raise 96 [88] rfl (ex_BadLot c) (Room.mono hr (by decide : 2 ≤ 3)) rfl (g_BadLot c) takesD (da_cons (de_var 3) da_nil)))
  dss_nil)
  (dss_cons (ds_if (dt_cmp (op_neD hr.units) pu_ne (de_call1B call_len_seq pu_len rfl (f_len c) (by first | rfl | kernel_rfl) (DE.dk (de_var 2))) (DE.dk (de_var 1)))
  (dss_one (ds_raise 96 [88] rfl (ex_BadLot c) (Room.mono hr (by decide : 2 ≤ 3)) rfl (g_BadLot c) takesD (da_cons (de_un un_neg pu_neg (DE.dk de_int)) da_nil)))
  dss_nil)
  (dss_one (ds_ret (de_call1T call_tuple_of pu_tuple rfl (f_tuple c) (by first | rfl | kernel_rfl) (DE.dk (DF.de (df_call1B (cr_sortedD hr.units) pu_sorted rfl (f_sorted c) (by first | rfl | kernel_rfl) (DE.dk (de_var 2)))))))))))
theorem k__check_things (c : Cz P w K mg) : FnR P w K mg base (L2.CX P w) 4 (He.ga K "_check_things") (SpD ⟨K, P, w, []⟩ 3 none false m__check_things) := by
  obtain ⟨fd, F⟩ := Df.fun_ (c.told.df 10 (d := d__check_things) rfl) rfl
  exact fnR_all (ok__check_things F c) (F.bindsN fun _ _ _ _ _ _ us hl => match us, hl with | [_, _, _], _ => rfl)
theorem ok_check_lots {fd : FuncData} (F : FunD K d_check_lots.name d_check_lots.qual d_check_lots.params d_check_lots.body d_check_lots.scope (d_check_lots.dfl.map (He.Dv.v K)) [] (He.ga K "check_lots") fd) (c : Cz P w K mg) : FnOk P w K mg base (L2.CX P w) 5 (He.ga K "check_lots") fd ["size", "level", "lots"] (SpD ⟨K, P, w, []⟩ 3 none false m_check_lots) := by
  refine fnD (N := n_check_lots) (ps := ["size", "level", "lots"]) (k := 4) (ms := ⟨[3], []⟩) (io := none) (fr := false) (g := b_check_lots) F (fscB_ok (by decide +kernel)) (msB_ok (by decide)) (by decide) ?_
  intro cdv A outer s H E hr
  exact (dss_cons (ds_expr (de_call (k__check_shape c) (Room.mono hr (by decide : 4 ≤ 4)) rfl (g__check_shape c) (kp__check_shape c) takesD (da_cons (de_var 0) (da_cons (de_var 1) da_nil))))
  (dss_cons (ds_if (dt_not (dt_val (de_isa2 .list .tuple (DE.dk (de_var 2)) rfl (f_isinstance c) rfl (f_list c) rfl (f_tuple c))))
  (dss_one (ds_raise 132 [88] rfl (ex_BadLots c) (Room.mono hr (by decide : 2 ≤ 4)) rfl (g_BadLots c) takesD (da_cons (de_un un_neg pu_neg (DE.dk de_int)) da_nil)))
  dss_nil)
  (dss_cons (ds_setF 3 (df_lst da_nil) n_nd_check_lots)
  (dss_cons (ds_for 4 (di_rng1 rfl (f_range c) (de_call1B call_len_seq pu_len rfl (f_len c) (by first | rfl | kernel_rfl) (DE.dk (de_var 2)))) (dss_cons (ds_try (krf := rkD) rfl rfl rfl n_nd_check_lots takesD krt_D (fun Wy pn xe tk po => (dss_one (ds_set 5 (de_call (k__check_things c) (Room.mono hr (by decide : 4 ≤ 4)) rfl (g__check_things c) (kp__check_things c) tk (da_cons (de_var 0) (da_cons (de_var 1) (da_cons (de_ix (de_var 2) (DE.dk (de_var 4))) da_nil)))) n_nd_check_lots))) (.cons ⟨rfl, hdn_BadLot c rfl, hdy_BadLot c, hdno_BadLot c, ⟨rfl, rfl, rfl, rfl⟩, fun a oe pn => (dss_one ds_stuck)⟩ .nil))
  (dss_cons (ds_if (dt_cmp (op_inA (units1 hr)) pu_in (de_var 5) (dk_var 3))
  (dss_one (ds_raise 132 [88] rfl (ex_BadLots c) (Room.mono hr (by decide : 2 ≤ 4)) rfl (g_BadLots c) takesD (da_cons (de_var 4) da_nil)))
  dss_nil)
  (dss_one (ds_expr (de_append 3 (de_var 5)))))) ownsD rfl n_nd_check_lots)
  (dss_one (ds_ret (de_call1T call_tuple_of pu_tuple rfl (f_tuple c) (by first | rfl | kernel_rfl) (DE.dk (DF.de (df_call1B (cr_sortedD hr.units) pu_sorted rfl (f_sorted c) (by first | rfl | kernel_rfl) (dk_var 3)))))))))))
theorem k_check_lots (c : Cz P w K mg) : FnR P w K mg base (L2.CX P w) 5 (He.ga K "check_lots") (SpD ⟨K, P, w, []⟩ 3 none false m_check_lots) := by
  obtain ⟨fd, F⟩ := Df.fun_ (c.told.df 11 (d := d_check_lots) rfl) rfl
  exact fnR_all (ok_check_lots F c) (F.bindsN fun _ _ _ _ _ _ us hl => match us, hl with | [_, _, _], _ => rfl)
theorem ok_Marks___init__ {fd : FuncData} (F : FunD K d_Marks___init__.name d_Marks___init__.qual d_Marks___init__.params d_Marks___init__.body d_Marks___init__.scope (d_Marks___init__.dfl.map (He.Dv.v K)) [] (He.ma K (He.ga K "Marks") "__init__") fd) (c : Cz P w K mg) : FnOk P w K mg base (L2.CX P w) 6 (He.ma K (He.ga K "Marks") "__init__") fd ["self", "size", "level", "marked"] (SpD ⟨K, P, w, []⟩ 4 (some 0) false m_Marks___init__) := by
  refine fnD (N := n_Marks___init__) (ps := ["self", "size", "level", "marked"]) (k := 5) (ms := ⟨[0], [0]⟩) (io := (some 0)) (fr := false) (g := b_Marks___init__) F (fscB_ok (by decide +kernel)) (msB_ok (by decide)) (by decide) ?_
  intro cdv A outer s H E hr
  exact (dss_cons (ds_set 4 (de_call (k_check_lots c) (Room.mono hr (by decide : 5 ≤ 5)) rfl (g_check_lots c) (kp_check_lots c) takesD (da_cons (de_var 1) (da_cons (de_var 2) (da_cons (de_var 3) da_nil)))) n_nd_Marks___init__)
  (dss_cons (ds_fld 0 ocs 53 (fld_size c) (de_var 1))
  (dss_cons (ds_fld 0 ocs 83 (fld_level c) (de_var 2))
  (dss_one (ds_fld 0 ocs 122 (fld_marked c) (de_var 4))))))
theorem k_Marks___init__ (c : Cz P w K mg) : FnR P w K mg base (L2.CX P w) 6 (He.ma K (He.ga K "Marks") "__init__") (SpD ⟨K, P, w, []⟩ 4 (some 0) false m_Marks___init__) := by
  obtain ⟨fd, F⟩ := Df.fun_ (c.told.df 12 (d := d_Marks___init__) rfl) rfl
  obtain ⟨dz, dr, db⟩ := F.binds1 (ps := ["self", "size", "level", "marked"]) 4 1 (by intro z; cases z) rfl fun _ _ _ _ _ _ _ us its h1 h2 => match us, its, h1, h2 with | [_, _, _, _], [_], _, _ => ⟨_, rfl, rfl⟩
  cases dr
  exact fnR_all (ok_Marks___init__ F c) db
theorem mk_Marks_4 {X : Cx} (c : Cz X.prog X.w X.K X.mg) (hx : tx X = ⟨X.K, X.prog, X.w, []⟩) : MkOk X 6 4 62 m_Marks___init__ := ⟨_, mkf_Marks c, by (unfold Fn; rw [hx]; exact FnR.up (k_Marks___init__ c) (by decide))⟩
theorem kd_Marks___init___3 (c : Cz P w K mg) : FnR P w K mg base (L2.CX P w) 6 (He.ma K (He.ga K "Marks") "__init__") (SpD ⟨K, P, w, []⟩ 3 (some 0) false m_Marks___init___3) := by
  obtain ⟨fd, F⟩ := Df.fun_ (c.told.df 12 (d := d_Marks___init__) rfl) rfl
  obtain ⟨dz, dr, db⟩ := F.binds1 (ps := ["self", "size", "level", "marked"]) 3 0 (by intro z; cases z) rfl fun _ _ _ _ _ _ _ us its h1 h2 => match us, its, h1, h2 with | [_, _, _], [_], _, _ => ⟨_, rfl, rfl⟩
  exact fnR_dfl 3 _ (ok_Marks___init__ F c) db dr (fun B H => ⟨(dt_Marks___init__ c B H), trivial⟩) rfl (by intro i e; cases e; decide)
theorem ok__lots {fd : FuncData} (F : FunD K d__lots.name d__lots.qual d__lots.params d__lots.body d__lots.scope (d__lots.dfl.map (He.Dv.v K)) [] (He.ga K "_lots") fd) (c : Cz P w K mg) : FnOk P w K mg base (L2.CX P w) 2 (He.ga K "_lots") fd ["size", "level"] (SpD ⟨K, P, w, []⟩ 2 none false m__lots) := by
  refine fnD (N := n__lots) (ps := ["size", "level"]) (k := 1) (ms := ⟨[], []⟩) (io := none) (fr := false) (g := b__lots) F (fscB_ok (by decide +kernel)) (msB_ok (by decide)) (by decide) ?_
  intro cdv A outer s H E hr
  exact (dss_cons (ds_set 2 (DF.de (df_lst (da_cons (de_tup da_nil) da_nil))) n_nd__lots)
  (dss_cons (ds_for 3 (di_rng1 rfl (f_range c) (de_var 1)) (dss_one (tmS_lc2 2 4 5 (di_seq (de_var 2)) dts_nil (fun s0 H0 C cl fp => (di_rng2 rfl (f_range c) (de_ifExp (dt_tru (DE.dk (de_var 4))) (de_op op_addA pu_add (de_ix (de_var 4) (DE.dk (de_un un_neg pu_neg (DE.dk de_int)))) (DE.dk de_int)) de_int) (de_var 0))) dts_nil (fun s0 H0 C cl fp => (de_op op_addA pu_add (de_var 4) (DE.dk (de_tup (da_cons (de_var 5) da_nil))))) rfl n_nd__lots (blkB_ok rfl) (fun s0 H0 C cl fp => pg_name n_nd__lots (i := 4) rfl (by first | exact Or.inl rfl | exact Or.inr rfl)) (fun s0 H0 C cl fp => pg_name n_nd__lots (i := 5) rfl (by first | exact Or.inl rfl | exact Or.inr rfl)))) ownsD rfl n_nd__lots)
  (dss_one (ds_ret (de_call1T call_tuple_of pu_tuple rfl (f_tuple c) (by first | rfl | kernel_rfl) (DE.dk (de_var 2)))))))
theorem k__lots (c : Cz P w K mg) : FnR P w K mg base (L2.CX P w) 2 (He.ga K "_lots") (SpD ⟨K, P, w, []⟩ 2 none false m__lots) := by
  obtain ⟨fd, F⟩ := Df.fun_ (c.told.df 13 (d := d__lots) rfl) rfl
  exact fnR_all (ok__lots F c) (F.bindsN fun _ _ _ _ _ _ us hl => match us, hl with | [_, _], _ => rfl)
theorem mk_Marks_3 {X : Cx} (c : Cz X.prog X.w X.K X.mg) (hx : tx X = ⟨X.K, X.prog, X.w, []⟩) : MkOk X 6 3 62 m_Marks___init___3 := ⟨_, mkf_Marks c, by (unfold Fn; rw [hx]; exact kd_Marks___init___3 c)⟩
theorem ok__packet {fd : FuncData} (F : FunD K d__packet.name d__packet.qual d__packet.params d__packet.body d__packet.scope (d__packet.dfl.map (He.Dv.v K)) [] (He.ga K "_packet") fd) (c : Cz P w K mg) : FnOk P w K mg base (L2.CX P w) 2 (He.ga K "_packet") fd ["things"] (SpD ⟨K, P, w, []⟩ 1 none false m__packet) := by
  refine fnD (N := n__packet) (ps := ["things"]) (k := 1) (ms := ⟨[], []⟩) (io := none) (fr := false) (g := b__packet) F (fscB_ok (by decide +kernel)) (msB_ok (by decide)) (by decide) ?_
  intro cdv A outer s H E hr
  exact (dss_cons (ds_set 1 (de_call1B call_len_seq pu_len rfl (f_len c) (by first | rfl | kernel_rfl) (DE.dk (de_var 0))) n_nd__packet)
  (dss_one (ds_ret (de_call1T call_tuple_of pu_tuple rfl (f_tuple c) (by first | rfl | kernel_rfl) (DE.dk (DF.de (df_lc 2 (di_rng3 rfl (f_range c) (de_op op_sub pu_sub (de_var 1) (DE.dk de_int)) (de_un un_neg pu_neg (DE.dk de_int)) (de_un un_neg pu_neg (DE.dk de_int))) dts_nil (fun s0 H0 C cl fp => (de_op op_addA pu_add (de_slice (de_var 0) dp_none (dp_some (de_var 2))) (DE.dk (de_slice (de_var 0) (dp_some (de_op op_addA pu_add (de_var 2) (DE.dk de_int))) dp_none)))) rfl n_nd__packet (blkB_ok rfl) (fun s0 H0 C cl fp => pg_name n_nd__packet (i := 2) rfl (by first | exact Or.inl rfl | exact Or.inr rfl)))))))))
theorem k__packet (c : Cz P w K mg) : FnR P w K mg base (L2.CX P w) 2 (He.ga K "_packet") (SpD ⟨K, P, w, []⟩ 1 none false m__packet) := by
  obtain ⟨fd, F⟩ := Df.fun_ (c.told.df 14 (d := d__packet) rfl) rfl
  exact fnR_all (ok__packet F c) (F.bindsN fun _ _ _ _ _ _ us hl => match us, hl with | [_], _ => rfl)
theorem ok__row_break {fd : FuncData} (F : FunD K d__row_break.name d__row_break.qual d__row_break.params d__row_break.body d__row_break.scope (d__row_break.dfl.map (He.Dv.v K)) [] (He.ga K "_row_break") fd) (c : Cz P w K mg) : FnOk P w K mg base (L2.CX P w) 2 (He.ga K "_row_break") fd ["row", "held"] (SpD ⟨K, P, w, []⟩ 2 none false m__row_break) := by
  refine fnD (N := n__row_break) (ps := ["row", "held"]) (k := 1) (ms := ⟨[], []⟩) (io := none) (fr := false) (g := b__row_break) F (fscB_ok (by decide +kernel)) (msB_ok (by decide)) (by decide) ?_
  intro cdv A outer s H E hr
  exact (dss_cons (ds_set 2 (de_ix (de_var 1) (DE.dk de_int)) n_nd__row_break)
  (dss_cons (ds_for 3 (di_rng2 rfl (f_range c) de_int (de_call1B call_len_seq pu_len rfl (f_len c) (by first | rfl | kernel_rfl) (DE.dk (de_var 0)))) (dss_one (ds_if (dt_cmp (op_neD hr.units) pu_ne (de_ix (de_var 1) (DE.dk (de_var 3))) (DE.dk (de_var 2)))
  (dss_cons (ds_for 4 (di_rng2 rfl (f_range c) (de_op op_addA pu_add (de_var 3) (DE.dk de_int)) (de_call1B call_len_seq pu_len rfl (f_len c) (by first | rfl | kernel_rfl) (DE.dk (de_var 0)))) (dss_one (ds_if (dt_cmp (op_eqD hr.units) pu_eq (de_ix (de_var 1) (DE.dk (de_var 4))) (DE.dk (de_var 2)))
  (dss_one (ds_ret (de_tup (da_cons (de_ix (de_var 0) (DE.dk de_int)) (da_cons (de_ix (de_var 0) (DE.dk (de_var 3))) (da_cons (de_ix (de_var 0) (DE.dk (de_var 4))) da_nil))))))
  dss_nil)) ownsD rfl n_nd__row_break)
  (dss_one (ds_ret de_non)))
  dss_nil)) ownsD rfl n_nd__row_break)
  (dss_one (ds_ret de_non))))
theorem k__row_break (c : Cz P w K mg) : FnR P w K mg base (L2.CX P w) 2 (He.ga K "_row_break") (SpD ⟨K, P, w, []⟩ 2 none false m__row_break) := by
  obtain ⟨fd, F⟩ := Df.fun_ (c.told.df 15 (d := d__row_break) rfl) rfl
  exact fnR_all (ok__row_break F c) (F.bindsN fun _ _ _ _ _ _ us hl => match us, hl with | [_, _], _ => rfl)
theorem ok__least_break {fd : FuncData} (F : FunD K d__least_break.name d__least_break.qual d__least_break.params d__least_break.body d__least_break.scope (d__least_break.dfl.map (He.Dv.v K)) [] (He.ga K "_least_break") fd) (c : Cz P w K mg) : FnOk P w K mg base (L2.CX P w) 3 (He.ga K "_least_break") fd ["size", "level", "marked"] (SpD ⟨K, P, w, []⟩ 3 none false m__least_break) := by
  refine fnD (N := n__least_break) (ps := ["size", "level", "marked"]) (k := 2) (ms := ⟨[], []⟩) (io := none) (fr := false) (g := b__least_break) F (fscB_ok (by decide +kernel)) (msB_ok (by decide)) (by decide) ?_
  intro cdv A outer s H E hr
  exact (dss_cons (ds_set 3 (de_call1T (cr_setOfTu rfl hr.units) pu_set rfl (f_set c) (by first | rfl | kernel_rfl) (DE.dk (de_var 2))) n_nd__least_break)
  (dss_cons (ds_set 4 de_non n_nd__least_break)
  (dss_cons (ds_for 5 (di_seq (de_call (k__lots c) (Room.mono hr (by decide : 2 ≤ 2)) rfl (g__lots c) (kp__lots c) takesD (da_cons (de_var 0) (da_cons (de_op op_addA pu_add (de_var 1) (DE.dk de_int)) da_nil)))) (dss_cons (ds_set 6 (de_call (k__packet c) (Room.mono hr (by decide : 2 ≤ 2)) rfl (g__packet c) (kp__packet c) takesD (da_cons (de_var 5) da_nil)) n_nd__least_break)
  (dss_cons (ds_set 8 (de_call (k__row_break c) (Room.mono hr (by decide : 2 ≤ 2)) rfl (g__row_break c) (kp__row_break c) takesD (da_cons (de_var 6) (da_cons (DF.de (df_lc 7 (di_seq (de_var 6)) dts_nil (fun s0 H0 C cl fp => (de_cmp (op_inA (units1 hr)) pu_in (de_var 7) (DE.dk (de_var 3)))) rfl n_nd__least_break (blkB_ok rfl) (fun s0 H0 C cl fp => pg_name n_nd__least_break (i := 7) rfl (by first | exact Or.inl rfl | exact Or.inr rfl)))) da_nil))) n_nd__least_break)
  (dss_one (ds_if (DW.dt (dw_and (dt_cmp op_notN pu_notN (de_var 8) (DE.dk de_non)) (dw_and1 (DW.dt (dw_or (dt_cmp op_isN pu_isN (de_var 4) (DE.dk de_non)) (dw_or1 (dt_cmp (op_ltD hr.units) pu_lt (de_var 8) (DE.dk (de_var 4)))))))))
  (dss_one (ds_set 4 (de_var 8) n_nd__least_break))
  dss_nil)))) ownsD rfl n_nd__least_break)
  (dss_one (ds_ret (de_var 4))))))
theorem k__least_break (c : Cz P w K mg) : FnR P w K mg base (L2.CX P w) 3 (He.ga K "_least_break") (SpD ⟨K, P, w, []⟩ 3 none false m__least_break) := by
  obtain ⟨fd, F⟩ := Df.fun_ (c.told.df 16 (d := d__least_break) rfl) rfl
  exact fnR_all (ok__least_break F c) (F.bindsN fun _ _ _ _ _ _ us hl => match us, hl with | [_, _, _], _ => rfl)
theorem k_Family___init__ (c : Cz P w K mg) : FnR P w K mg base (L2.CX P w) 8 (He.ma K (He.ga K "Family") "__init__") (SpD ⟨K, P, w, []⟩ 4 (some 0) false m_Family___init__) := by
  have hP := c.prog
  subst hP
  have T := fSup_ok (P := PySem.Challenge.pw_packetmarks_k06_ring_of_almost_all_thing) (d := d_Family___init__) (N := n_Family___init__) (ps := ["self", "size", "level", "marked"]) (supf_Family c) (c.told.df 18 (d := d_Family___init__) rfl) rfl rfl rfl (NdefX.nscope_by (by decide +kernel)) (f_super c) (by decide +kernel) ⟨_, rfl, rfl⟩ rfl rfl rfl (by decide) (by intro z; cases z)
    fun _ _ _ _ _ _ _ _ us its h1 h2 => match us, its, h1, h2 with | [_, _, _, _], [_], _, _ => ⟨_, rfl, rfl⟩
  refine fnSup (cD := 100) (np2 := 4) (ms := ⟨[0], [0]⟩) (m := m_Marks___init__) (g := g_Family___init__) (fs := a_Family___init__) T rfl (FnR.up (k_Marks___init__ c) (by decide)) (msB_ok (by decide)) rfl (by first | rfl | kernel_rfl) (fun A outer s H E hr => ?_) (fun A outer s H E hr => ?_) (fun _ => rfl) (fun _ => rfl) (fun _ => rfl) (fun _ => rfl)
  · exact (da_cons (de_var 1) (da_cons (de_var 2) (da_cons (de_var 3) da_nil)))
  · exact (dss_cons (ds_set 5 (de_call (k__least_break c) (Room.mono hr (by decide : 3 ≤ 7)) rfl (g__least_break c) (kp__least_break c) (takes_of rfl rfl rfl rfl) (da_cons (de_fld ocs 53 (fld_size c) (dk_var 0)) (da_cons (de_fld ocs 83 (fld_level c) (dk_var 0)) (da_cons (de_fld ocs 122 (fld_marked c) (dk_var 0)) da_nil)))) n_nd_Family___init__)
  (dss_one (ds_if (dt_cmp op_notN pu_notN (de_var 5) (DE.dk de_non))
  (dss_one (ds_raise 99 [47] rfl (ex_Broken c) (Room.mono hr (by decide : 2 ≤ 7)) rfl (g_Broken c) (takes_of rfl rfl rfl rfl) (da_cons (de_var 5) da_nil)))
  dss_nil)))
theorem mktok4 {X : Cx} (c : Cz X.prog X.w X.K X.mg) (hx : tx X = ⟨X.K, X.prog, X.w, []⟩) : ∀ p ∈ mkt4, MkOk X 8 4 p.1 p.2 := fun p h => by
  rcases List.mem_cons.mp h with rfl | h
  · exact ⟨_, mkf_Marks c, by (unfold Fn; rw [hx]; exact FnR.up (k_Marks___init__ c) (by decide))⟩
  rcases List.mem_cons.mp h with rfl | h
  · exact ⟨_, mkf_Family c, by (unfold Fn; rw [hx]; exact FnR.up (k_Family___init__ c) (by decide))⟩
  · cases h
theorem mk_Family_4 {X : Cx} (c : Cz X.prog X.w X.K X.mg) (hx : tx X = ⟨X.K, X.prog, X.w, []⟩) : MkOk X 8 4 100 m_Family___init__ := ⟨_, mkf_Family c, by (unfold Fn; rw [hx]; exact FnR.up (k_Family___init__ c) (by decide))⟩
theorem ok__lots_by_row {fd : FuncData} (F : FunD K d__lots_by_row.name d__lots_by_row.qual d__lots_by_row.params d__lots_by_row.body d__lots_by_row.scope (d__lots_by_row.dfl.map (He.Dv.v K)) [] (He.ga K "_lots_by_row") fd) (c : Cz P w K mg) : FnOk P w K mg base (L2.CX P w) 4 (He.ga K "_lots_by_row") fd ["size", "level", "row"] (SpD ⟨K, P, w, []⟩ 3 none false m__lots_by_row) := by
  refine fnD (N := n__lots_by_row) (ps := ["size", "level", "row"]) (k := 3) (ms := ⟨[4], []⟩) (io := none) (fr := false) (g := b__lots_by_row) F (fscB_ok (by decide +kernel)) (msB_ok (by decide)) (by decide) ?_
  intro cdv A outer s H E hr
  exact (dss_cons (ds_expr (de_call (k_check_number c) (Room.mono hr (by decide : 3 ≤ 3)) rfl (g_check_number c) (kp_check_number c) takesD (da_cons (de_str 53) (da_cons (de_var 0) (da_cons de_int (da_cons (de_glob rfl (g_MOST_THINGS c)) da_nil))))))
  (dss_cons (ds_expr (de_call (k_check_number c) (Room.mono hr (by decide : 3 ≤ 3)) rfl (g_check_number c) (kp_check_number c) takesD (da_cons (de_str 83) (da_cons (de_var 1) (da_cons de_int (da_cons (de_op op_addA pu_add (de_var 0) (DE.dk de_int)) da_nil))))))
  (dss_cons (ds_set 3 (de_call (k__lots c) (Room.mono hr (by decide : 2 ≤ 3)) rfl (g__lots c) (kp__lots c) takesD (da_cons (de_var 0) (da_cons (de_var 1) da_nil))) n_nd__lots_by_row)
  (dss_cons (ds_if (DW.dt (dw_or (dt_not (dt_val (de_isa2 .list .tuple (DE.dk (de_var 2)) rfl (f_isinstance c) rfl (f_list c) rfl (f_tuple c)))) (dw_or1 (dt_cmp (op_neD hr.units) pu_ne (de_call1B call_len_seq pu_len rfl (f_len c) (by first | rfl | kernel_rfl) (DE.dk (de_var 2))) (DE.dk (de_call1B call_len_seq pu_len rfl (f_len c) (by first | rfl | kernel_rfl) (DE.dk (de_var 3))))))))
  (dss_one (ds_raise 97 [88] rfl (ex_BadRow c) (Room.mono hr (by decide : 2 ≤ 3)) rfl (g_BadRow c) takesD (da_cons (de_un un_neg pu_neg (DE.dk de_int)) da_nil)))
  dss_nil)
  (dss_cons (ds_setF 4 (df_lst da_nil) n_nd__lots_by_row)
  (dss_cons (ds_for 5 (di_rng1 rfl (f_range c) (de_call1B call_len_seq pu_len rfl (f_len c) (by first | rfl | kernel_rfl) (DE.dk (de_var 2)))) (dss_cons (ds_if (DW.dt (dw_or (dt_not (dt_val (de_call (k_is_int c) (Room.mono hr (by decide : 2 ≤ 3)) rfl (g_is_int c) (kp_is_int c) takesD (da_cons (de_ix (de_var 2) (DE.dk (de_var 5))) da_nil)))) (dw_or (dt_cmp (op_ltD hr.units) pu_lt (de_ix (de_var 2) (DE.dk (de_var 5))) (DE.dk de_int)) (dw_or1 (dt_cmp op_gt pu_gtI (de_ix (de_var 2) (DE.dk (de_var 5))) (DE.dk de_int))))))
  (dss_one (ds_raise 97 [88] rfl (ex_BadRow c) (Room.mono hr (by decide : 2 ≤ 3)) rfl (g_BadRow c) takesD (da_cons (de_var 5) da_nil)))
  dss_nil)
  (dss_one (ds_if (dt_cmp (op_eqD hr.units) pu_eq (de_ix (de_var 2) (DE.dk (de_var 5))) (DE.dk de_int))
  (dss_one (ds_expr (de_append 4 (de_ix (de_var 3) (DE.dk (de_var 5))))))
  dss_nil))) ownsD rfl n_nd__lots_by_row)
  (dss_one (ds_ret (de_call1T call_tuple_of pu_tuple rfl (f_tuple c) (by first | rfl | kernel_rfl) (dk_var 4))))))))))
theorem k__lots_by_row (c : Cz P w K mg) : FnR P w K mg base (L2.CX P w) 4 (He.ga K "_lots_by_row") (SpD ⟨K, P, w, []⟩ 3 none false m__lots_by_row) := by
  obtain ⟨fd, F⟩ := Df.fun_ (c.told.df 20 (d := d__lots_by_row) rfl) rfl
  exact fnR_all (ok__lots_by_row F c) (F.bindsN fun _ _ _ _ _ _ us hl => match us, hl with | [_, _, _], _ => rfl)
theorem ok_Marks_of_row {fd : FuncData} (F : FunD K d_Marks_of_row.name d_Marks_of_row.qual d_Marks_of_row.params d_Marks_of_row.body d_Marks_of_row.scope (d_Marks_of_row.dfl.map (He.Dv.v K)) [] (pCm "Marks" "of_row" K) fd) (c : Cz P w K mg) : FnOk P w K mg base (L2.CX P w) 10 (pCm "Marks" "of_row" K) fd ["cls", "size", "level", "row"] (SpD ⟨K, P, w, []⟩ 4 none false m_Marks_of_row) := by
  refine fnD (N := n_Marks_of_row) (ps := ["cls", "size", "level", "row"]) (k := 9) (ms := ⟨[], []⟩) (io := none) (fr := false) (g := b_Marks_of_row) F (fscB_ok (by decide +kernel)) (msB_ok (by decide)) (by decide) ?_
  intro cdv A outer s H E hr
  exact (dss_one (ds_ret (de_makeL 0 (mktok4 c rfl) (Room.mono hr (by decide : 9 ≤ 9)) takesD (da_cons (de_var 1) (da_cons (de_var 2) (da_cons (de_call (k__lots_by_row c) (Room.mono hr (by decide : 4 ≤ 9)) rfl (g__lots_by_row c) (kp__lots_by_row c) takesD (da_cons (de_var 1) (da_cons (de_var 2) (da_cons (de_var 3) da_nil)))) da_nil))))))
theorem k_Marks_of_row (c : Cz P w K mg) : FnR P w K mg base (L2.CX P w) 10 (pCm "Marks" "of_row" K) (SpD ⟨K, P, w, []⟩ 4 none false m_Marks_of_row) := by
  obtain ⟨fd, F⟩ := Df.fun_ (c.told.df 21 (d := d_Marks_of_row) rfl) rfl
  exact fnR_all (ok_Marks_of_row F c) (F.bindsN fun _ _ _ _ _ _ us hl => match us, hl with | [_, _, _, _], _ => rfl)
theorem cm_Marks_of_row {X : Cx} (c : Cz X.prog X.w X.K X.mg) (hx : tx X = ⟨X.K, X.prog, X.w, []⟩) : CmOk X 10 4 62 124 m_Marks_of_row := ⟨_, _, _, (cmf_Marks_of_row c).1, (cmf_Marks_of_row c).2, by (unfold Fn; rw [hx]; exact FnR.up (k_Marks_of_row c) (by decide))⟩
theorem ok_Family_of_row {fd : FuncData} (F : FunD K d_Family_of_row.name d_Family_of_row.qual d_Family_of_row.params d_Family_of_row.body d_Family_of_row.scope (d_Family_of_row.dfl.map (He.Dv.v K)) [] (pCm "Family" "of_row" K) fd) (c : Cz P w K mg) : FnOk P w K mg base (L2.CX P w) 10 (pCm "Family" "of_row" K) fd ["cls", "size", "level", "row"] (SpD ⟨K, P, w, []⟩ 4 none false m_Family_of_row) := by
  refine fnD (N := n_Family_of_row) (ps := ["cls", "size", "level", "row"]) (k := 9) (ms := ⟨[], []⟩) (io := none) (fr := false) (g := b_Family_of_row) F (fscB_ok (by decide +kernel)) (msB_ok (by decide)) (by decide) ?_
  intro cdv A outer s H E hr
  exact (dss_one (ds_ret (de_makeL 0 (mktok4 c rfl) (Room.mono hr (by decide : 9 ≤ 9)) takesD (da_cons (de_var 1) (da_cons (de_var 2) (da_cons (de_call (k__lots_by_row c) (Room.mono hr (by decide : 4 ≤ 9)) rfl (g__lots_by_row c) (kp__lots_by_row c) takesD (da_cons (de_var 1) (da_cons (de_var 2) (da_cons (de_var 3) da_nil)))) da_nil))))))
theorem k_Family_of_row (c : Cz P w K mg) : FnR P w K mg base (L2.CX P w) 10 (pCm "Family" "of_row" K) (SpD ⟨K, P, w, []⟩ 4 none false m_Family_of_row) := by
  obtain ⟨fd, F⟩ := Df.fun_ (c.told.df 22 (d := d_Family_of_row) rfl) rfl
  exact fnR_all (ok_Family_of_row F c) (F.bindsN fun _ _ _ _ _ _ us hl => match us, hl with | [_, _, _, _], _ => rfl)
theorem cm_Family_of_row {X : Cx} (c : Cz X.prog X.w X.K X.mg) (hx : tx X = ⟨X.K, X.prog, X.w, []⟩) : CmOk X 10 4 100 124 m_Family_of_row := ⟨_, _, _, (cmf_Family_of_row c).1, (cmf_Family_of_row c).2, by (unfold Fn; rw [hx]; exact FnR.up (k_Family_of_row c) (by decide))⟩
theorem ok_Family_none {fd : FuncData} (F : FunD K d_Family_none.name d_Family_none.qual d_Family_none.params d_Family_none.body d_Family_none.scope (d_Family_none.dfl.map (He.Dv.v K)) [] (pCm "Family" "none" K) fd) (c : Cz P w K mg) : FnOk P w K mg base (L2.CX P w) 10 (pCm "Family" "none" K) fd ["cls", "size", "level"] (SpD ⟨K, P, w, []⟩ 3 none false m_Family_none) := by
  refine fnD (N := n_Family_none) (ps := ["cls", "size", "level"]) (k := 9) (ms := ⟨[], []⟩) (io := none) (fr := false) (g := b_Family_none) F (fscB_ok (by decide +kernel)) (msB_ok (by decide)) (by decide) ?_
  intro cdv A outer s H E hr
  exact (dss_one (ds_ret (de_makeL 0 (mktok4 c rfl) (Room.mono hr (by decide : 9 ≤ 9)) takesD (da_cons (de_var 1) (da_cons (de_var 2) (da_cons (de_tup da_nil) da_nil))))))
theorem k_Family_none (c : Cz P w K mg) : FnR P w K mg base (L2.CX P w) 10 (pCm "Family" "none" K) (SpD ⟨K, P, w, []⟩ 3 none false m_Family_none) := by
  obtain ⟨fd, F⟩ := Df.fun_ (c.told.df 23 (d := d_Family_none) rfl) rfl
  exact fnR_all (ok_Family_none F c) (F.bindsN fun _ _ _ _ _ _ us hl => match us, hl with | [_, _, _], _ => rfl)
theorem cm_Family_none {X : Cx} (c : Cz X.prog X.w X.K X.mg) (hx : tx X = ⟨X.K, X.prog, X.w, []⟩) : CmOk X 10 3 100 51 m_Family_none := ⟨_, _, _, (cmf_Family_none c).1, (cmf_Family_none c).2, by (unfold Fn; rw [hx]; exact FnR.up (k_Family_none c) (by decide))⟩
theorem ok_Family_full {fd : FuncData} (F : FunD K d_Family_full.name d_Family_full.qual d_Family_full.params d_Family_full.body d_Family_full.scope (d_Family_full.dfl.map (He.Dv.v K)) [] (pCm "Family" "full" K) fd) (c : Cz P w K mg) : FnOk P w K mg base (L2.CX P w) 10 (pCm "Family" "full" K) fd ["cls", "size", "level"] (SpD ⟨K, P, w, []⟩ 3 none false m_Family_full) := by
  refine fnD (N := n_Family_full) (ps := ["cls", "size", "level"]) (k := 9) (ms := ⟨[], []⟩) (io := none) (fr := false) (g := b_Family_full) F (fscB_ok (by decide +kernel)) (msB_ok (by decide)) (by decide) ?_
  intro cdv A outer s H E hr
  exact (dss_cons (ds_expr (de_call (k_check_lots c) (Room.mono hr (by decide : 5 ≤ 9)) rfl (g_check_lots c) (kp_check_lots c) takesD (da_cons (de_var 1) (da_cons (de_var 2) (da_cons (de_tup da_nil) da_nil)))))
  (dss_one (ds_ret (de_makeL 0 (mktok4 c rfl) (Room.mono hr (by decide : 9 ≤ 9)) takesD (da_cons (de_var 1) (da_cons (de_var 2) (da_cons (de_call (k__lots c) (Room.mono hr (by decide : 2 ≤ 9)) rfl (g__lots c) (kp__lots c) takesD (da_cons (de_var 1) (da_cons (de_var 2) da_nil))) da_nil)))))))
theorem k_Family_full (c : Cz P w K mg) : FnR P w K mg base (L2.CX P w) 10 (pCm "Family" "full" K) (SpD ⟨K, P, w, []⟩ 3 none false m_Family_full) := by
  obtain ⟨fd, F⟩ := Df.fun_ (c.told.df 24 (d := d_Family_full) rfl) rfl
  exact fnR_all (ok_Family_full F c) (F.bindsN fun _ _ _ _ _ _ us hl => match us, hl with | [_, _, _], _ => rfl)
theorem cm_Family_full {X : Cx} (c : Cz X.prog X.w X.K X.mg) (hx : tx X = ⟨X.K, X.prog, X.w, []⟩) : CmOk X 10 3 100 43 m_Family_full := ⟨_, _, _, (cmf_Family_full c).1, (cmf_Family_full c).2, by (unfold Fn; rw [hx]; exact FnR.up (k_Family_full c) (by decide))⟩
theorem ok_check_lot {fd : FuncData} (F : FunD K d_check_lot.name d_check_lot.qual d_check_lot.params d_check_lot.body d_check_lot.scope (d_check_lot.dfl.map (He.Dv.v K)) [] (He.ga K "check_lot") fd) (c : Cz P w K mg) : FnOk P w K mg base (L2.CX P w) 5 (He.ga K "check_lot") fd ["size", "level", "things"] (SpD ⟨K, P, w, []⟩ 3 none false m_check_lot) := by
  refine fnD (N := n_check_lot) (ps := ["size", "level", "things"]) (k := 4) (ms := ⟨[], []⟩) (io := none) (fr := false) (g := b_check_lot) F (fscB_ok (by decide +kernel)) (msB_ok (by decide)) (by decide) ?_
  intro cdv A outer s H E hr
  exact (dss_cons (ds_expr (de_call (k__check_shape c) (Room.mono hr (by decide : 4 ≤ 4)) rfl (g__check_shape c) (kp__check_shape c) takesD (da_cons (de_var 0) (da_cons (de_var 1) da_nil))))
  (dss_one (ds_ret (de_call (k__check_things c) (Room.mono hr (by decide : 4 ≤ 4)) rfl (g__check_things c) (kp__check_things c) takesD (da_cons (de_var 0) (da_cons (de_var 1) (da_cons (de_var 2) da_nil)))))))
theorem k_check_lot (c : Cz P w K mg) : FnR P w K mg base (L2.CX P w) 5 (He.ga K "check_lot") (SpD ⟨K, P, w, []⟩ 3 none false m_check_lot) := by
  obtain ⟨fd, F⟩ := Df.fun_ (c.told.df 25 (d := d_check_lot) rfl) rfl
  exact fnR_all (ok_check_lot F c) (F.bindsN fun _ _ _ _ _ _ us hl => match us, hl with | [_, _, _], _ => rfl)
theorem ok__changed {fd : FuncData} (F : FunD K d__changed.name d__changed.qual d__changed.params d__changed.body d__changed.scope (d__changed.dfl.map (He.Dv.v K)) [] (He.ga K "_changed") fd) (c : Cz P w K mg) : FnOk P w K mg base (L2.CX P w) 2 (He.ga K "_changed") fd ["marked", "lot"] (SpD ⟨K, P, w, []⟩ 2 none false m__changed) := by
  refine fnD (N := n__changed) (ps := ["marked", "lot"]) (k := 1) (ms := ⟨[], []⟩) (io := none) (fr := false) (g := b__changed) F (fscB_ok (by decide +kernel)) (msB_ok (by decide)) (by decide) ?_
  intro cdv A outer s H E hr
  exact (dss_cons (ds_if (dt_cmp (op_inA (units1 hr)) pu_in (de_var 1) (DE.dk (de_var 0)))
  (dss_one (ds_ret (de_call1T call_tuple_of pu_tuple rfl (f_tuple c) (by first | rfl | kernel_rfl) (DE.dk (DF.de (df_lc 2 (di_seq (de_var 0)) (dts_one rfl (fun s0 H0 C cl fp => (dt_cmp (op_neD hr.units) pu_ne (de_var 2) (DE.dk (de_var 1))))) (fun s0 H0 C cl fp => (de_var 2)) rfl n_nd__changed (blkB_ok rfl) (fun s0 H0 C cl fp => pg_name n_nd__changed (i := 2) rfl (by first | exact Or.inl rfl | exact Or.inr rfl))))))))
  dss_nil)
  (dss_one (ds_ret (de_call1T call_tuple_of pu_tuple rfl (f_tuple c) (by first | rfl | kernel_rfl) (DE.dk (DF.de (df_call1B (cr_sortedD hr.units) pu_sorted rfl (f_sorted c) (by first | rfl | kernel_rfl) (DE.dk (DF.de (df_op op_cat pu_cat (DF.de (df_call1T call_list_of pu_list rfl (f_list c) (by first | rfl | kernel_rfl) (DE.dk (de_var 0)))) (DE.dk (DF.de (df_lst (da_cons (de_var 1) da_nil))))))))))))))
theorem k__changed (c : Cz P w K mg) : FnR P w K mg base (L2.CX P w) 2 (He.ga K "_changed") (SpD ⟨K, P, w, []⟩ 2 none false m__changed) := by
  obtain ⟨fd, F⟩ := Df.fun_ (c.told.df 26 (d := d__changed) rfl) rfl
  exact fnR_all (ok__changed F c) (F.bindsN fun _ _ _ _ _ _ us hl => match us, hl with | [_, _], _ => rfl)
theorem ok_Marks_flipped {fd : FuncData} (F : FunD K d_Marks_flipped.name d_Marks_flipped.qual d_Marks_flipped.params d_Marks_flipped.body d_Marks_flipped.scope (d_Marks_flipped.dfl.map (He.Dv.v K)) [] (He.ma K (He.ga K "Marks") "flipped") fd) (c : Cz P w K mg) : FnOk P w K mg base (L2.CX P w) 8 (He.ma K (He.ga K "Marks") "flipped") fd ["self", "lot"] (SpD ⟨K, P, w, []⟩ 2 none false m_Marks_flipped) := by
  refine fnD (N := n_Marks_flipped) (ps := ["self", "lot"]) (k := 7) (ms := ⟨[], []⟩) (io := none) (fr := false) (g := b_Marks_flipped) F (fscB_ok (by decide +kernel)) (msB_ok (by decide)) (by decide) ?_
  intro cdv A outer s H E hr
  exact (dss_cons (ds_set 2 (de_call (k_check_lot c) (Room.mono hr (by decide : 5 ≤ 7)) rfl (g_check_lot c) (kp_check_lot c) takesD (da_cons (de_fld ocs 53 (fld_size c) (DE.dk (de_var 0))) (da_cons (de_fld ocs 83 (fld_level c) (DE.dk (de_var 0))) (da_cons (de_var 1) da_nil)))) n_nd_Marks_flipped)
  (dss_one (ds_ret (de_make 62 (mk_Marks_4 c rfl) (Room.mono hr (by decide : 7 ≤ 7)) rfl (g_Marks c) takesD (da_cons (de_fld ocs 53 (fld_size c) (DE.dk (de_var 0))) (da_cons (de_fld ocs 83 (fld_level c) (DE.dk (de_var 0))) (da_cons (de_call (k__changed c) (Room.mono hr (by decide : 2 ≤ 7)) rfl (g__changed c) (kp__changed c) takesD (da_cons (de_fld ocs 122 (fld_marked c) (DE.dk (de_var 0))) (da_cons (de_var 2) da_nil))) da_nil)))))))
theorem k_Marks_flipped (c : Cz P w K mg) : FnR P w K mg base (L2.CX P w) 8 (He.ma K (He.ga K "Marks") "flipped") (SpD ⟨K, P, w, []⟩ 2 none false m_Marks_flipped) := by
  obtain ⟨fd, F⟩ := Df.fun_ (c.told.df 27 (d := d_Marks_flipped) rfl) rfl
  exact fnR_all (ok_Marks_flipped F c) (F.bindsN fun _ _ _ _ _ _ us hl => match us, hl with | [_, _], _ => rfl)
theorem ok_Family_flipped {fd : FuncData} (F : FunD K d_Family_flipped.name d_Family_flipped.qual d_Family_flipped.params d_Family_flipped.body d_Family_flipped.scope (d_Family_flipped.dfl.map (He.Dv.v K)) [] (He.ma K (He.ga K "Family") "flipped") fd) (c : Cz P w K mg) : FnOk P w K mg base (L2.CX P w) 10 (He.ma K (He.ga K "Family") "flipped") fd ["self", "lot"] (SpD ⟨K, P, w, []⟩ 2 none false m_Family_flipped) := by
  refine fnD (N := n_Family_flipped) (ps := ["self", "lot"]) (k := 9) (ms := ⟨[], []⟩) (io := none) (fr := false) (g := b_Family_flipped) F (fscB_ok (by decide +kernel)) (msB_ok (by decide)) (by decide) ?_
  intro cdv A outer s H E hr
  exact (dss_cons (ds_set 2 (de_call (k_check_lot c) (Room.mono hr (by decide : 5 ≤ 9)) rfl (g_check_lot c) (kp_check_lot c) takesD (da_cons (de_fld ocs 53 (fld_size c) (DE.dk (de_var 0))) (da_cons (de_fld ocs 83 (fld_level c) (DE.dk (de_var 0))) (da_cons (de_var 1) da_nil)))) n_nd_Family_flipped)
  (dss_cons (ds_set 3 (de_call (k__changed c) (Room.mono hr (by decide : 2 ≤ 9)) rfl (g__changed c) (kp__changed c) takesD (da_cons (de_fld ocs 122 (fld_marked c) (DE.dk (de_var 0))) (da_cons (de_var 2) da_nil))) n_nd_Family_flipped)
  (dss_cons (ds_set 4 (de_call (k__least_break c) (Room.mono hr (by decide : 3 ≤ 9)) rfl (g__least_break c) (kp__least_break c) takesD (da_cons (de_fld ocs 53 (fld_size c) (DE.dk (de_var 0))) (da_cons (de_fld ocs 83 (fld_level c) (DE.dk (de_var 0))) (da_cons (de_var 3) da_nil)))) n_nd_Family_flipped)
  (dss_cons (ds_if (dt_cmp op_notN pu_notN (de_var 4) (DE.dk de_non))
  (dss_one (ds_raise 136 [47] rfl (ex_NotFlip c) (Room.mono hr (by decide : 2 ≤ 9)) rfl (g_NotFlip c) takesD (da_cons (de_var 4) da_nil)))
  dss_nil)
  (dss_one (ds_ret (de_make 100 (mk_Family_4 c rfl) (Room.mono hr (by decide : 9 ≤ 9)) rfl (g_Family c) takesD (da_cons (de_fld ocs 53 (fld_size c) (DE.dk (de_var 0))) (da_cons (de_fld ocs 83 (fld_level c) (DE.dk (de_var 0))) (da_cons (de_var 3) da_nil))))))))))
theorem k_Family_flipped (c : Cz P w K mg) : FnR P w K mg base (L2.CX P w) 10 (He.ma K (He.ga K "Family") "flipped") (SpD ⟨K, P, w, []⟩ 2 none false m_Family_flipped) := by
  obtain ⟨fd, F⟩ := Df.fun_ (c.told.df 29 (d := d_Family_flipped) rfl) rfl
  exact fnR_all (ok_Family_flipped F c) (F.bindsN fun _ _ _ _ _ _ us hl => match us, hl with | [_, _], _ => rfl)
theorem mtok_flipped {X : Cx} (c : Cz X.prog X.w X.K X.mg) (hx : tx X = ⟨X.K, X.prog, X.w, []⟩) : MtOk X 10 2 147 false mt_flipped := fun p h => by
  rcases List.mem_cons.mp h with rfl | h
  · exact ⟨cl_Marks c, _, me_Marks_flipped c, by (unfold Fn; rw [hx]; exact FnR.up (k_Marks_flipped c) (by decide))⟩
  rcases List.mem_cons.mp h with rfl | h
  · exact ⟨cl_Family c, _, me_Family_flipped c, by (unfold Fn; rw [hx]; exact FnR.up (k_Family_flipped c) (by decide))⟩
  · cases h
theorem ok__law_flip_told {fd : FuncData} (F : FunD K d__law_flip_told.name d__law_flip_told.qual d__law_flip_told.params d__law_flip_told.body d__law_flip_told.scope (d__law_flip_told.dfl.map (He.Dv.v K)) [] (He.ga K "_law_flip_told") fd) (c : Cz P w K mg) : FnOk P w K mg base (L2.CX P w) 11 (He.ga K "_law_flip_told") fd ["_law_made", "_law_lot"] (SpD ⟨K, P, w, []⟩ 2 none false m__law_flip_told) := by
  refine fnD (N := n__law_flip_told) (ps := ["_law_made", "_law_lot"]) (k := 10) (ms := ⟨[], []⟩) (io := none) (fr := false) (g := b__law_flip_told) F (fscB_ok (by decide +kernel)) (msB_ok (by decide)) (by decide) ?_
  intro cdv A outer s H E hr
  exact (dss_cons (ds_set 2 (de_tup (da_cons (de_str 51) (da_cons de_int da_nil))) n_nd__law_flip_told)
  (dss_cons (ds_try (krf := rkD) rfl rfl rfl n_nd__law_flip_told takesD krt_D (fun Wy pn xe tk po => (dss_one (ds_set 2 (de_tup (da_cons (de_str 44) (da_cons (de_mth 147 (mtok_flipped c rfl) (Room.mono hr (by decide : 10 ≤ 10)) tk (de_var 0) (da_cons (de_var 1) da_nil)) da_nil))) n_nd__law_flip_told))) (.cons ⟨rfl, hdn_NotFlip c rfl, hdy_NotFlip c, hdno_NotFlip c, ⟨rfl, rfl, rfl, rfl⟩, fun a oe pn => (dss_one (ds_set 2 (de_tup (da_cons (de_str 24) (da_cons (de_xf 3 [136] 47 (xf_NotFlip_lots c)) da_nil))) n_nd__law_flip_told))⟩ (.cons ⟨rfl, hdn_BadLot c rfl, hdy_BadLot c, hdno_BadLot c, ⟨rfl, rfl, rfl, rfl⟩, fun a oe pn => (dss_one (ds_set 2 (de_tup (da_cons (de_str 20) (da_cons (de_xf 3 [96] 88 (xf_BadLot_place c)) da_nil))) n_nd__law_flip_told))⟩ .nil)))
  (dss_one (ds_ret (de_var 2)))))
theorem k__law_flip_told (c : Cz P w K mg) : FnR P w K mg base (L2.CX P w) 11 (He.ga K "_law_flip_told") (SpD ⟨K, P, w, []⟩ 2 none false m__law_flip_told) := by
  obtain ⟨fd, F⟩ := Df.fun_ (c.told.df 30 (d := d__law_flip_told) rfl) rfl
  exact fnR_all (ok__law_flip_told F c) (F.bindsN fun _ _ _ _ _ _ us hl => match us, hl with | [_, _], _ => rfl)
theorem ok_break_of {fd : FuncData} (F : FunD K d_break_of.name d_break_of.qual d_break_of.params d_break_of.body d_break_of.scope (d_break_of.dfl.map (He.Dv.v K)) [] (He.ga K "break_of") fd) (c : Cz P w K mg) : FnOk P w K mg base (L2.CX P w) 4 (He.ga K "break_of") fd ["marks"] (SpD ⟨K, P, w, []⟩ 1 none false m_break_of) := by
  refine fnD (N := n_break_of) (ps := ["marks"]) (k := 3) (ms := ⟨[], []⟩) (io := none) (fr := false) (g := b_break_of) F (fscB_ok (by decide +kernel)) (msB_ok (by decide)) (by decide) ?_
  intro cdv A outer s H E hr
  exact (dss_one (ds_ret (de_call (k__least_break c) (Room.mono hr (by decide : 3 ≤ 3)) rfl (g__least_break c) (kp__least_break c) takesD (da_cons (de_fld ocs 53 (fld_size c) (DE.dk (de_var 0))) (da_cons (de_fld ocs 83 (fld_level c) (DE.dk (de_var 0))) (da_cons (de_fld ocs 122 (fld_marked c) (DE.dk (de_var 0))) da_nil))))))
theorem k_break_of (c : Cz P w K mg) : FnR P w K mg base (L2.CX P w) 4 (He.ga K "break_of") (SpD ⟨K, P, w, []⟩ 1 none false m_break_of) := by
  obtain ⟨fd, F⟩ := Df.fun_ (c.told.df 31 (d := d_break_of) rfl) rfl
  exact fnR_all (ok_break_of F c) (F.bindsN fun _ _ _ _ _ _ us hl => match us, hl with | [_], _ => rfl)
theorem ok_keeps {fd : FuncData} (F : FunD K d_keeps.name d_keeps.qual d_keeps.params d_keeps.body d_keeps.scope (d_keeps.dfl.map (He.Dv.v K)) [] (He.ga K "keeps") fd) (c : Cz P w K mg) : FnOk P w K mg base (L2.CX P w) 5 (He.ga K "keeps") fd ["marks"] (SpD ⟨K, P, w, []⟩ 1 none false m_keeps) := by
  refine fnD (N := n_keeps) (ps := ["marks"]) (k := 4) (ms := ⟨[], []⟩) (io := none) (fr := false) (g := b_keeps) F (fscB_ok (by decide +kernel)) (msB_ok (by decide)) (by decide) ?_
  intro cdv A outer s H E hr
  exact (dss_one (ds_ret (de_cmp op_isN pu_isN (de_call (k_break_of c) (Room.mono hr (by decide : 4 ≤ 4)) rfl (g_break_of c) (kp_break_of c) takesD (da_cons (de_var 0) da_nil)) (DE.dk de_non))))
theorem k_keeps (c : Cz P w K mg) : FnR P w K mg base (L2.CX P w) 5 (He.ga K "keeps") (SpD ⟨K, P, w, []⟩ 1 none false m_keeps) := by
  obtain ⟨fd, F⟩ := Df.fun_ (c.told.df 32 (d := d_keeps) rfl) rfl
  exact fnR_all (ok_keeps F c) (F.bindsN fun _ _ _ _ _ _ us hl => match us, hl with | [_], _ => rfl)
theorem ok_Marks___eq__ {fd : FuncData} (F : FunD K d_Marks___eq__.name d_Marks___eq__.qual d_Marks___eq__.params d_Marks___eq__.body d_Marks___eq__.scope (d_Marks___eq__.dfl.map (He.Dv.v K)) [] (He.ma K (He.ga K "Marks") "__eq__") fd) (c : Cz P w K mg) : FnOk P w K mg base (L2.CX P w) 2 (He.ma K (He.ga K "Marks") "__eq__") fd ["self", "other"] (SpD ⟨K, P, w, []⟩ 2 none false m_Marks___eq__) := by
  refine fnD (N := n_Marks___eq__) (ps := ["self", "other"]) (k := 1) (ms := ⟨[], []⟩) (io := none) (fr := false) (g := b_Marks___eq__) F (fscB_ok (by decide +kernel)) (msB_ok (by decide)) (by decide) ?_
  intro cdv A outer s H E hr
  exact (dss_one (ds_ret (de_and (de_isaC is_Marks 62 (isok_Marks c) (DE.dk (de_var 1)) rfl (f_isinstance c) rfl (g_Marks c)) (de_and (de_cmp (op_eqD hr.units) pu_eq (de_fld ocs 53 (fld_size c) (DE.dk (de_var 0))) (DE.dk (de_fld ocs 53 (fld_size c) (DE.dk (de_var 1))))) (de_and (de_cmp (op_eqD hr.units) pu_eq (de_fld ocs 83 (fld_level c) (DE.dk (de_var 0))) (DE.dk (de_fld ocs 83 (fld_level c) (DE.dk (de_var 1))))) (de_one (de_cmp (op_eqD hr.units) pu_eq (de_fld ocs 122 (fld_marked c) (DE.dk (de_var 0))) (DE.dk (de_fld ocs 122 (fld_marked c) (DE.dk (de_var 1)))))))))))
theorem k_Marks___eq__ (c : Cz P w K mg) : FnR P w K mg base (L2.CX P w) 2 (He.ma K (He.ga K "Marks") "__eq__") (SpD ⟨K, P, w, []⟩ 2 none false m_Marks___eq__) := by
  obtain ⟨fd, F⟩ := Df.fun_ (c.told.df 33 (d := d_Marks___eq__) rfl) rfl
  exact fnR_all (ok_Marks___eq__ F c) (F.bindsN fun _ _ _ _ _ _ us hl => match us, hl with | [_, _], _ => rfl)
theorem to_eq {X : Cx} (c : Cz X.prog X.w X.K X.mg) (hx : tx X = ⟨X.K, X.prog, X.w, []⟩) : EqOk X 2 t_eq := fun p h => by
  rcases List.mem_cons.mp h with rfl | h
  · exact ⟨⟨_, me_Marks_eq c, by (unfold Fn; rw [hx]; exact FnR.up (k_Marks___eq__ c) (by decide))⟩, (ne_Marks c).1, (ne_Marks c).2, fun i hi => by (have z : i ∈ ([62] : List Nat) := mem_cs hi; simp only [List.mem_cons, List.not_mem_nil, or_false] at z; rcases z with rfl <;> first | exact nf_Marks_Marks c)⟩
  rcases List.mem_cons.mp h with rfl | h
  · exact ⟨⟨_, me_Family_eq c, by (unfold Fn; rw [hx]; exact FnR.up (k_Marks___eq__ c) (by decide))⟩, (ne_Family c).1, (ne_Family c).2, fun i hi => by (have z : i ∈ ([62, 100] : List Nat) := mem_cs hi; simp only [List.mem_cons, List.not_mem_nil, or_false] at z; rcases z with rfl | rfl <;> first | exact nf_Family_Marks c | exact nf_Family_Family c)⟩
  · cases h
theorem ok_Marks_full {fd : FuncData} (F : FunD K d_Marks_full.name d_Marks_full.qual d_Marks_full.params d_Marks_full.body d_Marks_full.scope (d_Marks_full.dfl.map (He.Dv.v K)) [] (pCm "Marks" "full" K) fd) (c : Cz P w K mg) : FnOk P w K mg base (L2.CX P w) 10 (pCm "Marks" "full" K) fd ["cls", "size", "level"] (SpD ⟨K, P, w, []⟩ 3 none false m_Marks_full) := by
  refine fnD (N := n_Marks_full) (ps := ["cls", "size", "level"]) (k := 9) (ms := ⟨[], []⟩) (io := none) (fr := false) (g := b_Marks_full) F (fscB_ok (by decide +kernel)) (msB_ok (by decide)) (by decide) ?_
  intro cdv A outer s H E hr
  exact (dss_cons (ds_expr (de_call (k_check_lots c) (Room.mono hr (by decide : 5 ≤ 9)) rfl (g_check_lots c) (kp_check_lots c) takesD (da_cons (de_var 1) (da_cons (de_var 2) (da_cons (de_tup da_nil) da_nil)))))
  (dss_one (ds_ret (de_makeL 0 (mktok4 c rfl) (Room.mono hr (by decide : 9 ≤ 9)) takesD (da_cons (de_var 1) (da_cons (de_var 2) (da_cons (de_call (k__lots c) (Room.mono hr (by decide : 2 ≤ 9)) rfl (g__lots c) (kp__lots c) takesD (da_cons (de_var 1) (da_cons (de_var 2) da_nil))) da_nil)))))))
theorem k_Marks_full (c : Cz P w K mg) : FnR P w K mg base (L2.CX P w) 10 (pCm "Marks" "full" K) (SpD ⟨K, P, w, []⟩ 3 none false m_Marks_full) := by
  obtain ⟨fd, F⟩ := Df.fun_ (c.told.df 34 (d := d_Marks_full) rfl) rfl
  exact fnR_all (ok_Marks_full F c) (F.bindsN fun _ _ _ _ _ _ us hl => match us, hl with | [_, _, _], _ => rfl)
theorem cm_Marks_full {X : Cx} (c : Cz X.prog X.w X.K X.mg) (hx : tx X = ⟨X.K, X.prog, X.w, []⟩) : CmOk X 10 3 62 43 m_Marks_full := ⟨_, _, _, (cmf_Marks_full c).1, (cmf_Marks_full c).2, by (unfold Fn; rw [hx]; exact FnR.up (k_Marks_full c) (by decide))⟩
theorem ok_Marks___len__ {fd : FuncData} (F : FunD K d_Marks___len__.name d_Marks___len__.qual d_Marks___len__.params d_Marks___len__.body d_Marks___len__.scope (d_Marks___len__.dfl.map (He.Dv.v K)) [] (He.ma K (He.ga K "Marks") "__len__") fd) (c : Cz P w K mg) : FnOk P w K mg base (L2.CX P w) 2 (He.ma K (He.ga K "Marks") "__len__") fd ["self"] (SpD ⟨K, P, w, []⟩ 1 none false m_Marks___len__) := by
  refine fnD (N := n_Marks___len__) (ps := ["self"]) (k := 1) (ms := ⟨[], []⟩) (io := none) (fr := false) (g := b_Marks___len__) F (fscB_ok (by decide +kernel)) (msB_ok (by decide)) (by decide) ?_
  intro cdv A outer s H E hr
  exact (dss_one (ds_ret (de_call1B call_len_seq pu_len rfl (f_len c) (by first | rfl | kernel_rfl) (DE.dk (de_fld ocs 122 (fld_marked c) (DE.dk (de_var 0)))))))
theorem k_Marks___len__ (c : Cz P w K mg) : FnR P w K mg base (L2.CX P w) 2 (He.ma K (He.ga K "Marks") "__len__") (SpD ⟨K, P, w, []⟩ 1 none false m_Marks___len__) := by
  obtain ⟨fd, F⟩ := Df.fun_ (c.told.df 35 (d := d_Marks___len__) rfl) rfl
  exact fnR_all (ok_Marks___len__ F c) (F.bindsN fun _ _ _ _ _ _ us hl => match us, hl with | [_], _ => rfl)
theorem to_len {X : Cx} (c : Cz X.prog X.w X.K X.mg) (hx : tx X = ⟨X.K, X.prog, X.w, []⟩) : LenOk X 2 t_len := fun p h => by
  rcases List.mem_cons.mp h with rfl | h
  · exact ⟨_, me_Marks_len c, by (unfold Fn; rw [hx]; exact FnR.up (k_Marks___len__ c) (by decide))⟩
  rcases List.mem_cons.mp h with rfl | h
  · exact ⟨_, me_Family_len c, by (unfold Fn; rw [hx]; exact FnR.up (k_Marks___len__ c) (by decide))⟩
  · cases h
theorem ok__law_other_levels {fd : FuncData} (F : FunD K d__law_other_levels.name d__law_other_levels.qual d__law_other_levels.params d__law_other_levels.body d__law_other_levels.scope (d__law_other_levels.dfl.map (He.Dv.v K)) [] (He.ga K "_law_other_levels") fd) (c : Cz P w K mg) : FnOk P w K mg base (L2.CX P w) 12 (He.ga K "_law_other_levels") fd ["_law_draws_here", "_law_size"] (SpD ⟨K, P, w, []⟩ 2 (some 0) false m__law_other_levels) := by
  refine fnD (N := n__law_other_levels) (ps := ["_law_draws_here", "_law_size"]) (k := 11) (ms := ⟨[0], [0]⟩) (io := (some 0)) (fr := false) (g := b__law_other_levels) F (fscB_ok (by decide +kernel)) (msB_ok (by decide)) (by decide) ?_
  intro cdv A outer s H E hr
  exact (dss_cons (ds_for 2 (di_seq (DF.de (df_lst (da_cons de_int (da_cons de_int (da_cons (de_var 1) (da_cons (de_op op_addA pu_add (de_var 1) (DE.dk de_int)) da_nil))))))) (dss_cons (ds_set 3 (de_call (k__law_lots c) (Room.mono hr (by decide : 2 ≤ 11)) rfl (g__law_lots c) (kp__law_lots c) takesD (da_cons (de_var 1) (da_cons (de_var 2) da_nil))) n_nd__law_other_levels)
  (dss_cons (tmS_lc 5 4 (di_seq (de_var 3)) dts_nil (fun s0 H0 C cl fp => (de_callIo 0 (k__law_take c) (Room.mono hr (by decide : 2 ≤ 11)) rfl (g__law_take c) (kp__law_take c) takesF (da_cons de_int da_nil))) rfl n_nd__law_other_levels (blkB_ok rfl) (fun s0 H0 C cl fp => pg_name n_nd__law_other_levels (i := 4) rfl (by first | exact Or.inl rfl | exact Or.inr rfl)))
  (dss_cons (ds_set 6 (de_clsM 62 124 (cm_Marks_of_row c rfl) (Room.mono hr (by decide : 10 ≤ 11)) takesD (de_cls 62 rfl (g_Marks c)) (da_cons (de_var 1) (da_cons (de_var 2) (da_cons (de_var 5) da_nil)))) n_nd__law_other_levels)
  (dss_cons (ds_if (DW.dt (dw_or (dt_not (dt_val (de_call (k_keeps c) (Room.mono hr (by decide : 5 ≤ 11)) rfl (g_keeps c) (kp_keeps c) takesD (da_cons (de_var 6) da_nil)))) (dw_or1 (dt_not (dt_cmpR (op_ownEq (Room.mono hr (by decide : 2 ≤ 11))) (pu_ownEq (to_eq c rfl)) (de_clsM 100 124 (cm_Family_of_row c rfl) (Room.mono hr (by decide : 10 ≤ 11)) takesD (de_cls 100 rfl (g_Family c)) (da_cons (de_var 1) (da_cons (de_var 2) (da_cons (de_var 5) da_nil)))) (de_var 6))))))
  (dss_one (ds_ret de_bl))
  dss_nil)
  (dss_cons (ds_if (DW.dt (dw_or (dt_val (de_isaC is_Family 100 (isok_Family c) (DE.dk (de_var 6)) rfl (f_isinstance c) rfl (g_Family c))) (dw_or1 (dt_val (de_isaC is_Family 100 (isok_Family c) (DE.dk (de_clsM 62 43 (cm_Marks_full c rfl) (Room.mono hr (by decide : 10 ≤ 11)) takesD (de_cls 62 rfl (g_Marks c)) (da_cons (de_var 1) (da_cons (de_var 2) da_nil)))) rfl (f_isinstance c) rfl (g_Family c))))))
  (dss_one (ds_ret de_bl))
  dss_nil)
  (dss_cons (ds_for 7 (di_seq (DF.de (df_lst (da_cons (de_clsM 100 124 (cm_Family_of_row c rfl) (Room.mono hr (by decide : 10 ≤ 11)) takesD (de_cls 100 rfl (g_Family c)) (da_cons (de_var 1) (da_cons (de_var 2) (da_cons (de_var 5) da_nil)))) (da_cons (de_clsM 100 51 (cm_Family_none c rfl) (Room.mono hr (by decide : 10 ≤ 11)) takesD (de_cls 100 rfl (g_Family c)) (da_cons (de_var 1) (da_cons (de_var 2) da_nil))) (da_cons (de_clsM 100 43 (cm_Family_full c rfl) (Room.mono hr (by decide : 10 ≤ 11)) takesD (de_cls 100 rfl (g_Family c)) (da_cons (de_var 1) (da_cons (de_var 2) da_nil))) da_nil)))))) (dss_one (ds_if (DW.dt (dw_or (dt_not (dt_val (de_isaC is_Family 100 (isok_Family c) (DE.dk (de_var 7)) rfl (f_isinstance c) rfl (g_Family c)))) (dw_or1 (dt_cmp (op_neD hr.units) pu_ne (de_con cc_WORD 35 (con_WORD c) (DE.dk (de_var 7))) (DE.dk (de_str 117))))))
  (dss_one (ds_ret de_bl))
  dss_nil)) ownsD rfl n_nd__law_other_levels)
  (dss_one (ds_if (dt_cmp op_gt pu_gtI (de_call1B call_len_seq pu_len rfl (f_len c) (by first | rfl | kernel_rfl) (DE.dk (de_var 3))) (DE.dk de_int))
  (dss_cons (ds_set 7 (de_call (k__law_flip_told c) (Room.mono hr (by decide : 11 ≤ 11)) rfl (g__law_flip_told c) (kp__law_flip_told c) takesD (da_cons (de_clsM 100 124 (cm_Family_of_row c rfl) (Room.mono hr (by decide : 10 ≤ 11)) takesD (de_cls 100 rfl (g_Family c)) (da_cons (de_var 1) (da_cons (de_var 2) (da_cons (de_var 5) da_nil)))) (da_cons (de_ix (de_var 3) (DE.dk (de_op op_sub pu_sub (de_call1B call_len_seq pu_len rfl (f_len c) (by first | rfl | kernel_rfl) (DE.dk (de_var 3))) (DE.dk de_int)))) da_nil))) n_nd__law_other_levels)
  (dss_one (ds_if (DW.dt (dw_or (dt_cmp (op_neD hr.units) pu_ne (de_ix (de_var 7) (DE.dk de_int)) (DE.dk (de_str 44))) (dw_or1 (dt_cmp (op_neD hr.units) pu_ne (de_lenA (to_len c rfl) (Room.mono hr (by decide : 3 ≤ 11)) (de_ix (de_var 7) (DE.dk de_int)) rfl (f_len c)) (DE.dk (de_op op_sub pu_sub (de_op op_addA pu_add (de_call1B (cr_sum rfl) pu_sum rfl (f_sum c) (by first | rfl | kernel_rfl) (DE.dk (de_var 5))) (DE.dk de_int)) (DE.dk (de_op op_mul pu_mulI de_int (DE.dk (de_ix (de_var 5) (DE.dk (de_op op_sub pu_sub (de_call1B call_len_seq pu_len rfl (f_len c) (by first | rfl | kernel_rfl) (DE.dk (de_var 3))) (DE.dk de_int)))))))))))))
  (dss_one (ds_ret de_bl))
  dss_nil)))
  dss_nil)))))))) ownsD rfl n_nd__law_other_levels)
  (dss_one (ds_ret de_bl)))
theorem k__law_other_levels (c : Cz P w K mg) : FnR P w K mg base (L2.CX P w) 12 (He.ga K "_law_other_levels") (SpD ⟨K, P, w, []⟩ 2 (some 0) false m__law_other_levels) := by
  obtain ⟨fd, F⟩ := Df.fun_ (c.told.df 36 (d := d__law_other_levels) rfl) rfl
  exact fnR_all (ok__law_other_levels F c) (F.bindsN fun _ _ _ _ _ _ us hl => match us, hl with | [_, _], _ => rfl)
theorem ok__law_member {fd : FuncData} (F : FunD K d__law_member.name d__law_member.qual d__law_member.params d__law_member.body d__law_member.scope (d__law_member.dfl.map (He.Dv.v K)) [] (He.ga K "_law_member") fd) (c : Cz P w K mg) : FnOk P w K mg base (L2.CX P w) 2 (He.ga K "_law_member") fd ["_law_lots_here", "_law_place"] (SpD ⟨K, P, w, []⟩ 2 none false m__law_member) := by
  refine fnD (N := n__law_member) (ps := ["_law_lots_here", "_law_place"]) (k := 1) (ms := ⟨[], []⟩) (io := none) (fr := false) (g := b__law_member) F (fscB_ok (by decide +kernel)) (msB_ok (by decide)) (by decide) ?_
  intro cdv A outer s H E hr
  exact (dss_cons (ds_set 2 (de_call1B call_len_seq pu_len rfl (f_len c) (by first | rfl | kernel_rfl) (DE.dk (de_var 0))) n_nd__law_member)
  (dss_cons (ds_if (dt_cmp op_le pu_leI (de_var 1) (DE.dk (de_var 2)))
  (dss_one (ds_ret (de_slice (de_var 0) dp_none (dp_some (de_var 1)))))
  dss_nil)
  (dss_one (ds_ret (de_slice (de_var 0) (dp_some (de_op op_sub pu_sub (de_var 1) (DE.dk (de_var 2)))) dp_none)))))
theorem k__law_member (c : Cz P w K mg) : FnR P w K mg base (L2.CX P w) 2 (He.ga K "_law_member") (SpD ⟨K, P, w, []⟩ 2 none false m__law_member) := by
  obtain ⟨fd, F⟩ := Df.fun_ (c.told.df 37 (d := d__law_member) rfl) rfl
  exact fnR_all (ok__law_member F c) (F.bindsN fun _ _ _ _ _ _ us hl => match us, hl with | [_, _], _ => rfl)
theorem ok_Marks___xor__ {fd : FuncData} (F : FunD K d_Marks___xor__.name d_Marks___xor__.qual d_Marks___xor__.params d_Marks___xor__.body d_Marks___xor__.scope (d_Marks___xor__.dfl.map (He.Dv.v K)) [] (He.ma K (He.ga K "Marks") "__xor__") fd) (c : Cz P w K mg) : FnOk P w K mg base (L2.CX P w) 8 (He.ma K (He.ga K "Marks") "__xor__") fd ["self", "lot"] (SpD ⟨K, P, w, []⟩ 2 none false m_Marks___xor__) := by
  refine fnD (N := n_Marks___xor__) (ps := ["self", "lot"]) (k := 7) (ms := ⟨[], []⟩) (io := none) (fr := false) (g := b_Marks___xor__) F (fscB_ok (by decide +kernel)) (msB_ok (by decide)) (by decide) ?_
  intro cdv A outer s H E hr
  exact (dss_cons (ds_set 2 (de_call (k_check_lot c) (Room.mono hr (by decide : 5 ≤ 7)) rfl (g_check_lot c) (kp_check_lot c) takesD (da_cons (de_fld ocs 53 (fld_size c) (DE.dk (de_var 0))) (da_cons (de_fld ocs 83 (fld_level c) (DE.dk (de_var 0))) (da_cons (de_var 1) da_nil)))) n_nd_Marks___xor__)
  (dss_one (ds_ret (de_make 62 (mk_Marks_4 c rfl) (Room.mono hr (by decide : 7 ≤ 7)) rfl (g_Marks c) takesD (da_cons (de_fld ocs 53 (fld_size c) (DE.dk (de_var 0))) (da_cons (de_fld ocs 83 (fld_level c) (DE.dk (de_var 0))) (da_cons (de_call (k__changed c) (Room.mono hr (by decide : 2 ≤ 7)) rfl (g__changed c) (kp__changed c) takesD (da_cons (de_fld ocs 122 (fld_marked c) (DE.dk (de_var 0))) (da_cons (de_var 2) da_nil))) da_nil)))))))
theorem k_Marks___xor__ (c : Cz P w K mg) : FnR P w K mg base (L2.CX P w) 8 (He.ma K (He.ga K "Marks") "__xor__") (SpD ⟨K, P, w, []⟩ 2 none false m_Marks___xor__) := by
  obtain ⟨fd, F⟩ := Df.fun_ (c.told.df 38 (d := d_Marks___xor__) rfl) rfl
  exact fnR_all (ok_Marks___xor__ F c) (F.bindsN fun _ _ _ _ _ _ us hl => match us, hl with | [_, _], _ => rfl)
theorem to_xor {X : Cx} (c : Cz X.prog X.w X.K X.mg) (hx : tx X = ⟨X.K, X.prog, X.w, []⟩) : XorOk X 8 t_xor := fun p h => by
  rcases List.mem_cons.mp h with rfl | h
  · exact ⟨⟨_, me_Marks_xor c, by (unfold Fn; rw [hx]; exact FnR.up (k_Marks___xor__ c) (by decide))⟩, sf_Marks c⟩
  rcases List.mem_cons.mp h with rfl | h
  · exact ⟨⟨_, me_Family_xor c, by (unfold Fn; rw [hx]; exact FnR.up (k_Marks___xor__ c) (by decide))⟩, sf_Family c⟩
  · cases h
theorem ok__law_least_break {fd : FuncData} (F : FunD K d__law_least_break.name d__law_least_break.qual d__law_least_break.params d__law_least_break.body d__law_least_break.scope (d__law_least_break.dfl.map (He.Dv.v K)) [] (He.ga K "_law_least_break") fd) (c : Cz P w K mg) : FnOk P w K mg base (L2.CX P w) 2 (He.ga K "_law_least_break") fd ["_law_lots_here", "_law_marked"] (SpD ⟨K, P, w, []⟩ 2 none false m__law_least_break) := by
  refine fnD (N := n__law_least_break) (ps := ["_law_lots_here", "_law_marked"]) (k := 1) (ms := ⟨[2], []⟩) (io := none) (fr := false) (g := b__law_least_break) F (fscB_ok (by decide +kernel)) (msB_ok (by decide)) (by decide) ?_
  intro cdv A outer s H E hr
  exact (dss_cons (ds_setF 2 (df_lst da_nil) n_nd__law_least_break)
  (dss_cons (tmS_lc 4 3 (di_seq (de_var 0)) dts_nil (fun s0 H0 C cl fp => (de_cmp (op_inA (units1 hr)) pu_in (de_var 3) (DE.dk (de_var 1)))) rfl n_nd__law_least_break (blkB_ok rfl) (fun s0 H0 C cl fp => pg_name n_nd__law_least_break (i := 3) rfl (by first | exact Or.inl rfl | exact Or.inr rfl)))
  (dss_cons (ds_for 5 (di_rng1 rfl (f_range c) (de_call1B call_len_seq pu_len rfl (f_len c) (by first | rfl | kernel_rfl) (DE.dk (de_var 0)))) (dss_one (ds_for 6 (di_rng2 rfl (f_range c) (de_op op_addA pu_add (de_var 5) (DE.dk de_int)) (de_call1B call_len_seq pu_len rfl (f_len c) (by first | rfl | kernel_rfl) (DE.dk (de_var 0)))) (dss_one (ds_for 7 (di_rng2 rfl (f_range c) (de_op op_addA pu_add (de_var 6) (DE.dk de_int)) (de_call1B call_len_seq pu_len rfl (f_len c) (by first | rfl | kernel_rfl) (DE.dk (de_var 0)))) (dss_one (ds_if (DW.dt (dw_and (dt_cmp (op_eqD hr.units) pu_eq (de_ix (de_var 4) (DE.dk (de_var 5))) (DE.dk (de_ix (de_var 4) (DE.dk (de_var 7))))) (dw_and1 (dt_cmp (op_neD hr.units) pu_ne (de_ix (de_var 4) (DE.dk (de_var 5))) (DE.dk (de_ix (de_var 4) (DE.dk (de_var 6))))))))
  (dss_one (ds_expr (de_append 2 (de_tup (da_cons (de_ix (de_var 0) (DE.dk (de_var 5))) (da_cons (de_ix (de_var 0) (DE.dk (de_var 6))) (da_cons (de_ix (de_var 0) (DE.dk (de_var 7))) da_nil)))))))
  dss_nil)) ownsD rfl n_nd__law_least_break)) ownsD rfl n_nd__law_least_break)) ownsD rfl n_nd__law_least_break)
  (dss_one (ds_ret (de_ix (DF.de (df_call1B (cr_sortedD hr.units) pu_sorted rfl (f_sorted c) (by first | rfl | kernel_rfl) (dk_var 2))) (DE.dk de_int)))))))
theorem k__law_least_break (c : Cz P w K mg) : FnR P w K mg base (L2.CX P w) 2 (He.ga K "_law_least_break") (SpD ⟨K, P, w, []⟩ 2 none false m__law_least_break) := by
  obtain ⟨fd, F⟩ := Df.fun_ (c.told.df 39 (d := d__law_least_break) rfl) rfl
  exact fnR_all (ok__law_least_break F c) (F.bindsN fun _ _ _ _ _ _ us hl => match us, hl with | [_, _], _ => rfl)
theorem ok__law_flips_good {fd : FuncData} (F : FunD K d__law_flips_good.name d__law_flips_good.qual d__law_flips_good.params d__law_flips_good.body d__law_flips_good.scope (d__law_flips_good.dfl.map (He.Dv.v K)) [] (He.ga K "_law_flips_good") fd) (c : Cz P w K mg) : FnOk P w K mg base (L2.CX P w) 12 (He.ga K "_law_flips_good") fd ["_law_size", "_law_lots_here", "_law_place"] (SpD ⟨K, P, w, []⟩ 3 none false m__law_flips_good) := by
  refine fnD (N := n__law_flips_good) (ps := ["_law_size", "_law_lots_here", "_law_place"]) (k := 11) (ms := ⟨[], []⟩) (io := none) (fr := false) (g := b__law_flips_good) F (fscB_ok (by decide +kernel)) (msB_ok (by decide)) (by decide) ?_
  intro cdv A outer s H E hr
  exact (dss_cons (ds_set 3 (de_op op_sub pu_sub (de_var 0) (DE.dk de_int)) n_nd__law_flips_good)
  (dss_cons (ds_set 4 (de_call (k__law_member c) (Room.mono hr (by decide : 2 ≤ 11)) rfl (g__law_member c) (kp__law_member c) takesD (da_cons (de_var 1) (da_cons (de_var 2) da_nil))) n_nd__law_flips_good)
  (dss_cons (ds_set 5 (de_make 100 (mk_Family_4 c rfl) (Room.mono hr (by decide : 9 ≤ 11)) rfl (g_Family c) takesD (da_cons (de_var 0) (da_cons (de_var 3) (da_cons (DF.de (df_call1T call_list_of pu_list rfl (f_list c) (by first | rfl | kernel_rfl) (DE.dk (de_var 4)))) da_nil)))) n_nd__law_flips_good)
  (dss_cons (ds_set 6 (DF.de (df_lst (da_cons (de_call (k__law_member c) (Room.mono hr (by decide : 2 ≤ 11)) rfl (g__law_member c) (kp__law_member c) takesD (da_cons (de_var 1) (da_cons (de_op op_modN pu_mod (de_call1T call_int1 pu_int rfl (f_int c) (by first | rfl | kernel_rfl) (DE.dk (de_op op_addA pu_add (de_var 2) (DE.dk de_int)))) (DE.dk (de_op op_mul pu_mulI de_int (DE.dk (de_var 0))))) da_nil))) (da_cons (de_call (k__law_member c) (Room.mono hr (by decide : 2 ≤ 11)) rfl (g__law_member c) (kp__law_member c) takesD (da_cons (de_var 1) (da_cons (de_op op_modN pu_mod (de_call1T call_int1 pu_int rfl (f_int c) (by first | rfl | kernel_rfl) (DE.dk (de_op op_sub pu_sub (de_var 2) (DE.dk de_int)))) (DE.dk (de_op op_mul pu_mulI de_int (DE.dk (de_var 0))))) da_nil))) da_nil)))) n_nd__law_flips_good)
  (dss_cons (ds_set 7 de_int n_nd__law_flips_good)
  (dss_cons (ds_for 8 (di_seq (de_var 1)) (dss_cons (ds_set 10 (DF.de (df_call1B (cr_sortedD hr.units) pu_sorted rfl (f_sorted c) (by first | rfl | kernel_rfl) (DE.dk (DF.de (df_op op_cat pu_cat (DF.de (df_lc 9 (di_seq (de_var 4)) (dts_one rfl (fun s0 H0 C cl fp => (dt_cmp (op_neD hr.units) pu_ne (de_var 9) (DE.dk (de_var 8))))) (fun s0 H0 C cl fp => (de_var 9)) rfl n_nd__law_flips_good (blkB_ok rfl) (fun s0 H0 C cl fp => pg_name n_nd__law_flips_good (i := 9) rfl (by first | exact Or.inl rfl | exact Or.inr rfl)))) (DE.dk (DF.de (df_lc 9 (di_seq (DF.de (df_lst (da_cons de_int da_nil)))) (dts_one rfl (fun s0 H0 C cl fp => (dt_cmp (op_notInA (units1 hr)) pu_notIn (de_var 8) (DE.dk (de_var 4))))) (fun s0 H0 C cl fp => (de_var 8)) rfl n_nd__law_flips_good (blkB_ok rfl) (fun s0 H0 C cl fp => pg_name n_nd__law_flips_good (i := 9) rfl (by first | exact Or.inl rfl | exact Or.inr rfl)))))))))) n_nd__law_flips_good)
  (dss_cons (ds_set 11 (de_call (k__law_flip_told c) (Room.mono hr (by decide : 11 ≤ 11)) rfl (g__law_flip_told c) (kp__law_flip_told c) takesD (da_cons (de_var 5) (da_cons (DF.de (df_rev (DE.dk (DF.de (df_call1T call_list_of pu_list rfl (f_list c) (by first | rfl | kernel_rfl) (DE.dk (de_var 8))))))) da_nil))) n_nd__law_flips_good)
  (dss_cons (ds_set 12 (de_mth 147 (mtok_flipped c rfl) (Room.mono hr (by decide : 10 ≤ 11)) takesD (de_make 62 (mk_Marks_4 c rfl) (Room.mono hr (by decide : 7 ≤ 11)) rfl (g_Marks c) takesD (da_cons (de_var 0) (da_cons (de_var 3) (da_cons (DF.de (df_call1T call_list_of pu_list rfl (f_list c) (by first | rfl | kernel_rfl) (DE.dk (de_var 4)))) da_nil)))) (da_cons (DF.de (df_rev (DE.dk (DF.de (df_call1T call_list_of pu_list rfl (f_list c) (by first | rfl | kernel_rfl) (DE.dk (de_var 8))))))) da_nil)) n_nd__law_flips_good)
  (dss_cons (ds_if (DW.dt (dw_or (dt_val (de_isaC is_Family 100 (isok_Family c) (DE.dk (de_var 12)) rfl (f_isinstance c) rfl (g_Family c))) (dw_or (dt_cmp (op_neD hr.units) pu_ne (de_fld ocs 122 (fld_marked c) (DE.dk (de_var 12))) (DE.dk (de_call1T call_tuple_of pu_tuple rfl (f_tuple c) (by first | rfl | kernel_rfl) (DE.dk (de_var 10))))) (dw_or1 (dt_not (dt_cmpR (op_ownEq (Room.mono hr (by decide : 2 ≤ 11))) (pu_ownEq (to_eq c rfl)) (de_opR (op_ownXor (Room.mono hr (by decide : 8 ≤ 11))) (pu_ownXor (to_xor c rfl)) (de_var 5) (DF.de (df_rev (DE.dk (DF.de (df_call1T call_list_of pu_list rfl (f_list c) (by first | rfl | kernel_rfl) (DE.dk (de_var 8)))))))) (de_var 12)))))))
  (dss_one (ds_ret de_bl))
  dss_nil)
  (dss_cons (ds_if (DW.dt (dw_or (dt_val (de_isaC is_Family 100 (isok_Family c) (DE.dk (de_opR (op_ownXor (Room.mono hr (by decide : 8 ≤ 11))) (pu_ownXor (to_xor c rfl)) (de_var 5) (de_var 8))) rfl (f_isinstance c) rfl (g_Family c))) (dw_or1 (dt_cmpR (op_ownNe (Room.mono hr (by decide : 3 ≤ 11))) (pu_ownNe (to_eq c rfl)) (de_opR (op_ownXor (Room.mono hr (by decide : 8 ≤ 11))) (pu_ownXor (to_xor c rfl)) (de_var 5) (de_var 8)) (de_var 12)))))
  (dss_one (ds_ret de_bl))
  dss_nil)
  (dss_one (ds_if (dt_cmp (op_inA (units1 hr)) pu_in (de_var 10) (DE.dk (de_var 6)))
  (dss_cons (ds_augI ip_add 7 de_int n_nd__law_flips_good)
  (dss_one (ds_if (DW.dt (dw_or (dt_cmp (op_neD hr.units) pu_ne (de_ix (de_var 11) (DE.dk de_int)) (DE.dk (de_str 44))) (dw_or (dt_not (dt_val (de_isaC is_Family 100 (isok_Family c) (DE.dk (de_ix (de_var 11) (DE.dk de_int))) rfl (f_isinstance c) rfl (g_Family c)))) (dw_or1 (dt_cmp (op_neD hr.units) pu_ne (de_fld ocs 122 (fld_marked c) (DE.dk (de_ix (de_var 11) (DE.dk de_int)))) (DE.dk (de_call1T call_tuple_of pu_tuple rfl (f_tuple c) (by first | rfl | kernel_rfl) (DE.dk (de_var 10)))))))))
  (dss_one (ds_ret de_bl))
  dss_nil)))
  (dss_one (ds_if (dt_cmp (op_neD hr.units) pu_ne (de_var 11) (DE.dk (de_tup (da_cons (de_str 24) (da_cons (de_call (k__law_least_break c) (Room.mono hr (by decide : 2 ≤ 11)) rfl (g__law_least_break c) (kp__law_least_break c) takesD (da_cons (de_var 1) (da_cons (de_var 10) da_nil))) da_nil)))))
  (dss_one (ds_ret de_bl))
  dss_nil))))))))) ownsD rfl n_nd__law_flips_good)
  (dss_one (ds_ret (de_and (de_cmp (op_eqD hr.units) pu_eq (de_var 7) (DE.dk de_int)) (de_one (de_cmp (op_eqD hr.units) pu_eq (de_fld ocs 122 (fld_marked c) (DE.dk (de_var 5))) (DE.dk (de_call1T call_tuple_of pu_tuple rfl (f_tuple c) (by first | rfl | kernel_rfl) (DE.dk (de_var 4)))))))))))))))
theorem k__law_flips_good (c : Cz P w K mg) : FnR P w K mg base (L2.CX P w) 12 (He.ga K "_law_flips_good") (SpD ⟨K, P, w, []⟩ 3 none false m__law_flips_good) := by
  obtain ⟨fd, F⟩ := Df.fun_ (c.told.df 40 (d := d__law_flips_good) rfl) rfl
  exact fnR_all (ok__law_flips_good F c) (F.bindsN fun _ _ _ _ _ _ us hl => match us, hl with | [_, _, _], _ => rfl)
theorem ok__law_count_good {fd : FuncData} (F : FunD K d__law_count_good.name d__law_count_good.qual d__law_count_good.params d__law_count_good.body d__law_count_good.scope (d__law_count_good.dfl.map (He.Dv.v K)) [] (He.ga K "_law_count_good") fd) (c : Cz P w K mg) : FnOk P w K mg base (L2.CX P w) 11 (He.ga K "_law_count_good") fd ["_law_size", "_law_lots_here"] (SpD ⟨K, P, w, []⟩ 2 none false m__law_count_good) := by
  refine fnD (N := n__law_count_good) (ps := ["_law_size", "_law_lots_here"]) (k := 10) (ms := ⟨[], []⟩) (io := none) (fr := false) (g := b__law_count_good) F (fscB_ok (by decide +kernel)) (msB_ok (by decide)) (by decide) ?_
  intro cdv A outer s H E hr
  exact (dss_cons (ds_set 2 de_int n_nd__law_count_good)
  (dss_cons (ds_for 3 (di_rng1 rfl (f_range c) (de_op op_pow pu_pow de_int (DE.dk de_int))) (dss_cons (ds_set 4 (DF.de (df_lst (da_cons (de_op op_modN pu_mod (de_call1T call_int1 pu_int rfl (f_int c) (by first | rfl | kernel_rfl) (DE.dk (de_op op_fdivN pu_fdiv (de_var 3) (DE.dk (de_op op_pow pu_pow de_int (DE.dk de_int)))))) (DE.dk de_int)) (da_cons (de_op op_modN pu_mod (de_call1T call_int1 pu_int rfl (f_int c) (by first | rfl | kernel_rfl) (DE.dk (de_op op_fdivN pu_fdiv (de_var 3) (DE.dk (de_op op_pow pu_pow de_int (DE.dk de_int)))))) (DE.dk de_int)) (da_cons (de_op op_modN pu_mod (de_call1T call_int1 pu_int rfl (f_int c) (by first | rfl | kernel_rfl) (DE.dk (de_op op_fdivN pu_fdiv (de_var 3) (DE.dk de_int)))) (DE.dk de_int)) (da_cons (de_op op_modN pu_mod (de_call1T call_int1 pu_int rfl (f_int c) (by first | rfl | kernel_rfl) (DE.dk (de_op op_fdivN pu_fdiv (de_var 3) (DE.dk de_int)))) (DE.dk de_int)) da_nil)))))) n_nd__law_count_good)
  (dss_cons (ds_set 5 (de_slice (DF.de (df_op op_cat pu_cat (de_var 4) (DE.dk (DF.de (df_lst (da_cons (de_op op_modN pu_mod (de_call1T call_int1 pu_int rfl (f_int c) (by first | rfl | kernel_rfl) (DE.dk (de_var 3))) (DE.dk de_int)) da_nil)))))) (dp_some (de_op op_sub pu_sub de_int (DE.dk (de_var 0)))) dp_none) n_nd__law_count_good)
  (dss_one (ds_if (DW.dt (dw_and (dt_cmp (op_ltD hr.units) pu_lt (de_var 3) (DE.dk (de_op op_fdivN pu_fdiv de_int (DE.dk (de_ix (DF.de (df_lst (da_cons de_int (da_cons de_int (da_cons de_int (da_cons de_int (da_cons de_int (da_cons de_int da_nil)))))))) (DE.dk (de_var 0))))))) (dw_and1 (dt_val (de_call (k_keeps c) (Room.mono hr (by decide : 5 ≤ 10)) rfl (g_keeps c) (kp_keeps c) takesD (da_cons (de_clsM 62 124 (cm_Marks_of_row c rfl) (Room.mono hr (by decide : 10 ≤ 10)) takesD (de_cls 62 rfl (g_Marks c)) (da_cons (de_var 0) (da_cons (de_op op_sub pu_sub (de_var 0) (DE.dk de_int)) (da_cons (de_var 5) da_nil)))) da_nil))))))
  (dss_one (ds_augI ip_add 2 de_int n_nd__law_count_good))
  dss_nil)))) ownsD rfl n_nd__law_count_good)
  (dss_one (ds_ret (de_cmp (op_eqD hr.units) pu_eq (de_var 2) (DE.dk (de_op op_mul pu_mulI de_int (DE.dk (de_var 0)))))))))
theorem k__law_count_good (c : Cz P w K mg) : FnR P w K mg base (L2.CX P w) 11 (He.ga K "_law_count_good") (SpD ⟨K, P, w, []⟩ 2 none false m__law_count_good) := by
  obtain ⟨fd, F⟩ := Df.fun_ (c.told.df 41 (d := d__law_count_good) rfl) rfl
  exact fnR_all (ok__law_count_good F c) (F.bindsN fun _ _ _ _ _ _ us hl => match us, hl with | [_, _], _ => rfl)
theorem ok_law {fd : FuncData} (F : FunD K d_law.name d_law.qual d_law.params d_law.body d_law.scope (d_law.dfl.map (He.Dv.v K)) [] (He.ga K "law") fd) (c : Cz P w K mg) : FnOk P w K mg base (L2.CX P w) 13 (He.ga K "law") fd ["_law_script"] (SpD ⟨K, P, w, []⟩ 1 none false m_law) := by
  refine fnD (N := n_law) (ps := ["_law_script"]) (k := 12) (ms := ⟨[1], []⟩) (io := none) (fr := false) (g := b_law) F (fscB_ok (by decide +kernel)) (msB_ok (by decide)) (by decide) ?_
  intro cdv A outer s H E hr
  exact (dss_cons (ds_setF 1 (df_call (k__law_draws c) (Room.mono hr (by decide : 2 ≤ 12)) rfl (g__law_draws c) (kp__law_draws c) takesD (da_cons (de_var 0) da_nil)) n_nd_law)
  (dss_cons (ds_set 2 (de_op op_addA pu_add de_int (DE.dk (de_callIo 1 (k__law_take c) (Room.mono hr (by decide : 2 ≤ 12)) rfl (g__law_take c) (kp__law_take c) takesD (da_cons de_int da_nil)))) n_nd_law)
  (dss_cons (ds_set 3 (de_call (k__law_lots c) (Room.mono hr (by decide : 2 ≤ 12)) rfl (g__law_lots c) (kp__law_lots c) takesD (da_cons (de_var 2) (da_cons (de_op op_sub pu_sub (de_var 2) (DE.dk de_int)) da_nil))) n_nd_law)
  (dss_cons (ds_set 4 (de_callIo 1 (k__law_take c) (Room.mono hr (by decide : 2 ≤ 12)) rfl (g__law_take c) (kp__law_take c) takesD (da_cons (de_op op_mul pu_mulI de_int (DE.dk (de_var 2))) da_nil)) n_nd_law)
  (dss_cons (ds_if (dt_not (dt_val (de_call (k__law_flips_good c) (Room.mono hr (by decide : 12 ≤ 12)) rfl (g__law_flips_good c) (kp__law_flips_good c) takesD (da_cons (de_var 2) (da_cons (de_var 3) (da_cons (de_var 4) da_nil))))))
  (dss_one (ds_ret de_bl))
  dss_nil)
  (dss_cons (ds_if (DW.dt (dw_and (dt_cmp op_le pu_leI (de_var 2) (DE.dk de_int)) (dw_and1 (dt_not (dt_val (de_call (k__law_count_good c) (Room.mono hr (by decide : 11 ≤ 12)) rfl (g__law_count_good c) (kp__law_count_good c) takesD (da_cons (de_var 2) (da_cons (de_var 3) da_nil))))))))
  (dss_one (ds_ret de_bl))
  dss_nil)
  (dss_cons (ds_set 5 (de_make 100 (mk_Family_4 c rfl) (Room.mono hr (by decide : 9 ≤ 12)) rfl (g_Family c) takesD (da_cons (de_var 2) (da_cons (de_op op_sub pu_sub (de_var 2) (DE.dk de_int)) (da_cons (de_call (k__law_member c) (Room.mono hr (by decide : 2 ≤ 12)) rfl (g__law_member c) (kp__law_member c) takesD (da_cons (de_var 3) (da_cons (de_var 4) da_nil))) da_nil)))) n_nd_law)
  (dss_cons (ds_if (DW.dt (dw_or (dt_cmp (op_neD hr.units) pu_ne (de_call (k__law_flip_told c) (Room.mono hr (by decide : 11 ≤ 12)) rfl (g__law_flip_told c) (kp__law_flip_told c) takesD (da_cons (de_var 5) (da_cons de_int da_nil))) (DE.dk (de_tup (da_cons (de_str 20) (da_cons (de_un un_neg pu_neg (DE.dk de_int)) da_nil))))) (dw_or1 (dt_cmp (op_neD hr.units) pu_ne (de_call (k__law_flip_told c) (Room.mono hr (by decide : 11 ≤ 12)) rfl (g__law_flip_told c) (kp__law_flip_told c) takesD (da_cons (de_var 5) (da_cons (DF.de (df_listRg rfl rfl (f_list c) rfl (f_range c) (de_var 2))) da_nil))) (DE.dk (de_tup (da_cons (de_str 20) (da_cons (de_un un_neg pu_neg (DE.dk de_int)) da_nil))))))))
  (dss_one (ds_ret de_bl))
  dss_nil)
  (dss_cons (ds_if (dt_cmp (op_neD hr.units) pu_ne (de_call (k__law_flip_told c) (Room.mono hr (by decide : 11 ≤ 12)) rfl (g__law_flip_told c) (kp__law_flip_told c) takesD (da_cons (de_var 5) (da_cons (DF.de (df_op op_rep pu_rep (DF.de (df_lst (da_cons (de_var 2) da_nil))) (DE.dk (de_op op_sub pu_sub (de_var 2) (DE.dk de_int))))) da_nil))) (DE.dk (de_tup (da_cons (de_str 20) (da_cons de_int da_nil)))))
  (dss_one (ds_ret de_bl))
  dss_nil)
  (dss_cons (ds_set 6 (de_make 62 (mk_Marks_3 c rfl) (Room.mono hr (by decide : 7 ≤ 12)) rfl (g_Marks c) takesD (da_cons (de_var 2) (da_cons (de_op op_sub pu_sub (de_var 2) (DE.dk de_int)) da_nil))) n_nd_law)
  (dss_cons (ds_if (DW.dt (dw_or (dt_cmp (op_neD hr.units) pu_ne (de_call (k__law_flip_told c) (Room.mono hr (by decide : 11 ≤ 12)) rfl (g__law_flip_told c) (kp__law_flip_told c) takesD (da_cons (de_var 6) (da_cons (DF.de (df_op op_rep pu_rep (DF.de (df_lst (da_cons (de_var 2) da_nil))) (DE.dk (de_op op_sub pu_sub (de_var 2) (DE.dk de_int))))) da_nil))) (DE.dk (de_tup (da_cons (de_str 20) (da_cons de_int da_nil))))) (dw_or1 (dt_cmp (op_neD hr.units) pu_ne (de_call (k__law_flip_told c) (Room.mono hr (by decide : 11 ≤ 12)) rfl (g__law_flip_told c) (kp__law_flip_told c) takesD (da_cons (de_var 6) (da_cons de_int da_nil))) (DE.dk (de_tup (da_cons (de_str 20) (da_cons (de_un un_neg pu_neg (DE.dk de_int)) da_nil))))))))
  (dss_one (ds_ret de_bl))
  dss_nil)
  (dss_one (ds_ret (de_callIo 1 (k__law_other_levels c) (Room.mono hr (by decide : 12 ≤ 12)) rfl (g__law_other_levels c) (kp__law_other_levels c) takesD (da_cons (de_var 2) da_nil)))))))))))))))
theorem k_law (c : Cz P w K mg) : FnR P w K mg base (L2.CX P w) 13 (He.ga K "law") (SpD ⟨K, P, w, []⟩ 1 none false m_law) := by
  obtain ⟨fd, F⟩ := Df.fun_ (c.told.df 42 (d := d_law) rfl) rfl
  exact fnR_all (ok_law F c) (F.bindsN fun _ _ _ _ _ _ us hl => match us, hl with | [_], _ => rfl)
end
end KX

set_option Elab.async false
set_option linter.all false
set_option maxRecDepth 100000
set_option maxHeartbeats 4000000
namespace KX
open DL
/-! ### a mirror's run, judged -/
def Wp {α : Type} (r : R α) (Q : α → En → Prop) : Prop := match r with
  | .ok a e => Q a e
  | _ => False
theorem wp_bind {α β : Type} {r : R α} {k : α → En → R β} {Q : β → En → Prop} (h : Wp r fun a e => Wp (k a e) Q) : Wp (r.bind k) Q := by
  cases r with
  | ok a e => exact h
  | err c ns ds e => exact h
  | stuck => exact h
theorem wp_mono {α : Type} {r : R α} {Q Q' : α → En → Prop} (h : Wp r Q) (q : ∀ a e, Q a e → Q' a e) : Wp r Q' := by
  cases r with
  | ok a e => exact q a e h
  | err c ns ds e => exact h
  | stuck => exact h
theorem wp_seq {f g : M Fl} {env : En} {Q : Fl → En → Prop} (h : Wp (f env) fun fl e => fl = .nx ∧ Wp (g e) Q) : Wp (sSeq f g env) Q :=
  wp_bind (wp_mono h fun fl e z => by
    obtain ⟨rfl, z⟩ := z
    exact z)
theorem wp_for {i : Nat} {body : M Fl} {Inv : Nat → En → Prop} {Q : Fl → En → Prop} : ∀ (xs : List D) (k : Nat) (env : En), Inv k env → (∀ j x e, xs[j]? = some x → Inv (k + j) e → Wp (body (e.set i (some x))) fun fl e' => fl = .nx ∧ Inv (k + j + 1) e') → (∀ e, Inv (k + xs.length) e → Q .nx e) → Wp (DL.forM i body xs env) Q
  | [], k, env, h0, _, hq => hq env h0
  | x :: xs, k, env, h0, hs, hq => by
    unfold DL.forM
    refine wp_bind (wp_mono (hs 0 x env rfl h0) fun fl e z => ?_)
    obtain ⟨rfl, z⟩ := z
    refine wp_for xs (k + 1) e (by simpa using z) (fun j y e' hj hI => ?_) (fun e' hI => hq e' ?_)
    · have := hs (j + 1) y e' (by simpa using hj) (by rw [show k + (j + 1) = k + 1 + j by omega]; exact hI)
      rw [show k + (j + 1) + 1 = k + 1 + j + 1 by omega] at this
      exact this
    · rw [List.length_cons, show k + (xs.length + 1) = k + 1 + xs.length by omega]
      exact hI
theorem wp_op2 {g : D → D → Option D} {f f' : M D} {env : En} {Q : D → En → Prop} (h : Wp (f env) fun d e => Wp (f' e) fun d' e' => ∃ z, g d d' = some z ∧ Q z e') : Wp (op2 g f f' env) Q :=
  wp_bind (wp_mono h fun d e h => wp_bind (wp_mono h fun d' e' h => by
    obtain ⟨z, h1, h2⟩ := h
    rw [h1]
    exact h2))
theorem wp_op1 {g : D → Option D} {f : M D} {env : En} {Q : D → En → Prop} (h : Wp (f env) fun d e => ∃ z, g d = some z ∧ Q z e) : Wp (op1 g f env) Q :=
  wp_bind (wp_mono h fun d e h => by
    obtain ⟨z, h1, h2⟩ := h
    rw [h1]
    exact h2)
theorem wp_set {i : Nat} {f : M D} {env : En} {Q : Fl → En → Prop} (h : Wp (f env) fun d e => Q .nx (e.set i (some d))) : Wp (sSet i f env) Q := wp_bind h
theorem wp_if {c : M Bool} {f g : M Fl} {env : En} {Q : Fl → En → Prop} (h : Wp (c env) fun b e => (b = true → Wp (f e) Q) ∧ (b = false → Wp (g e) Q)) : Wp (sIf c f g env) Q :=
  wp_bind (wp_mono h fun b e h => by
    cases b with
    | true => exact h.1 rfl
    | false => exact h.2 rfl)
theorem wp_tb {f : M D} {env : En} {Q : Bool → En → Prop} (h : Wp (f env) fun d e => ∃ b, d = .bl b ∧ Q b e) : Wp (tB1 f env) Q :=
  wp_bind (wp_mono h fun d e h => by
    obtain ⟨b, rfl, z⟩ := h
    exact z)
theorem wp_expr {f : M D} {env : En} {Q : Fl → En → Prop} (h : Wp (f env) fun d e => Q .nx e) : Wp (sExpr f env) Q := wp_bind h
theorem wp_append {i : Nat} {f : M D} {env : En} {l : List D} {Q : D → En → Prop} (h0 : env[i]? = some (some (.lst l))) (h : Wp (f env) fun d e => e = env ∧ l.length ≤ 1000000 ∧ Q .non (e.set i (some (.lst (l ++ [d]))))) : Wp (vMeth i mAppend (aCons f aNil) env) Q := by
  unfold vMeth
  rw [h0]
  refine wp_bind (r := aCons f aNil env) (wp_bind (wp_mono h fun d e z => ?_))
  obtain ⟨rfl, z1, z2⟩ := z
  show Wp (match e[i]? with | some (some (.lst l)) => (match mAppend l [d] with | some (d, l') => R.ok d (e.set i (some (.lst l'))) | none => .stuck) | _ => .stuck) Q
  rw [h0]
  show Wp (match mAppend l [d] with | some (d, l') => R.ok d (e.set i (some (.lst l'))) | none => .stuck) Q
  unfold mAppend
  simp only [small, Nat.ble_eq_true_of_le z1, if_true]
  exact z2
theorem upTo_int {n : Nat} {lo : Int} {j : Nat} {x : D} (h : (upTo lo n)[j]? = some x) : x = .int (lo + j) ∧ j < n := upTo_get n lo j x h
/-! ### the draws -/
def intL (l : List Int) : D := .lst (l.map .int)
/-- between two rounds of the script -/
def InvD (ns : List Int) (n : Nat) (env : En) : Prop := ∃ (l : List Int) (s : Int) (a b c : Option D), env = [some (.scr ns), some (intL l), some (.int s), a, b, c] ∧ 0 ≤ s ∧ s < 2147483648 ∧ l.length ≤ 44 * n
def InvT (ns : List Int) (p n : Nat) (env : En) : Prop := ∃ (l : List Int) (s x : Int) (c : Option D), env = [some (.scr ns), some (intL l), some (.int s), some (.int p), some (.int x), c] ∧ 0 ≤ s ∧ s < 2147483648 ∧ l.length ≤ 44 * p + n
theorem intL_snoc (l : List Int) (j : Int) : D.lst (l.map .int ++ [.int j]) = intL (l ++ [j]) := by
  unfold intL
  rw [List.map_append]
  rfl
theorem fmod_lo {i j : Int} (h : 0 < j) : 0 ≤ i.fmod j := Int.fmod_nonneg_of_pos _ h
theorem fmod_hi {i j : Int} (h : 0 < j) : i.fmod j < j := Int.fmod_lt_of_pos _ h
theorem wp_var {i : Nat} {env : En} {d : D} {Q : D → En → Prop} (h : env[i]? = some (some d)) (q : Q d env) : Wp (vVar i env) Q := by
  unfold vVar
  rw [h]
  exact q
theorem wp_c {d : D} {env : En} {Q : D → En → Prop} (q : Q d env) : Wp (vC d env) Q := q
theorem draw_turn (ns : List Int) (p j : Nat) (x : D) (hx : (upTo 0 44)[j]? = some x) (hp : p < 63) (e : En) (hI : InvT ns p j e) :
    Wp (sIf (tB1 (op2 gtI (vVar 4) (vC (.int 0)))) (sSeq (sExpr (vMeth 1 mAppend (aCons (op2 modD (op1 intD (vVar 4)) (vC (.int 30))) aNil))) (sSet 4 (op2 fdivD (vVar 4) (vC (.int 30))))) (sNx) (e.set 5 (some x))) fun fl e' => fl = .nx ∧ InvT ns p (j + 1) e' := by
  obtain ⟨l, s, y, c, rfl, h1, h2, h3⟩ := hI
  obtain ⟨_, hj⟩ := upTo_int hx
  refine wp_if (wp_tb (wp_op2 (wp_var rfl (wp_c ⟨_, rfl, _, rfl, fun _ => ?_, fun _ => ?_⟩))))
  · refine wp_seq (wp_expr (wp_append rfl (wp_op2 (wp_op1 (wp_var rfl ⟨_, rfl, wp_c ⟨.int (y.fmod 30), rfl, rfl, ?_, rfl, ?_⟩⟩)))))
    · rw [List.length_map]
      omega
    · refine wp_set (wp_op2 (wp_var rfl (wp_c ⟨.int (y.fdiv 30), rfl, rfl, ?_⟩)))
      refine ⟨l ++ [y.fmod 30], s, y.fdiv 30, some x, ?_, h1, h2, by rw [List.length_append, List.length_singleton]; omega⟩
      rw [← intL_snoc]
      rfl
  · exact ⟨rfl, l, s, y, some x, rfl, h1, h2, by omega⟩
theorem mulC_l {i j : Int} (h : i.natAbs < 18446744073709551616) : mulC i j = true := by
  unfold mulC
  rw [show Nat.blt i.natAbs 18446744073709551616 = true from Nat.ble_eq_true_of_le h]
  rfl
theorem mulC_r {i j : Int} (h : j.natAbs < 18446744073709551616) : mulC i j = true := by
  unfold mulC
  rw [show Nat.blt j.natAbs 18446744073709551616 = true from Nat.ble_eq_true_of_le h, Bool.or_true]
theorem mul_l {i j : Int} (h : i.natAbs < 18446744073709551616) : mulI (.int i) (.int j) = some (.int (i * j)) := by
  show (if mulC i j = true then some (D.int (i * j)) else none) = _
  rw [if_pos (mulC_l h)]
theorem mul_r {i j : Int} (h : j.natAbs < 18446744073709551616) : mulI (.int i) (.int j) = some (.int (i * j)) := by
  show (if mulC i j = true then some (D.int (i * j)) else none) = _
  rw [if_pos (mulC_r h)]
theorem small_turn (ns : List Int) (p j : Nat) (x : D) (hx : (upTo 0 5)[j]? = some x) (hp : p < 63) (e : En) (hI : InvT ns p j e) :
    Wp (sSeq (sSet 2 (op2 modD (op1 intD (op2 addD (op2 addD (op2 addD (op2 mulI (vVar 2) (vVar 2)) (op2 mulI (vC (.int 5)) (vVar 5))) (vVar 3)) (vC (.int 1)))) (vC (.int 2147483587)))) (sExpr (vMeth 1 mAppend (aCons (op2 modD (op1 intD (op2 fdivD (vVar 2) (vC (.int 11)))) (vC (.int 27720))) aNil))) (e.set 5 (some x)))
      fun fl e' => fl = .nx ∧ InvT ns p (j + 1) e' := by
  obtain ⟨l, s, y, c, rfl, h1, h2, h3⟩ := hI
  obtain ⟨rfl, hj⟩ := upTo_int hx
  refine wp_seq (wp_set (wp_op2 (wp_op1 (wp_op2 (wp_op2 (wp_op2 (wp_op2 (wp_var rfl (wp_var rfl ⟨_, mul_l (by omega), wp_op2 (wp_c (wp_var rfl ⟨_, mul_l (by decide), _, rfl, wp_var rfl ⟨_, rfl, wp_c ⟨_, rfl, _, rfl, wp_c ⟨_, rfl, rfl, ?_⟩⟩⟩⟩))⟩)))))))))
  refine wp_expr (wp_append rfl (wp_op2 (wp_op1 (wp_op2 (wp_var rfl (wp_c ⟨_, rfl, _, rfl, wp_c ⟨_, rfl, rfl, ?_, ?_⟩⟩))))))
  · rw [List.length_map]
    omega
  · refine ⟨rfl, l ++ [(((s * s + 5 * (0 + (j : Int)) + (p : Int) + 1).fmod 2147483587).fdiv 11).fmod 27720], (s * s + 5 * (0 + (j : Int)) + (p : Int) + 1).fmod 2147483587, y, some (.int (0 + (j : Int))), ?_, fmod_lo (by decide), Int.lt_trans (fmod_hi (by decide)) (by decide), ?_⟩
    · rw [← intL_snoc]
      rfl
    · rw [List.length_append, List.length_singleton]
      omega
theorem at_scr (ns : List Int) (p : Nat) (h : p < ns.length) : ixD (.scr ns) (.int p) = some (.int ns[p]) := by
  show L2.atI (ns.map D.int) (p : Int) = _
  exact L2.atI_nat (by rw [List.getElem?_map, List.getElem?_eq_getElem h]; rfl)
theorem wp_forx {i : Nat} {fi : M (List D)} {body : M Fl} {env : En} {Q : Fl → En → Prop} (h : Wp (fi env) fun xs e => Wp (DL.forM i body xs e) Q) : Wp (sFor i fi body env) Q := wp_bind h
/-- one number of the script -/
theorem draw_body (ns : List Int) (p : Nat) (x : D) (hns : ns.length ≤ 63) (hx : (upTo 0 ns.length)[p]? = some x) (e : En) (hI : InvD ns p e) :
    Wp (sSeq (sSet 4 (op1 intD (op2 ixD (vVar 0) (vVar 3)))) (sSeq (sIf (tB1 (op2 ltD (vVar 4) (vC (.int 0)))) (sSet 4 (op2 subD (vC (.int 3)) (op2 mulI (vC (.int 2)) (vVar 4)))) (sNx)) (sIf (tB1 (op2 geI (vVar 4) (op2 powD (vC (.int 10)) (vC (.int 18))))) (sFor 5 (iRng rng1 (aCons (vC (.int 44)) (aNil))) (sIf (tB1 (op2 gtI (vVar 4) (vC (.int 0)))) (sSeq (sExpr (vMeth 1 mAppend (aCons (op2 modD (op1 intD (vVar 4)) (vC (.int 30))) aNil))) (sSet 4 (op2 fdivD (vVar 4) (vC (.int 30))))) (sNx))) (sSeq (sSet 2 (op2 modD (op1 intD (op2 addD (op2 addD (op2 mulI (vVar 2) (vC (.int 31))) (op2 mulI (vVar 4) (vC (.int 7919)))) (vVar 3))) (vC (.int 2147483629)))) (sFor 5 (iRng rng1 (aCons (vC (.int 5)) (aNil))) (sSeq (sSet 2 (op2 modD (op1 intD (op2 addD (op2 addD (op2 addD (op2 mulI (vVar 2) (vVar 2)) (op2 mulI (vC (.int 5)) (vVar 5))) (vVar 3)) (vC (.int 1)))) (vC (.int 2147483587)))) (sExpr (vMeth 1 mAppend (aCons (op2 modD (op1 intD (op2 fdivD (vVar 2) (vC (.int 11)))) (vC (.int 27720))) aNil))))))))
      (e.set 3 (some x))) fun fl e' => fl = .nx ∧ InvD ns (p + 1) e' := by
  obtain ⟨l, s, a, b, c, rfl, h1, h2, h3⟩ := hI
  obtain ⟨rfl, hp⟩ := upTo_int hx
  have e0 : (0 : Int) + (p : Int) = (p : Int) := Int.zero_add _
  rw [e0]
  have last : ∀ (y : Int) (fl : Fl) (e' : En) (n : Nat), n ≤ 44 → InvT ns p n e' → InvD ns (p + 1) e' := fun y fl e' n hn ⟨l, s, x, c, ez, k1, k2, k3⟩ => ⟨l, s, _, _, c, ez, k1, k2, by omega⟩
  refine wp_seq (wp_set (wp_op1 (wp_op2 (wp_var rfl (wp_var rfl ⟨_, at_scr ns p hp, _, rfl, rfl, ?_⟩)))))
  refine wp_seq (wp_mono (Q := fun fl e => fl = .nx ∧ InvT ns p 0 e) (wp_if (wp_tb (wp_op2 (wp_var rfl (wp_c ⟨_, rfl, _, rfl, fun _ => ?_, fun _ => ?_⟩))))) fun fl e z => ⟨z.1, ?_⟩)
  · exact wp_set (wp_op2 (wp_c (wp_op2 (wp_c (wp_var rfl ⟨_, mul_l (by decide), _, rfl, rfl, l, s, _, c, rfl, h1, h2, h3⟩)))))
  · exact ⟨rfl, l, s, _, c, rfl, h1, h2, h3⟩
  · obtain ⟨_, l, s, y, c, rfl, h1, h2, h3⟩ := z
    refine wp_if (wp_tb (wp_op2 (wp_var rfl (wp_op2 (wp_c (wp_c ⟨.int (10 ^ 18), rfl, _, rfl, _, rfl, fun _ => ?_, fun _ => ?_⟩))))))
    · refine wp_forx (show Wp (DL.forM 5 _ (upTo 0 44) _) _ from wp_for (Inv := fun n e => InvT ns p n e) _ 0 _ ⟨l, s, y, c, rfl, h1, h2, h3⟩ (fun j x e hj hI => ?_) fun e hI => ⟨rfl, last y .nx e 44 (Nat.le_refl _) ?_⟩)
      · rw [Nat.zero_add] at hI ⊢
        exact draw_turn ns p j x hj (by omega) e hI
      · rw [upTo_len, Nat.zero_add] at hI
        exact hI
    · refine wp_seq (wp_set (wp_op2 (wp_op1 (wp_op2 (wp_op2 (wp_op2 (wp_var rfl (wp_c ⟨_, mul_l (by omega), wp_op2 (wp_var rfl (wp_c ⟨_, mul_r (by decide), _, rfl, wp_var rfl ⟨_, rfl, _, rfl, wp_c ⟨_, rfl, rfl, ?_⟩⟩⟩))⟩))))))))
      refine wp_forx (show Wp (DL.forM 5 _ (upTo 0 5) _) _ from wp_for (Inv := fun n e => InvT ns p n e) _ 0 _ ⟨l, (s * 31 + y * 7919 + (p : Int)).fmod 2147483629, y, c, rfl, fmod_lo (by decide), Int.lt_trans (fmod_hi (by decide)) (by decide), h3⟩ (fun j x e hj hI => ?_) fun e hI => ⟨rfl, last y .nx e 5 (by decide) ?_⟩)
      · rw [Nat.zero_add] at hI ⊢
        exact small_turn ns p j x hj (by omega) e hI
      · rw [upTo_len, Nat.zero_add] at hI
        exact hI
theorem wp_run {n : Nat} {io : Option Nat} {fr : Bool} {body : M Fl} {ds : List D} {Q : D → En → Prop} (h : Wp (body (ds.map some ++ List.replicate (n - ds.length) none)) fun fl e => ∃ d, fl = .rt d ∧ Q d e) : ∃ d e, runF n io fr body ds = .ok d (ioOf io e) ∧ Q d e := by
  unfold runF
  revert h
  generalize body (ds.map some ++ List.replicate (n - ds.length) none) = r
  intro h
  cases r with
  | ok fl e =>
    obtain ⟨d, rfl, q⟩ := h
    exact ⟨d, e, rfl, q⟩
  | err c ns es env => exact h.elim
  | stuck => exact h.elim
theorem dr_min (n : Nat) (h : n ≤ 63) : min2D [.int (n : Int), .int 63] = some (.int (n : Int)) := by
  show some (D.int (if (63 : Int) < (n : Int) then 63 else (n : Int))) = _
  rw [if_neg (by omega)]
theorem dr_len (ns : List Int) : lenD (.scr ns) = some (.int (ns.length : Int)) := by
  show some (D.int ((ns.map D.int).length : Int)) = _
  rw [List.length_map]
theorem dr_rng (n : Nat) (h : n ≤ 63) : rng1 [.int (n : Int)] = some (upTo 0 n) := by
  show (if near (n : Int) = true then some (upTo 0 (n : Int).toNat) else none) = _
  rw [if_pos (by unfold near; simp only [Bool.and_eq_true, decide_eq_true_eq]; omega), Int.toNat_natCast]
theorem iRng_of {g : List D → Option (List D)} {fs : M (List D)} {ds zs : List D} {env e : En} (h : fs env = .ok ds e) (hg : g ds = some zs) : iRng g fs env = .ok zs e := by
  unfold iRng
  rw [h]
  show M.of (g ds) e = _
  rw [hg]
  rfl
theorem opN_of {g : List D → Option D} {fs : M (List D)} {ds : List D} {z : D} {env e : En} (h : fs env = .ok ds e) (hg : g ds = some z) : opN g fs env = .ok z e := by
  unfold opN
  rw [h]
  show M.of (g ds) e = _
  rw [hg]
  rfl
theorem op1_of {g : D → Option D} {f : M D} {d z : D} {env e : En} (h : f env = .ok d e) (hg : g d = some z) : op1 g f env = .ok z e := by
  unfold op1
  rw [h]
  show M.of (g d) e = _
  rw [hg]
  rfl
theorem aCons_of {f : M D} {fs : M (List D)} {d : D} {ds : List D} {env e1 e2 : En} (h : f env = .ok d e1) (h2 : fs e1 = .ok ds e2) : aCons f fs env = .ok (d :: ds) e2 := by
  unfold aCons
  rw [h]
  show (fs e1).bind _ = _
  rw [h2]
  rfl
theorem vVar_of {i : Nat} {d : D} {env : En} (h : env[i]? = some (some d)) : vVar i env = .ok d env := by
  unfold vVar
  rw [h]
theorem dr_it (ns : List Int) (h : ns.length ≤ 63) (env : En) (h0 : env[0]? = some (some (.scr ns))) : iRng rng1 (aCons (opN min2D (aCons (op1 lenD (vVar 0)) (aCons (vC (.int 63)) (aNil)))) (aNil)) env = .ok (upTo 0 ns.length) env :=
  iRng_of (aCons_of (opN_of (aCons_of (op1_of (vVar_of h0) (dr_len ns)) (aCons_of rfl rfl)) (dr_min _ h)) rfl) (dr_rng _ h)
theorem draws_run (ns : List Int) (h : ns.length ≤ 63) : Wp (b__law_draws [some (.scr ns), none, none, none, none, none]) fun fl e => ∃ l : List Int, fl = .rt (intL l) := by
  refine wp_seq (wp_set (show Wp (R.ok (D.lst []) _) _ from ⟨rfl, wp_seq (wp_set (wp_c ⟨rfl, wp_seq (wp_forx ?_)⟩))⟩))
  refine Eq.mpr (congrArg (fun r => Wp r _) (dr_it ns h _ rfl)) ?_
  refine wp_for (Inv := fun n e => InvD ns n e) _ 0 _ ⟨[], 911, none, none, none, rfl, by decide, by decide, Nat.le_refl _⟩ (fun j x e hj hI => ?_) fun e hI => ⟨rfl, ?_⟩
  · rw [Nat.zero_add] at hI ⊢
    exact draw_body ns j x h hj e hI
  · obtain ⟨l, s, a, b, c, rfl, _⟩ := hI
    refine wp_seq (wp_expr (show Wp (R.ok D.non _) _ from ⟨rfl, show Wp (R.ok (Fl.rt (.lst (l.map D.int).reverse)) _) _ from ⟨l.reverse, ?_⟩⟩))
    unfold intL
    rw [List.map_reverse]
theorem draws_ok (ns : List Int) (h : ns.length ≤ 63) : ∃ (l : List Int) (io : Option D), m__law_draws [.scr ns] = .ok (intL l) io := by
  obtain ⟨d, e, h1, l, h2⟩ := wp_run (n := 6) (io := none) (fr := true) (body := b__law_draws) (ds := [.scr ns]) (Q := fun d e => ∃ l : List Int, d = intL l) (wp_mono (draws_run ns h) fun fl e z => by
    obtain ⟨l, z⟩ := z
    exact ⟨_, z, l, rfl⟩)
  subst h2
  exact ⟨l, _, h1⟩
theorem wp_seq' {f g : M Fl} {env : En} {Q : Fl → En → Prop} (h : Wp (f env) fun fl e => match fl with | .nx => Wp (g e) Q | fl => Q fl e) : Wp (sSeq f g env) Q :=
  wp_bind (wp_mono h fun fl e z => by
    cases fl with
    | nx => exact z
    | _ => exact z)
theorem wp_or {f f' : M Bool} {env : En} {Q : Bool → En → Prop} (h : Wp (f env) fun b e => (b = true → Q true e) ∧ (b = false → Wp (f' e) Q)) : Wp (bOr f f' env) Q :=
  wp_bind (wp_mono h fun b e z => by
    cases b with
    | true => exact z.1 rfl
    | false => exact z.2 rfl)
theorem wp_pop {i : Nat} {env : En} {l : List Int} {z : Int} {Q : D → En → Prop} (h0 : env[i]? = some (some (intL (l ++ [z])))) (q : Q (.int z) (env.set i (some (intL l)))) : Wp (vMeth i mPop aNil env) Q := by
  have hp : mPop ((l ++ [z]).map D.int) [] = some (.int z, l.map D.int) := by
    have e : (l ++ [z]).map D.int = l.map D.int ++ [D.int z] := by
      rw [List.map_append]
      rfl
    unfold mPop
    rw [e]
    simp
  have h1 : env[i]? = some (some (.lst ((l ++ [z]).map D.int))) := h0
  unfold vMeth
  rw [h1]
  show Wp (match env[i]? with | some (some (.lst l)) => (match mPop l [] with | some (d, l') => R.ok d (env.set i (some (.lst l'))) | none => .stuck) | _ => .stuck) Q
  rw [h1]
  show Wp (match mPop ((l ++ [z]).map D.int) [] with | some (d, l') => R.ok d (env.set i (some (.lst l'))) | none => .stuck) Q
  rw [hp]
  exact q
theorem mod_some {i j : Int} (h : j ≠ 0) : modD (.int i) (.int j) = some (.int (i.fmod j)) := by
  show (if decide (j ≠ 0) = true then some (D.int (i.fmod j)) else none) = _
  rw [if_pos (decide_eq_true h)]
theorem take_ok (l : List Int) (m : Int) (hm : 2 ≤ m) : ∃ (j : Int) (l' : List Int), m__law_take [intL l, .int m] = .ok (.int j) (some (intL l')) ∧ 0 ≤ j ∧ j < m := by
  have key : Wp (b__law_take [some (intL l), some (.int m)]) fun fl e => ∃ (j : Int) (l' : List Int), fl = .rt (.int j) ∧ e = [some (intL l'), some (.int m)] ∧ 0 ≤ j ∧ j < m := by
    have e1 : ltD (.int m) (.int 2) = some (.bl false) := by
      show some (D.bl (decide (m < 2))) = _
      rw [decide_eq_false (by omega)]
    have hl : lenD (intL l) = some (.int (l.length : Int)) := by
      show some (D.int ((l.map D.int).length : Int)) = _
      rw [List.length_map]
    refine wp_seq' (wp_if (wp_or (wp_tb (wp_op2 (wp_var rfl (wp_c ⟨_, e1, false, rfl, (fun z => by cases z), fun _ => wp_tb (wp_op2 (wp_op1 (wp_var rfl ⟨_, hl, wp_c ⟨_, rfl, ((l.length : Int) == 0), rfl, ?_⟩⟩)))⟩))))))
    rcases List.eq_nil_or_concat l with rfl | ⟨l0, z, rfl⟩
    · exact ⟨fun _ => ⟨0, [], rfl, rfl, Int.le_refl _, by omega⟩, fun z => by cases z⟩
    · refine ⟨fun q => ?_, fun _ => ?_⟩
      · have q' := beq_iff_eq.mp q
        simp at q'
        omega
      · refine wp_bind (r := op2 modD (op1 intD (vMeth 0 mPop aNil)) (vVar 1) _) (wp_op2 (wp_op1 (wp_pop (l := l0) (z := z) (by simp) ⟨_, rfl, wp_var rfl ⟨_, mod_some (by omega), ?_⟩⟩)))
        exact ⟨_, l0, rfl, rfl, fmod_lo (by omega), fmod_hi (by omega)⟩
  obtain ⟨d, e, h1, j, l', h2, h3, h4, h5⟩ := wp_run (n := 2) (io := some 0) (fr := false) (body := b__law_take) (ds := [intL l, .int m]) (Q := fun d e => ∃ (j : Int) (l' : List Int), d = .int j ∧ e = [some (intL l'), some (.int m)] ∧ 0 ≤ j ∧ j < m) (wp_mono key fun fl e z => by
    obtain ⟨j, l', z1, z2⟩ := z
    exact ⟨_, z1, j, l', rfl, z2⟩)
  subst h2 h3
  exact ⟨j, l', h1, h4, h5⟩
end KX

set_option Elab.async false
set_option linter.all false
set_option maxRecDepth 100000
set_option maxHeartbeats 0
namespace KX
open DL
def la1 : M Fl := sSet 1 (cCall 1 m__law_draws (aCons (vVar 0) (aNil)))
def la2 : M Fl := sSet 2 (op2 addD (vC (.int 2)) (cCallIo 2 1 m__law_take (aCons (vC (.int 6)) (aNil))))
def la3 : M Fl := sSet 3 (cCall 2 m__law_lots (aCons (vVar 2) (aCons (op2 subD (vVar 2) (vC (.int 1))) (aNil))))
def la4 : M Fl := sSet 4 (cCallIo 2 1 m__law_take (aCons (op2 mulI (vC (.int 2)) (vVar 2)) (aNil)))
def laM : M Fl := sSeq (sIf (bNot (tB1 (cCall 3 m__law_flips_good (aCons (vVar 2) (aCons (vVar 3) (aCons (vVar 4) (aNil))))))) (sRet (vC (.bl false))) (sNx)) (sSeq (sIf (bAnd (tB1 (op2 leI (vVar 2) (vC (.int 5)))) (bNot (tB1 (cCall 2 m__law_count_good (aCons (vVar 2) (aCons (vVar 3) (aNil))))))) (sRet (vC (.bl false))) (sNx)) (sSeq (sSet 5 (cMake 100 4 m_Family___init__ (aCons (vVar 2) (aCons (op2 subD (vVar 2) (vC (.int 1))) (aCons (cCall 2 m__law_member (aCons (vVar 3) (aCons (vVar 4) (aNil)))) (aNil)))))) (sSeq (sIf (bOr (tB1 (op2 neD (cCall 2 m__law_flip_told (aCons (vVar 5) (aCons (vC (.int 7)) (aNil)))) (opN mkT (aCons (vC (.str 20)) (aCons (op1 negD (vC (.int 1))) (aNil)))))) (tB1 (op2 neD (cCall 2 m__law_flip_told (aCons (vVar 5) (aCons (opN lstRg (aCons (vVar 2) aNil)) (aNil)))) (opN mkT (aCons (vC (.str 20)) (aCons (op1 negD (vC (.int 2))) (aNil))))))) (sRet (vC (.bl false))) (sNx)) (sSeq (sIf (tB1 (op2 neD (cCall 2 m__law_flip_told (aCons (vVar 5) (aCons (op2 repD (opN mkL (aCons (vVar 2) (aNil))) (op2 subD (vVar 2) (vC (.int 1)))) (aNil)))) (opN mkT (aCons (vC (.str 20)) (aCons (vC (.int 0)) (aNil)))))) (sRet (vC (.bl false))) (sNx)) (sSeq (sSet 6 (cMake 62 3 m_Marks___init___3 (aCons (vVar 2) (aCons (op2 subD (vVar 2) (vC (.int 1))) (aNil))))) (sIf (bOr (tB1 (op2 neD (cCall 2 m__law_flip_told (aCons (vVar 6) (aCons (op2 repD (opN mkL (aCons (vVar 2) (aNil))) (op2 subD (vVar 2) (vC (.int 1)))) (aNil)))) (opN mkT (aCons (vC (.str 20)) (aCons (vC (.int 0)) (aNil)))))) (tB1 (op2 neD (cCall 2 m__law_flip_told (aCons (vVar 6) (aCons (vC (.int 7)) (aNil)))) (opN mkT (aCons (vC (.str 20)) (aCons (op1 negD (vC (.int 1))) (aNil))))))) (sRet (vC (.bl false))) (sNx)))))))
def laE : M Fl := sRet (cCallIo 2 1 m__law_other_levels (aCons (vVar 2) (aNil)))
def lb1 : M Fl := sIf (bNot (tB1 (cCall 3 m__law_flips_good (aCons (vVar 2) (aCons (vVar 3) (aCons (vVar 4) (aNil))))))) (sRet (vC (.bl false))) (sNx)
def lb2 : M Fl := sIf (bAnd (tB1 (op2 leI (vVar 2) (vC (.int 5)))) (bNot (tB1 (cCall 2 m__law_count_good (aCons (vVar 2) (aCons (vVar 3) (aNil))))))) (sRet (vC (.bl false))) (sNx)
def lb3 : M Fl := sSet 5 (cMake 100 4 m_Family___init__ (aCons (vVar 2) (aCons (op2 subD (vVar 2) (vC (.int 1))) (aCons (cCall 2 m__law_member (aCons (vVar 3) (aCons (vVar 4) (aNil)))) (aNil)))))
def lb4 : M Fl := sIf (bOr (tB1 (op2 neD (cCall 2 m__law_flip_told (aCons (vVar 5) (aCons (vC (.int 7)) (aNil)))) (opN mkT (aCons (vC (.str 20)) (aCons (op1 negD (vC (.int 1))) (aNil)))))) (tB1 (op2 neD (cCall 2 m__law_flip_told (aCons (vVar 5) (aCons (opN lstRg (aCons (vVar 2) aNil)) (aNil)))) (opN mkT (aCons (vC (.str 20)) (aCons (op1 negD (vC (.int 2))) (aNil))))))) (sRet (vC (.bl false))) (sNx)
def lb5 : M Fl := sIf (tB1 (op2 neD (cCall 2 m__law_flip_told (aCons (vVar 5) (aCons (op2 repD (opN mkL (aCons (vVar 2) (aNil))) (op2 subD (vVar 2) (vC (.int 1)))) (aNil)))) (opN mkT (aCons (vC (.str 20)) (aCons (vC (.int 0)) (aNil)))))) (sRet (vC (.bl false))) (sNx)
def lb6 : M Fl := sSet 6 (cMake 62 3 m_Marks___init___3 (aCons (vVar 2) (aCons (op2 subD (vVar 2) (vC (.int 1))) (aNil))))
def lb7 : M Fl := sIf (bOr (tB1 (op2 neD (cCall 2 m__law_flip_told (aCons (vVar 6) (aCons (op2 repD (opN mkL (aCons (vVar 2) (aNil))) (op2 subD (vVar 2) (vC (.int 1)))) (aNil)))) (opN mkT (aCons (vC (.str 20)) (aCons (vC (.int 0)) (aNil)))))) (tB1 (op2 neD (cCall 2 m__law_flip_told (aCons (vVar 6) (aCons (vC (.int 7)) (aNil)))) (opN mkT (aCons (vC (.str 20)) (aCons (op1 negD (vC (.int 1))) (aNil))))))) (sRet (vC (.bl false))) (sNx)
def oa1 : M Fl := sSet 3 (cCall 2 m__law_lots (aCons (vVar 1) (aCons (vVar 2) (aNil))))
def oa2 : M Fl := sSet 5 (lcM 4 (iSeq (vVar 3)) (bTrue) (cCallIo 2 0 m__law_take (aCons (vC (.int 2)) (aNil))))
def oaR : M Fl := sSeq (sSet 6 (cClsM 4 62 m_Marks_of_row (vC (.cls 62)) (aCons (vVar 1) (aCons (vVar 2) (aCons (vVar 5) (aNil)))))) (sSeq (sIf (bOr (bNot (tB1 (cCall 1 m_keeps (aCons (vVar 6) (aNil))))) (bNot (tB1 (op2 (oEq t_eq) (cClsM 4 100 m_Family_of_row (vC (.cls 100)) (aCons (vVar 1) (aCons (vVar 2) (aCons (vVar 5) (aNil))))) (vVar 6))))) (sRet (vC (.bl false))) (sNx)) (sSeq (sIf (bOr (tB1 (op1 (isaOwn is_Family) (vVar 6))) (tB1 (op1 (isaOwn is_Family) (cClsM 3 62 m_Marks_full (vC (.cls 62)) (aCons (vVar 1) (aCons (vVar 2) (aNil))))))) (sRet (vC (.bl false))) (sNx)) (sSeq (sFor 7 (iSeq (opN mkL (aCons (cClsM 4 100 m_Family_of_row (vC (.cls 100)) (aCons (vVar 1) (aCons (vVar 2) (aCons (vVar 5) (aNil))))) (aCons (cClsM 3 100 m_Family_none (vC (.cls 100)) (aCons (vVar 1) (aCons (vVar 2) (aNil)))) (aCons (cClsM 3 100 m_Family_full (vC (.cls 100)) (aCons (vVar 1) (aCons (vVar 2) (aNil)))) (aNil)))))) (sIf (bOr (bNot (tB1 (op1 (isaOwn is_Family) (vVar 7)))) (tB1 (op2 neD (op1 (conD cc_WORD 35) (vVar 7)) (vC (.str 117))))) (sRet (vC (.bl false))) (sNx))) (sIf (tB1 (op2 gtI (op1 lenD (vVar 3)) (vC (.int 0)))) (sSeq (sSet 7 (cCall 2 m__law_flip_told (aCons (cClsM 4 100 m_Family_of_row (vC (.cls 100)) (aCons (vVar 1) (aCons (vVar 2) (aCons (vVar 5) (aNil))))) (aCons (op2 ixD (vVar 3) (op2 subD (op1 lenD (vVar 3)) (vC (.int 1)))) (aNil))))) (sIf (bOr (tB1 (op2 neD (op2 ixD (vVar 7) (vC (.int 0))) (vC (.str 44)))) (tB1 (op2 neD (op1 (oLen t_len) (op2 ixD (vVar 7) (vC (.int 1)))) (op2 subD (op2 addD (op1 sumD (vVar 5)) (vC (.int 1))) (op2 mulI (vC (.int 2)) (op2 ixD (vVar 5) (op2 subD (op1 lenD (vVar 3)) (vC (.int 1))))))))) (sRet (vC (.bl false))) (sNx))) (sNx)))))

theorem sSeq_assoc (f g h : M Fl) : sSeq (sSeq f g) h = sSeq f (sSeq g h) := by
  funext env
  unfold sSeq
  cases f env with
  | ok fl e => cases fl <;> rfl
  | err c ns es e => rfl
  | stuck => rfl
def lots (n k : Nat) : D := match m__law_lots [.int n, .int k] with
  | .ok d _ => d
  | _ => .non
def envOf {α : Type} : R α → En
  | .ok _ e => e
  | _ => []
/-! ### the other levels -/
theorem lev_eq : b__law_other_levels = sSeq (sFor 2 (iSeq (opN mkL (aCons (vC (.int 0)) (aCons (vC (.int 1)) (aCons (vVar 1) (aCons (op2 addD (vVar 1) (vC (.int 1))) (aNil))))))) (sSeq oa1 (sSeq oa2 oaR))) (sRet (vC (.bl true))) := rfl
/-- the rest of a round at n things, level k -/
def tl (n k : Nat) (row : List Int) (i : Nat) : Option D := (envOf (oaR [none, some (.int n), some (.int k), some (lots n k), none, some (intL row), none, none])).getD i none
def Rest (n k : Nat) (row : List Int) : Prop := ∀ e0 e4 e6 e7 : Option D, oaR [e0, some (.int n), some (.int k), some (lots n k), e4, some (intL row), e6, e7] =
  .ok .nx [e0, some (.int n), some (.int k), some (lots n k), e4, tl n k row 5, tl n k row 6, tl n k row 7]
def AllR : Nat → (List Int → Prop) → Prop
  | 0, P => P []
  | n + 1, P => AllR n (fun r => P (0 :: r)) ∧ AllR n (fun r => P (1 :: r))
theorem AllR.nil {P : List Int → Prop} (h : P []) : AllR 0 P := h
theorem AllR.mk {n : Nat} {P : List Int → Prop} (h : AllR n fun r => P (0 :: r)) (k : AllR n fun r => P (1 :: r)) : AllR (n + 1) P := ⟨h, k⟩
theorem AllR.get : ∀ {n : Nat} {P : List Int → Prop}, AllR n P → ∀ r : List Int, r.length = n → (∀ b ∈ r, b = 0 ∨ b = 1) → P r
  | 0, _, h, [], _, _ => h
  | n + 1, P, h, b :: r, hl, hb => by
    have hr : ∀ c ∈ r, c = 0 ∨ c = 1 := fun c hc => hb c (List.mem_cons_of_mem _ hc)
    rcases hb b List.mem_cons_self with rfl | rfl
    · exact AllR.get h.1 r (Nat.succ.inj hl) hr
    · exact AllR.get h.2 r (Nat.succ.inj hl) hr
def lotsL (n k : Nat) : List D := match lots n k with
  | .lst l => l
  | _ => []
/-- what a level is -/
structure Lev (n k c : Nat) : Prop where
  call : m__law_lots [.int n, .int k] = .ok (.lst (lotsL n k)) none
  eq : lots n k = .lst (lotsL n k)
  len : (lotsL n k).length = c
  small : c ≤ 100
  rest : AllR c (Rest n k)
theorem cCall_of {np : Nat} {m : List D → Rs} {fs : M (List D)} {env e : En} {ds : List D} {d : D} {io : Option D} (h : fs env = .ok ds e) (hl : ds.length = np) (hm : m ds = .ok d io) : cCall np m fs env = .ok d e := by
  unfold cCall
  rw [h]
  show (if ds.length = np then _ else _) = _
  rw [if_pos hl, hm]
theorem cCallIo_of {np j : Nat} {m : List D → Rs} {fs : M (List D)} {env e : En} {ds : List D} {d d0 d1 io : D} (h0 : env[j]? = some (some d0)) (h : fs env = .ok ds e) (h1 : e[j]? = some (some d1)) (hl : ds.length + 1 = np) (hm : m (d1 :: ds) = .ok d (some io)) :
    cCallIo np j m fs env = .ok d (e.set j (some io)) := by
  unfold cCallIo
  rw [h0]
  show (fs env).bind _ = _
  rw [h]
  show (match e[j]? with | some (some d0) => (if ds.length + 1 = np then ioRun j (m (d0 :: ds)) e else .stuck) | _ => .stuck) = _
  rw [h1]
  show (if ds.length + 1 = np then ioRun j (m (d1 :: ds)) e else .stuck) = _
  rw [if_pos hl, hm]
  rfl
theorem row_ok : ∀ (xs : List D) (k : Nat) (l : List Int) (a b c d e f : Option D), k + xs.length ≤ 1000 → ∃ bits l' : List Int, lcGo 4 bTrue (cCallIo 2 0 m__law_take (aCons (vC (.int 2)) aNil)) k xs [some (intL l), a, b, c, none, d, e, f] = .ok (bits.map .int) [some (intL l'), a, b, c, none, d, e, f] ∧
    bits.length = xs.length ∧ ∀ z ∈ bits, z = 0 ∨ z = 1
  | [], k, l, a, b, c, d, e, f, _ => ⟨[], l, rfl, rfl, fun z h => by cases h⟩
  | x :: xs, k, l, a, b, c, d, e, f, hk => by
    rw [List.length_cons] at hk
    obtain ⟨j, l1, h1, h2, h3⟩ := take_ok l 2 (by decide)
    obtain ⟨bits, l2, h4, h5, h6⟩ := row_ok xs (k + 1) l1 a b c d e f (by omega)
    have e1 : cCallIo 2 0 m__law_take (aCons (vC (.int 2)) aNil) [some (intL l), a, b, c, some x, d, e, f] = .ok (.int j) [some (intL l1), a, b, c, some x, d, e, f] := cCallIo_of (ds := [.int 2]) (d1 := intL l) rfl rfl rfl rfl h1
    refine ⟨j :: bits, l2, ?_, by rw [List.length_cons, List.length_cons, h5], fun z hz => ?_⟩
    · unfold lcGo
      show (match cCallIo 2 0 m__law_take (aCons (vC (.int 2)) aNil) [some (intL l), a, b, c, some x, d, e, f] with
        | .ok y env2 => if small k = true then (lcGo 4 bTrue (cCallIo 2 0 m__law_take (aCons (vC (.int 2)) aNil)) (k + 1) xs (env2.set 4 none)).bind fun ys env3 => .ok (y :: ys) env3 else .stuck
        | _ => .stuck) = _
      rw [e1]
      show (if small k = true then _ else _) = _
      rw [if_pos (Nat.ble_eq_true_of_le (by omega))]
      show (lcGo 4 bTrue (cCallIo 2 0 m__law_take (aCons (vC (.int 2)) aNil)) (k + 1) xs [some (intL l1), a, b, c, none, d, e, f]).bind _ = _
      rw [h4]
      rfl
    · rcases List.mem_cons.mp hz with rfl | hz
      · omega
      · exact h6 z hz
/-- one level -/
def InvO (n : Nat) (e : En) : Prop := ∃ (l : List Int) (x2 x3 x5 x6 x7 : Option D), e = [some (intL l), some (.int n), x2, x3, none, x5, x6, x7]
theorem lcM_of {i : Nat} {fi : M (List D)} {gc : M Bool} {fe : M D} {env e1 e3 : En} {ds ys : List D} (h : fi env = .ok ds e1) (h2 : lcGo i gc fe 0 ds (e1.set i none) = .ok ys e3) : lcM i fi gc fe env = .ok (.lst ys) (e3.set i (e1.getD i none)) := by
  unfold lcM
  rw [h]
  show (match lcGo i gc fe 0 ds (e1.set i none) with
    | .ok ys env3 => R.ok (D.lst ys) (env3.set i (e1.getD i none))
    | _ => .stuck) = _
  rw [h2]
theorem sSet_of {i : Nat} {f : M D} {env e : En} {d : D} (h : f env = .ok d e) : sSet i f env = .ok .nx (e.set i (some d)) := by
  unfold sSet
  rw [h]
  rfl
/-- Wp, shut: a goal that nobody runs -/
structure Does (r : R Fl) (Q : Fl → En → Prop) : Prop where
  ok : Wp r Q
theorem Does.seq {f g : M Fl} {env e : En} {Q : Fl → En → Prop} (h : f env = .ok .nx e) (k : Does (g e) Q) : Does (sSeq f g env) Q := ⟨wp_seq (by rw [h]; exact ⟨rfl, k.ok⟩)⟩
theorem Does.of {f : M Fl} {env e : En} {fl : Fl} {Q : Fl → En → Prop} (h : f env = .ok fl e) (k : Q fl e) : Does (f env) Q := ⟨by rw [h]; exact k⟩
theorem inv_nx {n : Nat} (l : List Int) (x2 x3 x5 x6 x7 : Option D) : InvO n [some (intL l), some (.int n), x2, x3, none, x5, x6, x7] := ⟨l, x2, x3, x5, x6, x7, rfl⟩
theorem lev_body {n k c : Nat} (L : Lev n k c) (e : En) (hI : InvO n e) : Does (sSeq oa1 (sSeq oa2 oaR) (e.set 2 (some (.int k)))) fun fl e' => fl = .nx ∧ InvO n e' := by
  obtain ⟨l, x2, x3, x5, x6, x7, rfl⟩ := hI
  have hb : 0 + (lotsL n k).length ≤ 1000 := by
    rw [L.len, Nat.zero_add]
    exact Nat.le_trans L.small (Nat.le_of_ble_eq_true rfl)
  have hr := row_ok (lotsL n k) 0 l (some (.int n)) (some (.int k)) (some (.lst (lotsL n k))) x5 x6 x7 hb
  clear hb
  have hlen := L.len
  have hrest := L.rest
  have heq := L.eq
  have hcall := L.call
  generalize lotsL n k = Z at *
  have hs := Classical.choose_spec hr
  generalize Classical.choose hr = bits at hs
  clear hr
  have ht := Classical.choose_spec hs
  generalize Classical.choose hs = l' at ht
  clear hs
  have h1 := ht.1
  have h2 := ht.2.1
  have h3 := ht.2.2
  clear ht
  have e1 : oa1 [some (intL l), some (.int n), some (.int k), x3, none, x5, x6, x7] = .ok .nx [some (intL l), some (.int n), some (.int k), some (.lst Z), none, x5, x6, x7] := by
    have q : cCall 2 m__law_lots (aCons (vVar 1) (aCons (vVar 2) aNil)) [some (intL l), some (.int n), some (.int k), x3, none, x5, x6, x7] = .ok (.lst Z) [some (intL l), some (.int n), some (.int k), x3, none, x5, x6, x7] := cCall_of (ds := [.int n, .int k]) rfl rfl hcall
    have q2 := sSet_of (i := 3) q
    exact q2
  have e2 : oa2 [some (intL l), some (.int n), some (.int k), some (.lst Z), none, x5, x6, x7] = .ok .nx [some (intL l'), some (.int n), some (.int k), some (.lst Z), none, some (intL bits), x6, x7] := by
    have q : lcM 4 (iSeq (vVar 3)) bTrue (cCallIo 2 0 m__law_take (aCons (vC (.int 2)) aNil)) [some (intL l), some (.int n), some (.int k), some (.lst Z), none, x5, x6, x7] = .ok (.lst (bits.map .int)) [some (intL l'), some (.int n), some (.int k), some (.lst Z), none, x5, x6, x7] :=
      lcM_of (i := 4) (e1 := [some (intL l), some (.int n), some (.int k), some (.lst Z), none, x5, x6, x7]) (e3 := [some (intL l'), some (.int n), some (.int k), some (.lst Z), none, x5, x6, x7]) (ds := Z) rfl h1
    have q2 := sSet_of (i := 5) q
    exact q2
  have e3 := (hrest.get bits (by rw [h2, hlen]) h3) (some (intL l')) none x6 x7
  rw [heq] at e3
  exact Does.seq (env := [some (intL l), some (.int n), some (.int k), x3, none, x5, x6, x7]) e1 (Does.seq e2 (Does.of e3 ⟨rfl, inv_nx _ _ _ _ _ _⟩))
theorem lev_loop {n c0 c1 c2 c3 : Nat} (L0 : Lev n 0 c0) (L1 : Lev n 1 c1) (L2 : Lev n n c2) (L3 : Lev n (n + 1) c3) : ∀ (j : Nat) (x : D) (e : En), [D.int 0, .int 1, .int n, .int ((n : Int) + 1)][j]? = some x → InvO n e → Does (sSeq oa1 (sSeq oa2 oaR) (e.set 2 (some x))) fun fl e' => fl = .nx ∧ InvO n e'
  | 0, x, e, hj, hI => by cases hj; exact lev_body L0 e hI
  | 1, x, e, hj, hI => by cases hj; exact lev_body L1 e hI
  | 2, x, e, hj, hI => by cases hj; exact lev_body L2 e hI
  | 3, x, e, hj, hI => by cases hj; exact lev_body L3 e hI
  | j + 4, x, e, hj, hI => by cases hj
theorem lev_ok {n c0 c1 c2 c3 : Nat} (L0 : Lev n 0 c0) (L1 : Lev n 1 c1) (L2 : Lev n n c2) (L3 : Lev n (n + 1) c3) (l : List Int) : ∃ io : D, m__law_other_levels [intL l, .int n] = .ok (.bl true) (some io) := by
  have key : Wp (b__law_other_levels [some (intL l), some (.int n), none, none, none, none, none, none]) fun fl e => ∃ d, fl = .rt d ∧ (d = .bl true ∧ InvO n e) := by
    rw [lev_eq]
    refine wp_seq (wp_forx (show Wp (DL.forM 2 _ [.int 0, .int 1, .int n, .int ((n : Int) + 1)] [some (intL l), some (.int n), none, none, none, none, none, none]) _ from ?_))
    exact wp_for (Inv := fun _ e => InvO n e) _ 0 _ ⟨l, _, _, _, _, _, rfl⟩ (fun j x e hj hI => (lev_loop L0 L1 L2 L3 j x e hj hI).ok) fun e hI => ⟨rfl, _, rfl, rfl, hI⟩
  obtain ⟨d, e, h1, h2, l', x2, x3, x5, x6, x7, h3⟩ := wp_run (n := 8) (io := some 0) (fr := false) (body := b__law_other_levels) (ds := [intL l, .int n]) (Q := fun d e => d = .bl true ∧ InvO n e) key
  subst h2 h3
  exact ⟨_, h1⟩
end KX

set_option Elab.async false
set_option linter.all false
set_option maxRecDepth 100000
set_option maxHeartbeats 0
namespace KX
open DL

theorem r_2_0_0 : Rest 2 0 [0] := fun _ _ _ _ => by kernel_rfl
theorem r_2_0_1 : Rest 2 0 [1] := fun _ _ _ _ => by kernel_rfl
theorem lev_2_0 : Lev 2 0 1 := ⟨by kernel_rfl, by kernel_rfl, by kernel_rfl, by decide, (.mk (.nil r_2_0_0) (.nil r_2_0_1))⟩
theorem r_2_1_00 : Rest 2 1 [0, 0] := fun _ _ _ _ => by kernel_rfl
theorem r_2_1_01 : Rest 2 1 [0, 1] := fun _ _ _ _ => by kernel_rfl
theorem r_2_1_10 : Rest 2 1 [1, 0] := fun _ _ _ _ => by kernel_rfl
theorem r_2_1_11 : Rest 2 1 [1, 1] := fun _ _ _ _ => by kernel_rfl
theorem lev_2_1 : Lev 2 1 2 := ⟨by kernel_rfl, by kernel_rfl, by kernel_rfl, by decide, (.mk (.mk (.nil r_2_1_00) (.nil r_2_1_01)) (.mk (.nil r_2_1_10) (.nil r_2_1_11)))⟩
theorem r_2_2_0 : Rest 2 2 [0] := fun _ _ _ _ => by kernel_rfl
theorem r_2_2_1 : Rest 2 2 [1] := fun _ _ _ _ => by kernel_rfl
theorem lev_2_2 : Lev 2 2 1 := ⟨by kernel_rfl, by kernel_rfl, by kernel_rfl, by decide, (.mk (.nil r_2_2_0) (.nil r_2_2_1))⟩
theorem r_2_3_e : Rest 2 3 [] := fun _ _ _ _ => by kernel_rfl
theorem lev_2_3 : Lev 2 3 0 := ⟨by kernel_rfl, by kernel_rfl, by kernel_rfl, by decide, (.nil r_2_3_e)⟩
theorem r_3_0_0 : Rest 3 0 [0] := fun _ _ _ _ => by kernel_rfl
theorem r_3_0_1 : Rest 3 0 [1] := fun _ _ _ _ => by kernel_rfl
theorem lev_3_0 : Lev 3 0 1 := ⟨by kernel_rfl, by kernel_rfl, by kernel_rfl, by decide, (.mk (.nil r_3_0_0) (.nil r_3_0_1))⟩
theorem r_3_1_000 : Rest 3 1 [0, 0, 0] := fun _ _ _ _ => by kernel_rfl
theorem r_3_1_001 : Rest 3 1 [0, 0, 1] := fun _ _ _ _ => by kernel_rfl
theorem r_3_1_010 : Rest 3 1 [0, 1, 0] := fun _ _ _ _ => by kernel_rfl
theorem r_3_1_011 : Rest 3 1 [0, 1, 1] := fun _ _ _ _ => by kernel_rfl
theorem r_3_1_100 : Rest 3 1 [1, 0, 0] := fun _ _ _ _ => by kernel_rfl
theorem r_3_1_101 : Rest 3 1 [1, 0, 1] := fun _ _ _ _ => by kernel_rfl
theorem r_3_1_110 : Rest 3 1 [1, 1, 0] := fun _ _ _ _ => by kernel_rfl
theorem r_3_1_111 : Rest 3 1 [1, 1, 1] := fun _ _ _ _ => by kernel_rfl
theorem lev_3_1 : Lev 3 1 3 := ⟨by kernel_rfl, by kernel_rfl, by kernel_rfl, by decide, (.mk (.mk (.mk (.nil r_3_1_000) (.nil r_3_1_001)) (.mk (.nil r_3_1_010) (.nil r_3_1_011))) (.mk (.mk (.nil r_3_1_100) (.nil r_3_1_101)) (.mk (.nil r_3_1_110) (.nil r_3_1_111))))⟩
theorem r_3_3_0 : Rest 3 3 [0] := fun _ _ _ _ => by kernel_rfl
theorem r_3_3_1 : Rest 3 3 [1] := fun _ _ _ _ => by kernel_rfl
theorem lev_3_3 : Lev 3 3 1 := ⟨by kernel_rfl, by kernel_rfl, by kernel_rfl, by decide, (.mk (.nil r_3_3_0) (.nil r_3_3_1))⟩
theorem r_3_4_e : Rest 3 4 [] := fun _ _ _ _ => by kernel_rfl
theorem lev_3_4 : Lev 3 4 0 := ⟨by kernel_rfl, by kernel_rfl, by kernel_rfl, by decide, (.nil r_3_4_e)⟩
theorem r_4_0_0 : Rest 4 0 [0] := fun _ _ _ _ => by kernel_rfl
theorem r_4_0_1 : Rest 4 0 [1] := fun _ _ _ _ => by kernel_rfl
theorem lev_4_0 : Lev 4 0 1 := ⟨by kernel_rfl, by kernel_rfl, by kernel_rfl, by decide, (.mk (.nil r_4_0_0) (.nil r_4_0_1))⟩
theorem r_4_1_0000 : Rest 4 1 [0, 0, 0, 0] := fun _ _ _ _ => by kernel_rfl
theorem r_4_1_0001 : Rest 4 1 [0, 0, 0, 1] := fun _ _ _ _ => by kernel_rfl
theorem r_4_1_0010 : Rest 4 1 [0, 0, 1, 0] := fun _ _ _ _ => by kernel_rfl
theorem r_4_1_0011 : Rest 4 1 [0, 0, 1, 1] := fun _ _ _ _ => by kernel_rfl
theorem r_4_1_0100 : Rest 4 1 [0, 1, 0, 0] := fun _ _ _ _ => by kernel_rfl
theorem r_4_1_0101 : Rest 4 1 [0, 1, 0, 1] := fun _ _ _ _ => by kernel_rfl
theorem r_4_1_0110 : Rest 4 1 [0, 1, 1, 0] := fun _ _ _ _ => by kernel_rfl
theorem r_4_1_0111 : Rest 4 1 [0, 1, 1, 1] := fun _ _ _ _ => by kernel_rfl
theorem r_4_1_1000 : Rest 4 1 [1, 0, 0, 0] := fun _ _ _ _ => by kernel_rfl
theorem r_4_1_1001 : Rest 4 1 [1, 0, 0, 1] := fun _ _ _ _ => by kernel_rfl
theorem r_4_1_1010 : Rest 4 1 [1, 0, 1, 0] := fun _ _ _ _ => by kernel_rfl
theorem r_4_1_1011 : Rest 4 1 [1, 0, 1, 1] := fun _ _ _ _ => by kernel_rfl
theorem r_4_1_1100 : Rest 4 1 [1, 1, 0, 0] := fun _ _ _ _ => by kernel_rfl
theorem r_4_1_1101 : Rest 4 1 [1, 1, 0, 1] := fun _ _ _ _ => by kernel_rfl
theorem r_4_1_1110 : Rest 4 1 [1, 1, 1, 0] := fun _ _ _ _ => by kernel_rfl
theorem r_4_1_1111 : Rest 4 1 [1, 1, 1, 1] := fun _ _ _ _ => by kernel_rfl
theorem lev_4_1 : Lev 4 1 4 := ⟨by kernel_rfl, by kernel_rfl, by kernel_rfl, by decide, (.mk (.mk (.mk (.mk (.nil r_4_1_0000) (.nil r_4_1_0001)) (.mk (.nil r_4_1_0010) (.nil r_4_1_0011))) (.mk (.mk (.nil r_4_1_0100) (.nil r_4_1_0101)) (.mk (.nil r_4_1_0110) (.nil r_4_1_0111)))) (.mk (.mk (.mk (.nil r_4_1_1000) (.nil r_4_1_1001)) (.mk (.nil r_4_1_1010) (.nil r_4_1_1011))) (.mk (.mk (.nil r_4_1_1100) (.nil r_4_1_1101)) (.mk (.nil r_4_1_1110) (.nil r_4_1_1111)))))⟩
theorem r_4_4_0 : Rest 4 4 [0] := fun _ _ _ _ => by kernel_rfl
theorem r_4_4_1 : Rest 4 4 [1] := fun _ _ _ _ => by kernel_rfl
theorem lev_4_4 : Lev 4 4 1 := ⟨by kernel_rfl, by kernel_rfl, by kernel_rfl, by decide, (.mk (.nil r_4_4_0) (.nil r_4_4_1))⟩
theorem r_4_5_e : Rest 4 5 [] := fun _ _ _ _ => by kernel_rfl
theorem lev_4_5 : Lev 4 5 0 := ⟨by kernel_rfl, by kernel_rfl, by kernel_rfl, by decide, (.nil r_4_5_e)⟩
theorem r_5_0_0 : Rest 5 0 [0] := fun _ _ _ _ => by kernel_rfl
theorem r_5_0_1 : Rest 5 0 [1] := fun _ _ _ _ => by kernel_rfl
theorem lev_5_0 : Lev 5 0 1 := ⟨by kernel_rfl, by kernel_rfl, by kernel_rfl, by decide, (.mk (.nil r_5_0_0) (.nil r_5_0_1))⟩
theorem r_5_1_00000 : Rest 5 1 [0, 0, 0, 0, 0] := fun _ _ _ _ => by kernel_rfl
theorem r_5_1_00001 : Rest 5 1 [0, 0, 0, 0, 1] := fun _ _ _ _ => by kernel_rfl
theorem r_5_1_00010 : Rest 5 1 [0, 0, 0, 1, 0] := fun _ _ _ _ => by kernel_rfl
theorem r_5_1_00011 : Rest 5 1 [0, 0, 0, 1, 1] := fun _ _ _ _ => by kernel_rfl
theorem r_5_1_00100 : Rest 5 1 [0, 0, 1, 0, 0] := fun _ _ _ _ => by kernel_rfl
theorem r_5_1_00101 : Rest 5 1 [0, 0, 1, 0, 1] := fun _ _ _ _ => by kernel_rfl
theorem r_5_1_00110 : Rest 5 1 [0, 0, 1, 1, 0] := fun _ _ _ _ => by kernel_rfl
theorem r_5_1_00111 : Rest 5 1 [0, 0, 1, 1, 1] := fun _ _ _ _ => by kernel_rfl
theorem r_5_1_01000 : Rest 5 1 [0, 1, 0, 0, 0] := fun _ _ _ _ => by kernel_rfl
theorem r_5_1_01001 : Rest 5 1 [0, 1, 0, 0, 1] := fun _ _ _ _ => by kernel_rfl
theorem r_5_1_01010 : Rest 5 1 [0, 1, 0, 1, 0] := fun _ _ _ _ => by kernel_rfl
theorem r_5_1_01011 : Rest 5 1 [0, 1, 0, 1, 1] := fun _ _ _ _ => by kernel_rfl
theorem r_5_1_01100 : Rest 5 1 [0, 1, 1, 0, 0] := fun _ _ _ _ => by kernel_rfl
theorem r_5_1_01101 : Rest 5 1 [0, 1, 1, 0, 1] := fun _ _ _ _ => by kernel_rfl
theorem r_5_1_01110 : Rest 5 1 [0, 1, 1, 1, 0] := fun _ _ _ _ => by kernel_rfl
theorem r_5_1_01111 : Rest 5 1 [0, 1, 1, 1, 1] := fun _ _ _ _ => by kernel_rfl
theorem r_5_1_10000 : Rest 5 1 [1, 0, 0, 0, 0] := fun _ _ _ _ => by kernel_rfl
theorem r_5_1_10001 : Rest 5 1 [1, 0, 0, 0, 1] := fun _ _ _ _ => by kernel_rfl
theorem r_5_1_10010 : Rest 5 1 [1, 0, 0, 1, 0] := fun _ _ _ _ => by kernel_rfl
theorem r_5_1_10011 : Rest 5 1 [1, 0, 0, 1, 1] := fun _ _ _ _ => by kernel_rfl
theorem r_5_1_10100 : Rest 5 1 [1, 0, 1, 0, 0] := fun _ _ _ _ => by kernel_rfl
theorem r_5_1_10101 : Rest 5 1 [1, 0, 1, 0, 1] := fun _ _ _ _ => by kernel_rfl
theorem r_5_1_10110 : Rest 5 1 [1, 0, 1, 1, 0] := fun _ _ _ _ => by kernel_rfl
theorem r_5_1_10111 : Rest 5 1 [1, 0, 1, 1, 1] := fun _ _ _ _ => by kernel_rfl
theorem r_5_1_11000 : Rest 5 1 [1, 1, 0, 0, 0] := fun _ _ _ _ => by kernel_rfl
theorem r_5_1_11001 : Rest 5 1 [1, 1, 0, 0, 1] := fun _ _ _ _ => by kernel_rfl
theorem r_5_1_11010 : Rest 5 1 [1, 1, 0, 1, 0] := fun _ _ _ _ => by kernel_rfl
theorem r_5_1_11011 : Rest 5 1 [1, 1, 0, 1, 1] := fun _ _ _ _ => by kernel_rfl
theorem r_5_1_11100 : Rest 5 1 [1, 1, 1, 0, 0] := fun _ _ _ _ => by kernel_rfl
theorem r_5_1_11101 : Rest 5 1 [1, 1, 1, 0, 1] := fun _ _ _ _ => by kernel_rfl
theorem r_5_1_11110 : Rest 5 1 [1, 1, 1, 1, 0] := fun _ _ _ _ => by kernel_rfl
theorem r_5_1_11111 : Rest 5 1 [1, 1, 1, 1, 1] := fun _ _ _ _ => by kernel_rfl
theorem lev_5_1 : Lev 5 1 5 := ⟨by kernel_rfl, by kernel_rfl, by kernel_rfl, by decide, (.mk (.mk (.mk (.mk (.mk (.nil r_5_1_00000) (.nil r_5_1_00001)) (.mk (.nil r_5_1_00010) (.nil r_5_1_00011))) (.mk (.mk (.nil r_5_1_00100) (.nil r_5_1_00101)) (.mk (.nil r_5_1_00110) (.nil r_5_1_00111)))) (.mk (.mk (.mk (.nil r_5_1_01000) (.nil r_5_1_01001)) (.mk (.nil r_5_1_01010) (.nil r_5_1_01011))) (.mk (.mk (.nil r_5_1_01100) (.nil r_5_1_01101)) (.mk (.nil r_5_1_01110) (.nil r_5_1_01111))))) (.mk (.mk (.mk (.mk (.nil r_5_1_10000) (.nil r_5_1_10001)) (.mk (.nil r_5_1_10010) (.nil r_5_1_10011))) (.mk (.mk (.nil r_5_1_10100) (.nil r_5_1_10101)) (.mk (.nil r_5_1_10110) (.nil r_5_1_10111)))) (.mk (.mk (.mk (.nil r_5_1_11000) (.nil r_5_1_11001)) (.mk (.nil r_5_1_11010) (.nil r_5_1_11011))) (.mk (.mk (.nil r_5_1_11100) (.nil r_5_1_11101)) (.mk (.nil r_5_1_11110) (.nil r_5_1_11111))))))⟩
theorem r_5_5_0 : Rest 5 5 [0] := fun _ _ _ _ => by kernel_rfl
theorem r_5_5_1 : Rest 5 5 [1] := fun _ _ _ _ => by kernel_rfl
theorem lev_5_5 : Lev 5 5 1 := ⟨by kernel_rfl, by kernel_rfl, by kernel_rfl, by decide, (.mk (.nil r_5_5_0) (.nil r_5_5_1))⟩
theorem r_5_6_e : Rest 5 6 [] := fun _ _ _ _ => by kernel_rfl
theorem lev_5_6 : Lev 5 6 0 := ⟨by kernel_rfl, by kernel_rfl, by kernel_rfl, by decide, (.nil r_5_6_e)⟩
theorem r_6_0_0 : Rest 6 0 [0] := fun _ _ _ _ => by kernel_rfl
theorem r_6_0_1 : Rest 6 0 [1] := fun _ _ _ _ => by kernel_rfl
theorem lev_6_0 : Lev 6 0 1 := ⟨by kernel_rfl, by kernel_rfl, by kernel_rfl, by decide, (.mk (.nil r_6_0_0) (.nil r_6_0_1))⟩
theorem r_6_1_000000 : Rest 6 1 [0, 0, 0, 0, 0, 0] := fun _ _ _ _ => by kernel_rfl
theorem r_6_1_000001 : Rest 6 1 [0, 0, 0, 0, 0, 1] := fun _ _ _ _ => by kernel_rfl
theorem r_6_1_000010 : Rest 6 1 [0, 0, 0, 0, 1, 0] := fun _ _ _ _ => by kernel_rfl
theorem r_6_1_000011 : Rest 6 1 [0, 0, 0, 0, 1, 1] := fun _ _ _ _ => by kernel_rfl
theorem r_6_1_000100 : Rest 6 1 [0, 0, 0, 1, 0, 0] := fun _ _ _ _ => by kernel_rfl
theorem r_6_1_000101 : Rest 6 1 [0, 0, 0, 1, 0, 1] := fun _ _ _ _ => by kernel_rfl
theorem r_6_1_000110 : Rest 6 1 [0, 0, 0, 1, 1, 0] := fun _ _ _ _ => by kernel_rfl
theorem r_6_1_000111 : Rest 6 1 [0, 0, 0, 1, 1, 1] := fun _ _ _ _ => by kernel_rfl
theorem r_6_1_001000 : Rest 6 1 [0, 0, 1, 0, 0, 0] := fun _ _ _ _ => by kernel_rfl
theorem r_6_1_001001 : Rest 6 1 [0, 0, 1, 0, 0, 1] := fun _ _ _ _ => by kernel_rfl
theorem r_6_1_001010 : Rest 6 1 [0, 0, 1, 0, 1, 0] := fun _ _ _ _ => by kernel_rfl
theorem r_6_1_001011 : Rest 6 1 [0, 0, 1, 0, 1, 1] := fun _ _ _ _ => by kernel_rfl
theorem r_6_1_001100 : Rest 6 1 [0, 0, 1, 1, 0, 0] := fun _ _ _ _ => by kernel_rfl
theorem r_6_1_001101 : Rest 6 1 [0, 0, 1, 1, 0, 1] := fun _ _ _ _ => by kernel_rfl
theorem r_6_1_001110 : Rest 6 1 [0, 0, 1, 1, 1, 0] := fun _ _ _ _ => by kernel_rfl
theorem r_6_1_001111 : Rest 6 1 [0, 0, 1, 1, 1, 1] := fun _ _ _ _ => by kernel_rfl
theorem r_6_1_010000 : Rest 6 1 [0, 1, 0, 0, 0, 0] := fun _ _ _ _ => by kernel_rfl
theorem r_6_1_010001 : Rest 6 1 [0, 1, 0, 0, 0, 1] := fun _ _ _ _ => by kernel_rfl
theorem r_6_1_010010 : Rest 6 1 [0, 1, 0, 0, 1, 0] := fun _ _ _ _ => by kernel_rfl
theorem r_6_1_010011 : Rest 6 1 [0, 1, 0, 0, 1, 1] := fun _ _ _ _ => by kernel_rfl
theorem r_6_1_010100 : Rest 6 1 [0, 1, 0, 1, 0, 0] := fun _ _ _ _ => by kernel_rfl
theorem r_6_1_010101 : Rest 6 1 [0, 1, 0, 1, 0, 1] := fun _ _ _ _ => by kernel_rfl
theorem r_6_1_010110 : Rest 6 1 [0, 1, 0, 1, 1, 0] := fun _ _ _ _ => by kernel_rfl
theorem r_6_1_010111 : Rest 6 1 [0, 1, 0, 1, 1, 1] := fun _ _ _ _ => by kernel_rfl
theorem r_6_1_011000 : Rest 6 1 [0, 1, 1, 0, 0, 0] := fun _ _ _ _ => by kernel_rfl
theorem r_6_1_011001 : Rest 6 1 [0, 1, 1, 0, 0, 1] := fun _ _ _ _ => by kernel_rfl
theorem r_6_1_011010 : Rest 6 1 [0, 1, 1, 0, 1, 0] := fun _ _ _ _ => by kernel_rfl
theorem r_6_1_011011 : Rest 6 1 [0, 1, 1, 0, 1, 1] := fun _ _ _ _ => by kernel_rfl
theorem r_6_1_011100 : Rest 6 1 [0, 1, 1, 1, 0, 0] := fun _ _ _ _ => by kernel_rfl
theorem r_6_1_011101 : Rest 6 1 [0, 1, 1, 1, 0, 1] := fun _ _ _ _ => by kernel_rfl
theorem r_6_1_011110 : Rest 6 1 [0, 1, 1, 1, 1, 0] := fun _ _ _ _ => by kernel_rfl
theorem r_6_1_011111 : Rest 6 1 [0, 1, 1, 1, 1, 1] := fun _ _ _ _ => by kernel_rfl
theorem r_6_1_100000 : Rest 6 1 [1, 0, 0, 0, 0, 0] := fun _ _ _ _ => by kernel_rfl
theorem r_6_1_100001 : Rest 6 1 [1, 0, 0, 0, 0, 1] := fun _ _ _ _ => by kernel_rfl
theorem r_6_1_100010 : Rest 6 1 [1, 0, 0, 0, 1, 0] := fun _ _ _ _ => by kernel_rfl
theorem r_6_1_100011 : Rest 6 1 [1, 0, 0, 0, 1, 1] := fun _ _ _ _ => by kernel_rfl
theorem r_6_1_100100 : Rest 6 1 [1, 0, 0, 1, 0, 0] := fun _ _ _ _ => by kernel_rfl
theorem r_6_1_100101 : Rest 6 1 [1, 0, 0, 1, 0, 1] := fun _ _ _ _ => by kernel_rfl
theorem r_6_1_100110 : Rest 6 1 [1, 0, 0, 1, 1, 0] := fun _ _ _ _ => by kernel_rfl
theorem r_6_1_100111 : Rest 6 1 [1, 0, 0, 1, 1, 1] := fun _ _ _ _ => by kernel_rfl
theorem r_6_1_101000 : Rest 6 1 [1, 0, 1, 0, 0, 0] := fun _ _ _ _ => by kernel_rfl
theorem r_6_1_101001 : Rest 6 1 [1, 0, 1, 0, 0, 1] := fun _ _ _ _ => by kernel_rfl
theorem r_6_1_101010 : Rest 6 1 [1, 0, 1, 0, 1, 0] := fun _ _ _ _ => by kernel_rfl
theorem r_6_1_101011 : Rest 6 1 [1, 0, 1, 0, 1, 1] := fun _ _ _ _ => by kernel_rfl
theorem r_6_1_101100 : Rest 6 1 [1, 0, 1, 1, 0, 0] := fun _ _ _ _ => by kernel_rfl
theorem r_6_1_101101 : Rest 6 1 [1, 0, 1, 1, 0, 1] := fun _ _ _ _ => by kernel_rfl
theorem r_6_1_101110 : Rest 6 1 [1, 0, 1, 1, 1, 0] := fun _ _ _ _ => by kernel_rfl
theorem r_6_1_101111 : Rest 6 1 [1, 0, 1, 1, 1, 1] := fun _ _ _ _ => by kernel_rfl
theorem r_6_1_110000 : Rest 6 1 [1, 1, 0, 0, 0, 0] := fun _ _ _ _ => by kernel_rfl
theorem r_6_1_110001 : Rest 6 1 [1, 1, 0, 0, 0, 1] := fun _ _ _ _ => by kernel_rfl
theorem r_6_1_110010 : Rest 6 1 [1, 1, 0, 0, 1, 0] := fun _ _ _ _ => by kernel_rfl
theorem r_6_1_110011 : Rest 6 1 [1, 1, 0, 0, 1, 1] := fun _ _ _ _ => by kernel_rfl
theorem r_6_1_110100 : Rest 6 1 [1, 1, 0, 1, 0, 0] := fun _ _ _ _ => by kernel_rfl
theorem r_6_1_110101 : Rest 6 1 [1, 1, 0, 1, 0, 1] := fun _ _ _ _ => by kernel_rfl
theorem r_6_1_110110 : Rest 6 1 [1, 1, 0, 1, 1, 0] := fun _ _ _ _ => by kernel_rfl
theorem r_6_1_110111 : Rest 6 1 [1, 1, 0, 1, 1, 1] := fun _ _ _ _ => by kernel_rfl
theorem r_6_1_111000 : Rest 6 1 [1, 1, 1, 0, 0, 0] := fun _ _ _ _ => by kernel_rfl
theorem r_6_1_111001 : Rest 6 1 [1, 1, 1, 0, 0, 1] := fun _ _ _ _ => by kernel_rfl
theorem r_6_1_111010 : Rest 6 1 [1, 1, 1, 0, 1, 0] := fun _ _ _ _ => by kernel_rfl
theorem r_6_1_111011 : Rest 6 1 [1, 1, 1, 0, 1, 1] := fun _ _ _ _ => by kernel_rfl
theorem r_6_1_111100 : Rest 6 1 [1, 1, 1, 1, 0, 0] := fun _ _ _ _ => by kernel_rfl
theorem r_6_1_111101 : Rest 6 1 [1, 1, 1, 1, 0, 1] := fun _ _ _ _ => by kernel_rfl
theorem r_6_1_111110 : Rest 6 1 [1, 1, 1, 1, 1, 0] := fun _ _ _ _ => by kernel_rfl
theorem r_6_1_111111 : Rest 6 1 [1, 1, 1, 1, 1, 1] := fun _ _ _ _ => by kernel_rfl
theorem lev_6_1 : Lev 6 1 6 := ⟨by kernel_rfl, by kernel_rfl, by kernel_rfl, by decide, (.mk (.mk (.mk (.mk (.mk (.mk (.nil r_6_1_000000) (.nil r_6_1_000001)) (.mk (.nil r_6_1_000010) (.nil r_6_1_000011))) (.mk (.mk (.nil r_6_1_000100) (.nil r_6_1_000101)) (.mk (.nil r_6_1_000110) (.nil r_6_1_000111)))) (.mk (.mk (.mk (.nil r_6_1_001000) (.nil r_6_1_001001)) (.mk (.nil r_6_1_001010) (.nil r_6_1_001011))) (.mk (.mk (.nil r_6_1_001100) (.nil r_6_1_001101)) (.mk (.nil r_6_1_001110) (.nil r_6_1_001111))))) (.mk (.mk (.mk (.mk (.nil r_6_1_010000) (.nil r_6_1_010001)) (.mk (.nil r_6_1_010010) (.nil r_6_1_010011))) (.mk (.mk (.nil r_6_1_010100) (.nil r_6_1_010101)) (.mk (.nil r_6_1_010110) (.nil r_6_1_010111)))) (.mk (.mk (.mk (.nil r_6_1_011000) (.nil r_6_1_011001)) (.mk (.nil r_6_1_011010) (.nil r_6_1_011011))) (.mk (.mk (.nil r_6_1_011100) (.nil r_6_1_011101)) (.mk (.nil r_6_1_011110) (.nil r_6_1_011111)))))) (.mk (.mk (.mk (.mk (.mk (.nil r_6_1_100000) (.nil r_6_1_100001)) (.mk (.nil r_6_1_100010) (.nil r_6_1_100011))) (.mk (.mk (.nil r_6_1_100100) (.nil r_6_1_100101)) (.mk (.nil r_6_1_100110) (.nil r_6_1_100111)))) (.mk (.mk (.mk (.nil r_6_1_101000) (.nil r_6_1_101001)) (.mk (.nil r_6_1_101010) (.nil r_6_1_101011))) (.mk (.mk (.nil r_6_1_101100) (.nil r_6_1_101101)) (.mk (.nil r_6_1_101110) (.nil r_6_1_101111))))) (.mk (.mk (.mk (.mk (.nil r_6_1_110000) (.nil r_6_1_110001)) (.mk (.nil r_6_1_110010) (.nil r_6_1_110011))) (.mk (.mk (.nil r_6_1_110100) (.nil r_6_1_110101)) (.mk (.nil r_6_1_110110) (.nil r_6_1_110111)))) (.mk (.mk (.mk (.nil r_6_1_111000) (.nil r_6_1_111001)) (.mk (.nil r_6_1_111010) (.nil r_6_1_111011))) (.mk (.mk (.nil r_6_1_111100) (.nil r_6_1_111101)) (.mk (.nil r_6_1_111110) (.nil r_6_1_111111)))))))⟩
theorem r_6_6_0 : Rest 6 6 [0] := fun _ _ _ _ => by kernel_rfl
theorem r_6_6_1 : Rest 6 6 [1] := fun _ _ _ _ => by kernel_rfl
theorem lev_6_6 : Lev 6 6 1 := ⟨by kernel_rfl, by kernel_rfl, by kernel_rfl, by decide, (.mk (.nil r_6_6_0) (.nil r_6_6_1))⟩
theorem r_6_7_e : Rest 6 7 [] := fun _ _ _ _ => by kernel_rfl
theorem lev_6_7 : Lev 6 7 0 := ⟨by kernel_rfl, by kernel_rfl, by kernel_rfl, by decide, (.nil r_6_7_e)⟩
theorem r_7_0_0 : Rest 7 0 [0] := fun _ _ _ _ => by kernel_rfl
theorem r_7_0_1 : Rest 7 0 [1] := fun _ _ _ _ => by kernel_rfl
theorem lev_7_0 : Lev 7 0 1 := ⟨by kernel_rfl, by kernel_rfl, by kernel_rfl, by decide, (.mk (.nil r_7_0_0) (.nil r_7_0_1))⟩
theorem r_7_1_0000000 : Rest 7 1 [0, 0, 0, 0, 0, 0, 0] := fun _ _ _ _ => by kernel_rfl
theorem r_7_1_0000001 : Rest 7 1 [0, 0, 0, 0, 0, 0, 1] := fun _ _ _ _ => by kernel_rfl
theorem r_7_1_0000010 : Rest 7 1 [0, 0, 0, 0, 0, 1, 0] := fun _ _ _ _ => by kernel_rfl
theorem r_7_1_0000011 : Rest 7 1 [0, 0, 0, 0, 0, 1, 1] := fun _ _ _ _ => by kernel_rfl
theorem r_7_1_0000100 : Rest 7 1 [0, 0, 0, 0, 1, 0, 0] := fun _ _ _ _ => by kernel_rfl
theorem r_7_1_0000101 : Rest 7 1 [0, 0, 0, 0, 1, 0, 1] := fun _ _ _ _ => by kernel_rfl
theorem r_7_1_0000110 : Rest 7 1 [0, 0, 0, 0, 1, 1, 0] := fun _ _ _ _ => by kernel_rfl
theorem r_7_1_0000111 : Rest 7 1 [0, 0, 0, 0, 1, 1, 1] := fun _ _ _ _ => by kernel_rfl
theorem r_7_1_0001000 : Rest 7 1 [0, 0, 0, 1, 0, 0, 0] := fun _ _ _ _ => by kernel_rfl
theorem r_7_1_0001001 : Rest 7 1 [0, 0, 0, 1, 0, 0, 1] := fun _ _ _ _ => by kernel_rfl
theorem r_7_1_0001010 : Rest 7 1 [0, 0, 0, 1, 0, 1, 0] := fun _ _ _ _ => by kernel_rfl
theorem r_7_1_0001011 : Rest 7 1 [0, 0, 0, 1, 0, 1, 1] := fun _ _ _ _ => by kernel_rfl
theorem r_7_1_0001100 : Rest 7 1 [0, 0, 0, 1, 1, 0, 0] := fun _ _ _ _ => by kernel_rfl
theorem r_7_1_0001101 : Rest 7 1 [0, 0, 0, 1, 1, 0, 1] := fun _ _ _ _ => by kernel_rfl
theorem r_7_1_0001110 : Rest 7 1 [0, 0, 0, 1, 1, 1, 0] := fun _ _ _ _ => by kernel_rfl
theorem r_7_1_0001111 : Rest 7 1 [0, 0, 0, 1, 1, 1, 1] := fun _ _ _ _ => by kernel_rfl
theorem r_7_1_0010000 : Rest 7 1 [0, 0, 1, 0, 0, 0, 0] := fun _ _ _ _ => by kernel_rfl
theorem r_7_1_0010001 : Rest 7 1 [0, 0, 1, 0, 0, 0, 1] := fun _ _ _ _ => by kernel_rfl
theorem r_7_1_0010010 : Rest 7 1 [0, 0, 1, 0, 0, 1, 0] := fun _ _ _ _ => by kernel_rfl
theorem r_7_1_0010011 : Rest 7 1 [0, 0, 1, 0, 0, 1, 1] := fun _ _ _ _ => by kernel_rfl
theorem r_7_1_0010100 : Rest 7 1 [0, 0, 1, 0, 1, 0, 0] := fun _ _ _ _ => by kernel_rfl
theorem r_7_1_0010101 : Rest 7 1 [0, 0, 1, 0, 1, 0, 1] := fun _ _ _ _ => by kernel_rfl
theorem r_7_1_0010110 : Rest 7 1 [0, 0, 1, 0, 1, 1, 0] := fun _ _ _ _ => by kernel_rfl
theorem r_7_1_0010111 : Rest 7 1 [0, 0, 1, 0, 1, 1, 1] := fun _ _ _ _ => by kernel_rfl
theorem r_7_1_0011000 : Rest 7 1 [0, 0, 1, 1, 0, 0, 0] := fun _ _ _ _ => by kernel_rfl
theorem r_7_1_0011001 : Rest 7 1 [0, 0, 1, 1, 0, 0, 1] := fun _ _ _ _ => by kernel_rfl
theorem r_7_1_0011010 : Rest 7 1 [0, 0, 1, 1, 0, 1, 0] := fun _ _ _ _ => by kernel_rfl
theorem r_7_1_0011011 : Rest 7 1 [0, 0, 1, 1, 0, 1, 1] := fun _ _ _ _ => by kernel_rfl
theorem r_7_1_0011100 : Rest 7 1 [0, 0, 1, 1, 1, 0, 0] := fun _ _ _ _ => by kernel_rfl
theorem r_7_1_0011101 : Rest 7 1 [0, 0, 1, 1, 1, 0, 1] := fun _ _ _ _ => by kernel_rfl
theorem r_7_1_0011110 : Rest 7 1 [0, 0, 1, 1, 1, 1, 0] := fun _ _ _ _ => by kernel_rfl
theorem r_7_1_0011111 : Rest 7 1 [0, 0, 1, 1, 1, 1, 1] := fun _ _ _ _ => by kernel_rfl
theorem r_7_1_0100000 : Rest 7 1 [0, 1, 0, 0, 0, 0, 0] := fun _ _ _ _ => by kernel_rfl
theorem r_7_1_0100001 : Rest 7 1 [0, 1, 0, 0, 0, 0, 1] := fun _ _ _ _ => by kernel_rfl
theorem r_7_1_0100010 : Rest 7 1 [0, 1, 0, 0, 0, 1, 0] := fun _ _ _ _ => by kernel_rfl
theorem r_7_1_0100011 : Rest 7 1 [0, 1, 0, 0, 0, 1, 1] := fun _ _ _ _ => by kernel_rfl
theorem r_7_1_0100100 : Rest 7 1 [0, 1, 0, 0, 1, 0, 0] := fun _ _ _ _ => by kernel_rfl
theorem r_7_1_0100101 : Rest 7 1 [0, 1, 0, 0, 1, 0, 1] := fun _ _ _ _ => by kernel_rfl
theorem r_7_1_0100110 : Rest 7 1 [0, 1, 0, 0, 1, 1, 0] := fun _ _ _ _ => by kernel_rfl
theorem r_7_1_0100111 : Rest 7 1 [0, 1, 0, 0, 1, 1, 1] := fun _ _ _ _ => by kernel_rfl
theorem r_7_1_0101000 : Rest 7 1 [0, 1, 0, 1, 0, 0, 0] := fun _ _ _ _ => by kernel_rfl
theorem r_7_1_0101001 : Rest 7 1 [0, 1, 0, 1, 0, 0, 1] := fun _ _ _ _ => by kernel_rfl
theorem r_7_1_0101010 : Rest 7 1 [0, 1, 0, 1, 0, 1, 0] := fun _ _ _ _ => by kernel_rfl
theorem r_7_1_0101011 : Rest 7 1 [0, 1, 0, 1, 0, 1, 1] := fun _ _ _ _ => by kernel_rfl
theorem r_7_1_0101100 : Rest 7 1 [0, 1, 0, 1, 1, 0, 0] := fun _ _ _ _ => by kernel_rfl
theorem r_7_1_0101101 : Rest 7 1 [0, 1, 0, 1, 1, 0, 1] := fun _ _ _ _ => by kernel_rfl
theorem r_7_1_0101110 : Rest 7 1 [0, 1, 0, 1, 1, 1, 0] := fun _ _ _ _ => by kernel_rfl
theorem r_7_1_0101111 : Rest 7 1 [0, 1, 0, 1, 1, 1, 1] := fun _ _ _ _ => by kernel_rfl
theorem r_7_1_0110000 : Rest 7 1 [0, 1, 1, 0, 0, 0, 0] := fun _ _ _ _ => by kernel_rfl
theorem r_7_1_0110001 : Rest 7 1 [0, 1, 1, 0, 0, 0, 1] := fun _ _ _ _ => by kernel_rfl
theorem r_7_1_0110010 : Rest 7 1 [0, 1, 1, 0, 0, 1, 0] := fun _ _ _ _ => by kernel_rfl
theorem r_7_1_0110011 : Rest 7 1 [0, 1, 1, 0, 0, 1, 1] := fun _ _ _ _ => by kernel_rfl
theorem r_7_1_0110100 : Rest 7 1 [0, 1, 1, 0, 1, 0, 0] := fun _ _ _ _ => by kernel_rfl
theorem r_7_1_0110101 : Rest 7 1 [0, 1, 1, 0, 1, 0, 1] := fun _ _ _ _ => by kernel_rfl
theorem r_7_1_0110110 : Rest 7 1 [0, 1, 1, 0, 1, 1, 0] := fun _ _ _ _ => by kernel_rfl
theorem r_7_1_0110111 : Rest 7 1 [0, 1, 1, 0, 1, 1, 1] := fun _ _ _ _ => by kernel_rfl
theorem r_7_1_0111000 : Rest 7 1 [0, 1, 1, 1, 0, 0, 0] := fun _ _ _ _ => by kernel_rfl
theorem r_7_1_0111001 : Rest 7 1 [0, 1, 1, 1, 0, 0, 1] := fun _ _ _ _ => by kernel_rfl
theorem r_7_1_0111010 : Rest 7 1 [0, 1, 1, 1, 0, 1, 0] := fun _ _ _ _ => by kernel_rfl
theorem r_7_1_0111011 : Rest 7 1 [0, 1, 1, 1, 0, 1, 1] := fun _ _ _ _ => by kernel_rfl
theorem r_7_1_0111100 : Rest 7 1 [0, 1, 1, 1, 1, 0, 0] := fun _ _ _ _ => by kernel_rfl
theorem r_7_1_0111101 : Rest 7 1 [0, 1, 1, 1, 1, 0, 1] := fun _ _ _ _ => by kernel_rfl
theorem r_7_1_0111110 : Rest 7 1 [0, 1, 1, 1, 1, 1, 0] := fun _ _ _ _ => by kernel_rfl
theorem r_7_1_0111111 : Rest 7 1 [0, 1, 1, 1, 1, 1, 1] := fun _ _ _ _ => by kernel_rfl
theorem r_7_1_1000000 : Rest 7 1 [1, 0, 0, 0, 0, 0, 0] := fun _ _ _ _ => by kernel_rfl
theorem r_7_1_1000001 : Rest 7 1 [1, 0, 0, 0, 0, 0, 1] := fun _ _ _ _ => by kernel_rfl
theorem r_7_1_1000010 : Rest 7 1 [1, 0, 0, 0, 0, 1, 0] := fun _ _ _ _ => by kernel_rfl
theorem r_7_1_1000011 : Rest 7 1 [1, 0, 0, 0, 0, 1, 1] := fun _ _ _ _ => by kernel_rfl
theorem r_7_1_1000100 : Rest 7 1 [1, 0, 0, 0, 1, 0, 0] := fun _ _ _ _ => by kernel_rfl
theorem r_7_1_1000101 : Rest 7 1 [1, 0, 0, 0, 1, 0, 1] := fun _ _ _ _ => by kernel_rfl
theorem r_7_1_1000110 : Rest 7 1 [1, 0, 0, 0, 1, 1, 0] := fun _ _ _ _ => by kernel_rfl
theorem r_7_1_1000111 : Rest 7 1 [1, 0, 0, 0, 1, 1, 1] := fun _ _ _ _ => by kernel_rfl
theorem r_7_1_1001000 : Rest 7 1 [1, 0, 0, 1, 0, 0, 0] := fun _ _ _ _ => by kernel_rfl
theorem r_7_1_1001001 : Rest 7 1 [1, 0, 0, 1, 0, 0, 1] := fun _ _ _ _ => by kernel_rfl
theorem r_7_1_1001010 : Rest 7 1 [1, 0, 0, 1, 0, 1, 0] := fun _ _ _ _ => by kernel_rfl
theorem r_7_1_1001011 : Rest 7 1 [1, 0, 0, 1, 0, 1, 1] := fun _ _ _ _ => by kernel_rfl
theorem r_7_1_1001100 : Rest 7 1 [1, 0, 0, 1, 1, 0, 0] := fun _ _ _ _ => by kernel_rfl
theorem r_7_1_1001101 : Rest 7 1 [1, 0, 0, 1, 1, 0, 1] := fun _ _ _ _ => by kernel_rfl
theorem r_7_1_1001110 : Rest 7 1 [1, 0, 0, 1, 1, 1, 0] := fun _ _ _ _ => by kernel_rfl
theorem r_7_1_1001111 : Rest 7 1 [1, 0, 0, 1, 1, 1, 1] := fun _ _ _ _ => by kernel_rfl
theorem r_7_1_1010000 : Rest 7 1 [1, 0, 1, 0, 0, 0, 0] := fun _ _ _ _ => by kernel_rfl
theorem r_7_1_1010001 : Rest 7 1 [1, 0, 1, 0, 0, 0, 1] := fun _ _ _ _ => by kernel_rfl
theorem r_7_1_1010010 : Rest 7 1 [1, 0, 1, 0, 0, 1, 0] := fun _ _ _ _ => by kernel_rfl
theorem r_7_1_1010011 : Rest 7 1 [1, 0, 1, 0, 0, 1, 1] := fun _ _ _ _ => by kernel_rfl
theorem r_7_1_1010100 : Rest 7 1 [1, 0, 1, 0, 1, 0, 0] := fun _ _ _ _ => by kernel_rfl
theorem r_7_1_1010101 : Rest 7 1 [1, 0, 1, 0, 1, 0, 1] := fun _ _ _ _ => by kernel_rfl
theorem r_7_1_1010110 : Rest 7 1 [1, 0, 1, 0, 1, 1, 0] := fun _ _ _ _ => by kernel_rfl
theorem r_7_1_1010111 : Rest 7 1 [1, 0, 1, 0, 1, 1, 1] := fun _ _ _ _ => by kernel_rfl
theorem r_7_1_1011000 : Rest 7 1 [1, 0, 1, 1, 0, 0, 0] := fun _ _ _ _ => by kernel_rfl
theorem r_7_1_1011001 : Rest 7 1 [1, 0, 1, 1, 0, 0, 1] := fun _ _ _ _ => by kernel_rfl
theorem r_7_1_1011010 : Rest 7 1 [1, 0, 1, 1, 0, 1, 0] := fun _ _ _ _ => by kernel_rfl
theorem r_7_1_1011011 : Rest 7 1 [1, 0, 1, 1, 0, 1, 1] := fun _ _ _ _ => by kernel_rfl
theorem r_7_1_1011100 : Rest 7 1 [1, 0, 1, 1, 1, 0, 0] := fun _ _ _ _ => by kernel_rfl
theorem r_7_1_1011101 : Rest 7 1 [1, 0, 1, 1, 1, 0, 1] := fun _ _ _ _ => by kernel_rfl
theorem r_7_1_1011110 : Rest 7 1 [1, 0, 1, 1, 1, 1, 0] := fun _ _ _ _ => by kernel_rfl
theorem r_7_1_1011111 : Rest 7 1 [1, 0, 1, 1, 1, 1, 1] := fun _ _ _ _ => by kernel_rfl
theorem r_7_1_1100000 : Rest 7 1 [1, 1, 0, 0, 0, 0, 0] := fun _ _ _ _ => by kernel_rfl
theorem r_7_1_1100001 : Rest 7 1 [1, 1, 0, 0, 0, 0, 1] := fun _ _ _ _ => by kernel_rfl
theorem r_7_1_1100010 : Rest 7 1 [1, 1, 0, 0, 0, 1, 0] := fun _ _ _ _ => by kernel_rfl
theorem r_7_1_1100011 : Rest 7 1 [1, 1, 0, 0, 0, 1, 1] := fun _ _ _ _ => by kernel_rfl
theorem r_7_1_1100100 : Rest 7 1 [1, 1, 0, 0, 1, 0, 0] := fun _ _ _ _ => by kernel_rfl
theorem r_7_1_1100101 : Rest 7 1 [1, 1, 0, 0, 1, 0, 1] := fun _ _ _ _ => by kernel_rfl
theorem r_7_1_1100110 : Rest 7 1 [1, 1, 0, 0, 1, 1, 0] := fun _ _ _ _ => by kernel_rfl
theorem r_7_1_1100111 : Rest 7 1 [1, 1, 0, 0, 1, 1, 1] := fun _ _ _ _ => by kernel_rfl
theorem r_7_1_1101000 : Rest 7 1 [1, 1, 0, 1, 0, 0, 0] := fun _ _ _ _ => by kernel_rfl
theorem r_7_1_1101001 : Rest 7 1 [1, 1, 0, 1, 0, 0, 1] := fun _ _ _ _ => by kernel_rfl
theorem r_7_1_1101010 : Rest 7 1 [1, 1, 0, 1, 0, 1, 0] := fun _ _ _ _ => by kernel_rfl
theorem r_7_1_1101011 : Rest 7 1 [1, 1, 0, 1, 0, 1, 1] := fun _ _ _ _ => by kernel_rfl
theorem r_7_1_1101100 : Rest 7 1 [1, 1, 0, 1, 1, 0, 0] := fun _ _ _ _ => by kernel_rfl
theorem r_7_1_1101101 : Rest 7 1 [1, 1, 0, 1, 1, 0, 1] := fun _ _ _ _ => by kernel_rfl
theorem r_7_1_1101110 : Rest 7 1 [1, 1, 0, 1, 1, 1, 0] := fun _ _ _ _ => by kernel_rfl
theorem r_7_1_1101111 : Rest 7 1 [1, 1, 0, 1, 1, 1, 1] := fun _ _ _ _ => by kernel_rfl
theorem r_7_1_1110000 : Rest 7 1 [1, 1, 1, 0, 0, 0, 0] := fun _ _ _ _ => by kernel_rfl
theorem r_7_1_1110001 : Rest 7 1 [1, 1, 1, 0, 0, 0, 1] := fun _ _ _ _ => by kernel_rfl
theorem r_7_1_1110010 : Rest 7 1 [1, 1, 1, 0, 0, 1, 0] := fun _ _ _ _ => by kernel_rfl
theorem r_7_1_1110011 : Rest 7 1 [1, 1, 1, 0, 0, 1, 1] := fun _ _ _ _ => by kernel_rfl
theorem r_7_1_1110100 : Rest 7 1 [1, 1, 1, 0, 1, 0, 0] := fun _ _ _ _ => by kernel_rfl
theorem r_7_1_1110101 : Rest 7 1 [1, 1, 1, 0, 1, 0, 1] := fun _ _ _ _ => by kernel_rfl
theorem r_7_1_1110110 : Rest 7 1 [1, 1, 1, 0, 1, 1, 0] := fun _ _ _ _ => by kernel_rfl
theorem r_7_1_1110111 : Rest 7 1 [1, 1, 1, 0, 1, 1, 1] := fun _ _ _ _ => by kernel_rfl
theorem r_7_1_1111000 : Rest 7 1 [1, 1, 1, 1, 0, 0, 0] := fun _ _ _ _ => by kernel_rfl
theorem r_7_1_1111001 : Rest 7 1 [1, 1, 1, 1, 0, 0, 1] := fun _ _ _ _ => by kernel_rfl
theorem r_7_1_1111010 : Rest 7 1 [1, 1, 1, 1, 0, 1, 0] := fun _ _ _ _ => by kernel_rfl
theorem r_7_1_1111011 : Rest 7 1 [1, 1, 1, 1, 0, 1, 1] := fun _ _ _ _ => by kernel_rfl
theorem r_7_1_1111100 : Rest 7 1 [1, 1, 1, 1, 1, 0, 0] := fun _ _ _ _ => by kernel_rfl
theorem r_7_1_1111101 : Rest 7 1 [1, 1, 1, 1, 1, 0, 1] := fun _ _ _ _ => by kernel_rfl
theorem r_7_1_1111110 : Rest 7 1 [1, 1, 1, 1, 1, 1, 0] := fun _ _ _ _ => by kernel_rfl
theorem r_7_1_1111111 : Rest 7 1 [1, 1, 1, 1, 1, 1, 1] := fun _ _ _ _ => by kernel_rfl
theorem lev_7_1 : Lev 7 1 7 := ⟨by kernel_rfl, by kernel_rfl, by kernel_rfl, by decide, (.mk (.mk (.mk (.mk (.mk (.mk (.mk (.nil r_7_1_0000000) (.nil r_7_1_0000001)) (.mk (.nil r_7_1_0000010) (.nil r_7_1_0000011))) (.mk (.mk (.nil r_7_1_0000100) (.nil r_7_1_0000101)) (.mk (.nil r_7_1_0000110) (.nil r_7_1_0000111)))) (.mk (.mk (.mk (.nil r_7_1_0001000) (.nil r_7_1_0001001)) (.mk (.nil r_7_1_0001010) (.nil r_7_1_0001011))) (.mk (.mk (.nil r_7_1_0001100) (.nil r_7_1_0001101)) (.mk (.nil r_7_1_0001110) (.nil r_7_1_0001111))))) (.mk (.mk (.mk (.mk (.nil r_7_1_0010000) (.nil r_7_1_0010001)) (.mk (.nil r_7_1_0010010) (.nil r_7_1_0010011))) (.mk (.mk (.nil r_7_1_0010100) (.nil r_7_1_0010101)) (.mk (.nil r_7_1_0010110) (.nil r_7_1_0010111)))) (.mk (.mk (.mk (.nil r_7_1_0011000) (.nil r_7_1_0011001)) (.mk (.nil r_7_1_0011010) (.nil r_7_1_0011011))) (.mk (.mk (.nil r_7_1_0011100) (.nil r_7_1_0011101)) (.mk (.nil r_7_1_0011110) (.nil r_7_1_0011111)))))) (.mk (.mk (.mk (.mk (.mk (.nil r_7_1_0100000) (.nil r_7_1_0100001)) (.mk (.nil r_7_1_0100010) (.nil r_7_1_0100011))) (.mk (.mk (.nil r_7_1_0100100) (.nil r_7_1_0100101)) (.mk (.nil r_7_1_0100110) (.nil r_7_1_0100111)))) (.mk (.mk (.mk (.nil r_7_1_0101000) (.nil r_7_1_0101001)) (.mk (.nil r_7_1_0101010) (.nil r_7_1_0101011))) (.mk (.mk (.nil r_7_1_0101100) (.nil r_7_1_0101101)) (.mk (.nil r_7_1_0101110) (.nil r_7_1_0101111))))) (.mk (.mk (.mk (.mk (.nil r_7_1_0110000) (.nil r_7_1_0110001)) (.mk (.nil r_7_1_0110010) (.nil r_7_1_0110011))) (.mk (.mk (.nil r_7_1_0110100) (.nil r_7_1_0110101)) (.mk (.nil r_7_1_0110110) (.nil r_7_1_0110111)))) (.mk (.mk (.mk (.nil r_7_1_0111000) (.nil r_7_1_0111001)) (.mk (.nil r_7_1_0111010) (.nil r_7_1_0111011))) (.mk (.mk (.nil r_7_1_0111100) (.nil r_7_1_0111101)) (.mk (.nil r_7_1_0111110) (.nil r_7_1_0111111))))))) (.mk (.mk (.mk (.mk (.mk (.mk (.nil r_7_1_1000000) (.nil r_7_1_1000001)) (.mk (.nil r_7_1_1000010) (.nil r_7_1_1000011))) (.mk (.mk (.nil r_7_1_1000100) (.nil r_7_1_1000101)) (.mk (.nil r_7_1_1000110) (.nil r_7_1_1000111)))) (.mk (.mk (.mk (.nil r_7_1_1001000) (.nil r_7_1_1001001)) (.mk (.nil r_7_1_1001010) (.nil r_7_1_1001011))) (.mk (.mk (.nil r_7_1_1001100) (.nil r_7_1_1001101)) (.mk (.nil r_7_1_1001110) (.nil r_7_1_1001111))))) (.mk (.mk (.mk (.mk (.nil r_7_1_1010000) (.nil r_7_1_1010001)) (.mk (.nil r_7_1_1010010) (.nil r_7_1_1010011))) (.mk (.mk (.nil r_7_1_1010100) (.nil r_7_1_1010101)) (.mk (.nil r_7_1_1010110) (.nil r_7_1_1010111)))) (.mk (.mk (.mk (.nil r_7_1_1011000) (.nil r_7_1_1011001)) (.mk (.nil r_7_1_1011010) (.nil r_7_1_1011011))) (.mk (.mk (.nil r_7_1_1011100) (.nil r_7_1_1011101)) (.mk (.nil r_7_1_1011110) (.nil r_7_1_1011111)))))) (.mk (.mk (.mk (.mk (.mk (.nil r_7_1_1100000) (.nil r_7_1_1100001)) (.mk (.nil r_7_1_1100010) (.nil r_7_1_1100011))) (.mk (.mk (.nil r_7_1_1100100) (.nil r_7_1_1100101)) (.mk (.nil r_7_1_1100110) (.nil r_7_1_1100111)))) (.mk (.mk (.mk (.nil r_7_1_1101000) (.nil r_7_1_1101001)) (.mk (.nil r_7_1_1101010) (.nil r_7_1_1101011))) (.mk (.mk (.nil r_7_1_1101100) (.nil r_7_1_1101101)) (.mk (.nil r_7_1_1101110) (.nil r_7_1_1101111))))) (.mk (.mk (.mk (.mk (.nil r_7_1_1110000) (.nil r_7_1_1110001)) (.mk (.nil r_7_1_1110010) (.nil r_7_1_1110011))) (.mk (.mk (.nil r_7_1_1110100) (.nil r_7_1_1110101)) (.mk (.nil r_7_1_1110110) (.nil r_7_1_1110111)))) (.mk (.mk (.mk (.nil r_7_1_1111000) (.nil r_7_1_1111001)) (.mk (.nil r_7_1_1111010) (.nil r_7_1_1111011))) (.mk (.mk (.nil r_7_1_1111100) (.nil r_7_1_1111101)) (.mk (.nil r_7_1_1111110) (.nil r_7_1_1111111))))))))⟩
theorem r_7_7_0 : Rest 7 7 [0] := fun _ _ _ _ => by kernel_rfl
theorem r_7_7_1 : Rest 7 7 [1] := fun _ _ _ _ => by kernel_rfl
theorem lev_7_7 : Lev 7 7 1 := ⟨by kernel_rfl, by kernel_rfl, by kernel_rfl, by decide, (.mk (.nil r_7_7_0) (.nil r_7_7_1))⟩
theorem r_7_8_e : Rest 7 8 [] := fun _ _ _ _ => by kernel_rfl
theorem lev_7_8 : Lev 7 8 0 := ⟨by kernel_rfl, by kernel_rfl, by kernel_rfl, by decide, (.nil r_7_8_e)⟩
def ml (n p i : Nat) : Option D := (envOf (laM [none, none, some (.int n), some (lots n (n - 1)), some (.int p), none, none])).getD i none
def Mid (n p : Nat) : Prop := ∀ e0 e1 : Option D, laM [e0, e1, some (.int n), some (lots n (n - 1)), some (.int p), none, none] = .ok .nx [e0, e1, some (.int n), some (lots n (n - 1)), some (.int p), ml n p 5, ml n p 6]
theorem mid_2_0 : Mid 2 0 := fun _ _ => by kernel_rfl
theorem mid_2_1 : Mid 2 1 := fun _ _ => by kernel_rfl
theorem mid_2_2 : Mid 2 2 := fun _ _ => by kernel_rfl
theorem mid_2_3 : Mid 2 3 := fun _ _ => by kernel_rfl
theorem mid_3_0 : Mid 3 0 := fun _ _ => by kernel_rfl
theorem mid_3_1 : Mid 3 1 := fun _ _ => by kernel_rfl
theorem mid_3_2 : Mid 3 2 := fun _ _ => by kernel_rfl
theorem mid_3_3 : Mid 3 3 := fun _ _ => by kernel_rfl
theorem mid_3_4 : Mid 3 4 := fun _ _ => by kernel_rfl
theorem mid_3_5 : Mid 3 5 := fun _ _ => by kernel_rfl
theorem mid_4_0 : Mid 4 0 := fun _ _ => by kernel_rfl
theorem mid_4_1 : Mid 4 1 := fun _ _ => by kernel_rfl
theorem mid_4_2 : Mid 4 2 := fun _ _ => by kernel_rfl
theorem mid_4_3 : Mid 4 3 := fun _ _ => by kernel_rfl
theorem mid_4_4 : Mid 4 4 := fun _ _ => by kernel_rfl
theorem mid_4_5 : Mid 4 5 := fun _ _ => by kernel_rfl
theorem mid_4_6 : Mid 4 6 := fun _ _ => by kernel_rfl
theorem mid_4_7 : Mid 4 7 := fun _ _ => by kernel_rfl
theorem mid_5_0 : Mid 5 0 := fun _ _ => by kernel_rfl
theorem mid_5_1 : Mid 5 1 := fun _ _ => by kernel_rfl
theorem mid_5_2 : Mid 5 2 := fun _ _ => by kernel_rfl
theorem mid_5_3 : Mid 5 3 := fun _ _ => by kernel_rfl
theorem mid_5_4 : Mid 5 4 := fun _ _ => by kernel_rfl
theorem mid_5_5 : Mid 5 5 := fun _ _ => by kernel_rfl
theorem mid_5_6 : Mid 5 6 := fun _ _ => by kernel_rfl
theorem mid_5_7 : Mid 5 7 := fun _ _ => by kernel_rfl
theorem mid_5_8 : Mid 5 8 := fun _ _ => by kernel_rfl
theorem mid_5_9 : Mid 5 9 := fun _ _ => by kernel_rfl
theorem mid_6_0 : Mid 6 0 := fun _ _ => by kernel_rfl
theorem mid_6_1 : Mid 6 1 := fun _ _ => by kernel_rfl
theorem mid_6_2 : Mid 6 2 := fun _ _ => by kernel_rfl
theorem mid_6_3 : Mid 6 3 := fun _ _ => by kernel_rfl
theorem mid_6_4 : Mid 6 4 := fun _ _ => by kernel_rfl
theorem mid_6_5 : Mid 6 5 := fun _ _ => by kernel_rfl
theorem mid_6_6 : Mid 6 6 := fun _ _ => by kernel_rfl
theorem mid_6_7 : Mid 6 7 := fun _ _ => by kernel_rfl
theorem mid_6_8 : Mid 6 8 := fun _ _ => by kernel_rfl
theorem mid_6_9 : Mid 6 9 := fun _ _ => by kernel_rfl
theorem mid_6_10 : Mid 6 10 := fun _ _ => by kernel_rfl
theorem mid_6_11 : Mid 6 11 := fun _ _ => by kernel_rfl
theorem mid_7_0 : Mid 7 0 := fun _ _ => by kernel_rfl
theorem mid_7_1 : Mid 7 1 := fun _ _ => by kernel_rfl
theorem mid_7_2 : Mid 7 2 := fun _ _ => by kernel_rfl
theorem mid_7_3 : Mid 7 3 := fun _ _ => by kernel_rfl
theorem mid_7_4 : Mid 7 4 := fun _ _ => by kernel_rfl
theorem mid_7_5 : Mid 7 5 := fun _ _ => by kernel_rfl
theorem mid_7_6 : Mid 7 6 := fun _ _ => by kernel_rfl
theorem mid_7_7 : Mid 7 7 := fun _ _ => by kernel_rfl
theorem mid_7_8 : Mid 7 8 := fun _ _ => by kernel_rfl
theorem mid_7_9 : Mid 7 9 := fun _ _ => by kernel_rfl
theorem mid_7_10 : Mid 7 10 := fun _ _ => by kernel_rfl
theorem mid_7_11 : Mid 7 11 := fun _ _ => by kernel_rfl
theorem mid_7_12 : Mid 7 12 := fun _ _ => by kernel_rfl
theorem mid_7_13 : Mid 7 13 := fun _ _ => by kernel_rfl
theorem mid_ok : ∀ n p : Nat, 2 ≤ n → n ≤ 7 → p < 2 * n → Mid n p
  | 2, 0, _, _, _ => mid_2_0
  | 2, 1, _, _, _ => mid_2_1
  | 2, 2, _, _, _ => mid_2_2
  | 2, 3, _, _, _ => mid_2_3
  | 3, 0, _, _, _ => mid_3_0
  | 3, 1, _, _, _ => mid_3_1
  | 3, 2, _, _, _ => mid_3_2
  | 3, 3, _, _, _ => mid_3_3
  | 3, 4, _, _, _ => mid_3_4
  | 3, 5, _, _, _ => mid_3_5
  | 4, 0, _, _, _ => mid_4_0
  | 4, 1, _, _, _ => mid_4_1
  | 4, 2, _, _, _ => mid_4_2
  | 4, 3, _, _, _ => mid_4_3
  | 4, 4, _, _, _ => mid_4_4
  | 4, 5, _, _, _ => mid_4_5
  | 4, 6, _, _, _ => mid_4_6
  | 4, 7, _, _, _ => mid_4_7
  | 5, 0, _, _, _ => mid_5_0
  | 5, 1, _, _, _ => mid_5_1
  | 5, 2, _, _, _ => mid_5_2
  | 5, 3, _, _, _ => mid_5_3
  | 5, 4, _, _, _ => mid_5_4
  | 5, 5, _, _, _ => mid_5_5
  | 5, 6, _, _, _ => mid_5_6
  | 5, 7, _, _, _ => mid_5_7
  | 5, 8, _, _, _ => mid_5_8
  | 5, 9, _, _, _ => mid_5_9
  | 6, 0, _, _, _ => mid_6_0
  | 6, 1, _, _, _ => mid_6_1
  | 6, 2, _, _, _ => mid_6_2
  | 6, 3, _, _, _ => mid_6_3
  | 6, 4, _, _, _ => mid_6_4
  | 6, 5, _, _, _ => mid_6_5
  | 6, 6, _, _, _ => mid_6_6
  | 6, 7, _, _, _ => mid_6_7
  | 6, 8, _, _, _ => mid_6_8
  | 6, 9, _, _, _ => mid_6_9
  | 6, 10, _, _, _ => mid_6_10
  | 6, 11, _, _, _ => mid_6_11
  | 7, 0, _, _, _ => mid_7_0
  | 7, 1, _, _, _ => mid_7_1
  | 7, 2, _, _, _ => mid_7_2
  | 7, 3, _, _, _ => mid_7_3
  | 7, 4, _, _, _ => mid_7_4
  | 7, 5, _, _, _ => mid_7_5
  | 7, 6, _, _, _ => mid_7_6
  | 7, 7, _, _, _ => mid_7_7
  | 7, 8, _, _, _ => mid_7_8
  | 7, 9, _, _, _ => mid_7_9
  | 7, 10, _, _, _ => mid_7_10
  | 7, 11, _, _, _ => mid_7_11
  | 7, 12, _, _, _ => mid_7_12
  | 7, 13, _, _, _ => mid_7_13
  | 0, _, h, _, _ => absurd h (by decide)
  | 1, _, h, _, _ => absurd h (by decide)
  | 2, p + 4, _, _, h => absurd h (by omega)
  | 3, p + 6, _, _, h => absurd h (by omega)
  | 4, p + 8, _, _, h => absurd h (by omega)
  | 5, p + 10, _, _, h => absurd h (by omega)
  | 6, p + 12, _, _, h => absurd h (by omega)
  | 7, p + 14, _, _, h => absurd h (by omega)
  | n + 8, _, _, h, _ => absurd h (by omega)
theorem levs_ok (l : List Int) : ∀ n : Nat, 2 ≤ n → n ≤ 7 → ∃ io : D, m__law_other_levels [intL l, .int n] = .ok (.bl true) (some io)
  | 2, _, _ => lev_ok lev_2_0 lev_2_1 lev_2_2 lev_2_3 l
  | 3, _, _ => lev_ok lev_3_0 lev_3_1 lev_3_3 lev_3_4 l
  | 4, _, _ => lev_ok lev_4_0 lev_4_1 lev_4_4 lev_4_5 l
  | 5, _, _ => lev_ok lev_5_0 lev_5_1 lev_5_5 lev_5_6 l
  | 6, _, _ => lev_ok lev_6_0 lev_6_1 lev_6_6 lev_6_7 l
  | 7, _, _ => lev_ok lev_7_0 lev_7_1 lev_7_7 lev_7_8 l
  | 0, h, _ => absurd h (by decide)
  | 1, h, _ => absurd h (by decide)
  | n + 8, _, h => absurd h (by omega)
def LotsN (n : Nat) : Prop := m__law_lots [.int n, .int ((n : Int) - 1)] = .ok (lots n (n - 1)) none
theorem lots_2 : LotsN 2 := by unfold LotsN; kernel_rfl
theorem lots_3 : LotsN 3 := by unfold LotsN; kernel_rfl
theorem lots_4 : LotsN 4 := by unfold LotsN; kernel_rfl
theorem lots_5 : LotsN 5 := by unfold LotsN; kernel_rfl
theorem lots_6 : LotsN 6 := by unfold LotsN; kernel_rfl
theorem lots_7 : LotsN 7 := by unfold LotsN; kernel_rfl
theorem lots_ok : ∀ n : Nat, 2 ≤ n → n ≤ 7 → LotsN n
  | 2, _, _ => lots_2
  | 3, _, _ => lots_3
  | 4, _, _ => lots_4
  | 5, _, _ => lots_5
  | 6, _, _ => lots_6
  | 7, _, _ => lots_7
  | 0, h, _ => absurd h (by decide)
  | 1, h, _ => absurd h (by decide)
  | n + 8, _, h => absurd h (by omega)
end KX

set_option Elab.async false
set_option linter.all false
set_option maxRecDepth 100000
set_option maxHeartbeats 0
namespace KX
open DL
theorem laM_eq : laM = sSeq lb1 (sSeq lb2 (sSeq lb3 (sSeq lb4 (sSeq lb5 (sSeq lb6 lb7))))) := rfl
theorem law_eq : b_law = sSeq la1 (sSeq la2 (sSeq la3 (sSeq la4 (sSeq laM laE)))) := by
  rw [laM_eq, sSeq_assoc, sSeq_assoc, sSeq_assoc, sSeq_assoc, sSeq_assoc, sSeq_assoc]
  rfl
theorem op2_of {g : D → D → Option D} {f f' : M D} {d d' z : D} {env e e' : En} (h : f env = .ok d e) (h2 : f' e = .ok d' e') (hg : g d d' = some z) : op2 g f f' env = .ok z e' := by
  unfold op2
  rw [h]
  show (f' e).bind _ = _
  rw [h2]
  show M.of (g d d') e' = _
  rw [hg]
  rfl
theorem sRet_of {f : M D} {env e : En} {d : D} (h : f env = .ok d e) : sRet f env = .ok (.rt d) e := by
  unfold sRet
  rw [h]
  rfl
theorem law_run (s : D) (l : List Int) (io : Option D) (h : m__law_draws [s] = .ok (intL l) io) : Does (b_law [some s, none, none, none, none, none, none]) fun fl e => ∃ d, fl = .rt d ∧ d = .bl true := by
  rw [law_eq]
  have t1 := take_ok l 6 (by decide)
  have t1s := Classical.choose_spec t1
  generalize Classical.choose t1 = j at t1s
  have t2s := Classical.choose_spec t1s
  generalize Classical.choose t1s = l1 at t2s
  have hj := t2s.1
  have j0 := t2s.2.1
  have j6 := t2s.2.2
  clear t1s t2s t1
  have hn : ∃ n : Nat, (n : Int) = 2 + j := ⟨(2 + j).toNat, by omega⟩
  have hns := Classical.choose_spec hn
  generalize Classical.choose hn = n at hns
  clear hn
  have n2 : 2 ≤ n := by omega
  have n7 : n ≤ 7 := by omega
  have u1 := take_ok l1 (2 * (n : Int)) (by omega)
  have u1s := Classical.choose_spec u1
  generalize Classical.choose u1 = q at u1s
  have u2s := Classical.choose_spec u1s
  generalize Classical.choose u1s = l2 at u2s
  have hq := u2s.1
  have q0 := u2s.2.1
  have q6 := u2s.2.2
  clear u1s u2s u1
  have hp : ∃ p : Nat, (p : Int) = q := ⟨q.toNat, by omega⟩
  have hps := Classical.choose_spec hp
  generalize Classical.choose hp = p at hps
  clear hp
  have p2 : p < 2 * n := by omega
  subst hps
  have lo := lots_ok n n2 n7
  have mi := mid_ok n p n2 n7 p2 (some s) (some (intL l2))
  have le := levs_ok l2 n n2 n7
  have les := Classical.choose_spec le
  generalize Classical.choose le = lio at les
  clear le
  have a1 : la1 [some s, none, none, none, none, none, none] = .ok .nx [some s, some (intL l), none, none, none, none, none] := by
    have q : cCall 1 m__law_draws (aCons (vVar 0) aNil) [some s, none, none, none, none, none, none] = .ok (intL l) [some s, none, none, none, none, none, none] := cCall_of (ds := [s]) rfl rfl h
    have q2 := sSet_of (i := 1) q
    exact q2
  have a2 : la2 [some s, some (intL l), none, none, none, none, none] = .ok .nx [some s, some (intL l1), some (.int n), none, none, none, none] := by
    have q : cCallIo 2 1 m__law_take (aCons (vC (.int 6)) aNil) [some s, some (intL l), none, none, none, none, none] = .ok (.int j) [some s, some (intL l1), none, none, none, none, none] := cCallIo_of (ds := [.int 6]) (d1 := intL l) rfl rfl rfl rfl hj
    have q1 : op2 addD (vC (.int 2)) (cCallIo 2 1 m__law_take (aCons (vC (.int 6)) aNil)) [some s, some (intL l), none, none, none, none, none] = .ok (.int (2 + j)) [some s, some (intL l1), none, none, none, none, none] := op2_of rfl q rfl
    rw [← hns] at q1
    have q2 := sSet_of (i := 2) q1
    exact q2
  have a3 : la3 [some s, some (intL l1), some (.int n), none, none, none, none] = .ok .nx [some s, some (intL l1), some (.int n), some (lots n (n - 1)), none, none, none] := by
    have q : cCall 2 m__law_lots (aCons (vVar 2) (aCons (op2 subD (vVar 2) (vC (.int 1))) aNil)) [some s, some (intL l1), some (.int n), none, none, none, none] = .ok (lots n (n - 1)) [some s, some (intL l1), some (.int n), none, none, none, none] := cCall_of (ds := [.int n, .int ((n : Int) - 1)]) rfl rfl lo
    have q2 := sSet_of (i := 3) q
    exact q2
  have a4 : la4 [some s, some (intL l1), some (.int n), some (lots n (n - 1)), none, none, none] = .ok .nx [some s, some (intL l2), some (.int n), some (lots n (n - 1)), some (.int p), none, none] := by
    generalize lots n (n - 1) = Z
    have q0 : aCons (op2 mulI (vC (.int 2)) (vVar 2)) aNil [some s, some (intL l1), some (.int n), some Z, none, none, none] = .ok [.int (2 * (n : Int))] [some s, some (intL l1), some (.int n), some Z, none, none, none] := aCons_of (op2_of rfl rfl (mul_l (by decide))) rfl
    have q : cCallIo 2 1 m__law_take (aCons (op2 mulI (vC (.int 2)) (vVar 2)) aNil) [some s, some (intL l1), some (.int n), some Z, none, none, none] = .ok (.int p) [some s, some (intL l2), some (.int n), some Z, none, none, none] := cCallIo_of (ds := [.int (2 * (n : Int))]) (d1 := intL l1) rfl q0 rfl rfl hq
    have q2 := sSet_of (i := 4) q
    exact q2
  have a6 : laE [some s, some (intL l2), some (.int n), some (lots n (n - 1)), some (.int p), ml n p 5, ml n p 6] = .ok (.rt (.bl true)) [some s, some lio, some (.int n), some (lots n (n - 1)), some (.int p), ml n p 5, ml n p 6] := by
    generalize lots n (n - 1) = Z
    generalize ml n p 5 = z5
    generalize ml n p 6 = z6
    have q : cCallIo 2 1 m__law_other_levels (aCons (vVar 2) aNil) [some s, some (intL l2), some (.int n), some Z, some (.int p), z5, z6] = .ok (.bl true) [some s, some lio, some (.int n), some Z, some (.int p), z5, z6] :=
      cCallIo_of (j := 1) (e := [some s, some (intL l2), some (.int n), some Z, some (.int p), z5, z6]) (ds := [.int n]) (d0 := intL l2) (d1 := intL l2) rfl (aCons_of (vVar_of rfl) rfl) rfl rfl les
    have q2 := sRet_of q
    exact q2
  exact Does.seq a1 (Does.seq a2 (Does.seq a3 (Does.seq a4 (Does.seq mi (Does.of a6 ⟨_, rfl, rfl⟩)))))
/-- the law's mirror answers True at every script -/
theorem law_ok (ns : List Int) (h : ns.length ≤ 63) : ∃ io, m_law [.scr ns] = .ok (.bl true) io := by
  obtain ⟨l, io, h1⟩ := draws_ok ns h
  obtain ⟨d, e, h2, h3⟩ := wp_run (n := 7) (io := none) (fr := false) (body := b_law) (ds := [.scr ns]) (Q := fun d e => d = .bl true) (law_run (.scr ns) l io h1).ok
  subst h3
  exact ⟨_, h2⟩
end KX

set_option Elab.async false
set_option linter.all false
set_option maxRecDepth 100000
set_option maxHeartbeats 0
namespace KX
open PySem PySem.Spec PyProof.Rows L2 DL
theorem ga_of {K : PySem.W.Frag} {h : Heap} {mg : Str → Option Value} {x y : Str} {a : Addr} (X : K.In h) (G : h.Ns mainGlobals mg) (h0 : PySem.W.nsIn K mainGlobals y = some none) (h1 : mg x = some (.ref a)) : He.ga K x = a := by
  have key : ∃ r, PySem.W.nsIn K mainGlobals x = some r := by
    unfold PySem.W.nsIn at h0 ⊢
    cases e : K.lookup mainGlobals with
    | none =>
      rw [e] at h0
      cases h0
    | some o =>
      obtain ⟨oc, od, dt, osl⟩ := o
      rw [e] at h0
      cases dt with
      | dict es n =>
        simp only at h0 ⊢
        split at h0
        · cases h0
        · split at h0
          · cases h0
          · rename_i hne
            split
            · exact ⟨_, rfl⟩
            · rw [if_neg hne]
              exact ⟨_, rfl⟩
      | _ => cases h0
  obtain ⟨r, hr⟩ := key
  cases r with
  | none =>
    have e := PySem.W.mg_none_of X G hr
    rw [h1] at e
    cases e
  | some u =>
    have e := PySem.W.mg_of X G hr
    rw [h1] at e
    cases e
    unfold He.ga
    rw [hr]
theorem facts {w : World} {K : PySem.W.Frag} {h : Heap} {mg : Str → Option Value} {f : Addr} (X : K.In h) (G : h.Ns mainGlobals mg) (hfa : mg "law" = some (.ref f)) (t : Told fxs fns K) :
    ∃ (fd : FuncData) (sp : Sp), (∀ (s : Shared) (v : Value), BindsTo s fd ⟨[v], []⟩ [("_law_script", v)]) ∧ (∀ (H : Hp) (a : Addr) (ns : List Int), ns.length ≤ 63 → SqL K H a (ns.map V.int) → sp [.ref a] H (fun v _ => v = .bl true) fun _ _ _ => False) ∧
      ∀ base : Heap, FnOk PySem.Challenge.pw_packetmarks_k06_ring_of_almost_all_thing w K mg base L2.CX0 13 f fd ["_law_script"] sp := by
  have c : Cz PySem.Challenge.pw_packetmarks_k06_ring_of_almost_all_thing w K mg := ⟨t, ⟨h, X, G⟩, rfl⟩
  obtain ⟨fd, F⟩ := Df.fun_ (c.told.df 42 (d := d_law) rfl) rfl
  have e : He.ga K "law" = f := ga_of (y := "len") X G (He.eqO_ok (c.told.fact 0 (f := fHe (.free "len")) rfl)) hfa
  have F' : FunD K d_law.name d_law.qual d_law.params d_law.body d_law.scope (d_law.dfl.map (He.Dv.v K)) [] (He.ga K "law") fd := F
  subst e
  exact ⟨fd, fun vs H Q _ => SpD ⟨K, PySem.Challenge.pw_packetmarks_k06_ring_of_almost_all_thing, w, []⟩ 1 none false m_law vs H Q fun _ _ _ => False, fun s v => FunD.bindsA (ps := ["_law_script"]) F' (fun _ _ _ _ _ _ us hl => match us, hl with | [_], _ => rfl) s [v] rfl, fun H a ns hl hS => scr_sp (n := 63) law_ok hl hS, fun base => fnOk_quiet (ok_law F' c)⟩
end KX
open PySem PySem.W PySem.Calls PyProof.Rows
theorem PySem.Challenge.cw_packetmarks_k06_ring_of_almost_all_thing_holds : PySem.Challenge.rw_packetmarks_k06_ring_of_almost_all_thing.Holds := by
  w_on; o_law
  refine HandSHeadRun.head_imp (r := OpenLaw.row PySem.Challenge.rw_packetmarks_k06_ring_of_almost_all_thing) (q := view (OpenLaw.row PySem.Challenge.rw_packetmarks_k06_ring_of_almost_all_thing).prog [0, 45]) (H := KX.hk) (ob := KX.ob) (M := 8000) (loose := KX.tops) (d := HandSHeadRun.topDef (OpenLaw.row PySem.Challenge.rw_packetmarks_k06_ring_of_almost_all_thing).prog 45) (kwd := []) KX.ob_eq KX.run
    (by kernel_rfl) (by kernel_rfl) (by kernel_rfl) (by rfl) (by first | assumption | decide +kernel) (by decide +kernel) ⟨rfl, rfl, rfl, rfl, rfl, by decide +kernel⟩ ?hw ?hc
  case hw => w_witness2
  case hc =>
    refine L2.walk_ofE (l := PySem.Challenge.rw_packetmarks_k06_ring_of_almost_all_thing) (n := 63) (k := 13) (x := "_law_script") (CX := L2.CX0) rfl (by decide) (by kernel_rfl) ⟨rfl, by decide, by decide⟩ ?F (fun _ _ _ _ z => z)
    intro w mg fa h Y G hmg0
    obtain ⟨K, X, c⟩ := Y
    have hmg : mg ("law" : PySem.Str) = some (.ref fa) := by
      have e : (HandSHeadRun.topDef (OpenLaw.row PySem.Challenge.rw_packetmarks_k06_ring_of_almost_all_thing).prog 45).name = ("law" : PySem.Str) := by kernel_rfl
      rw [← e]
      exact hmg0
    obtain ⟨fd, sp, hb, hs, hF⟩ := KX.facts (w := w) X G hmg c
    exact ⟨K, fd, sp, X, hb, fun H a ns hl _ hS => hs H a ns hl hS, fun base _ _ => hF base⟩

