import PyProof.Rows.All
import Wide.All
import OpenK.AllK
import Wide.FinOn
import HandS.ForExc
import HandS.Comp
import HandS.Deep
import HandS.TupAny
import HandS.TupSets
import HandS.IsInst
import HandS.HeadHook2
import HandS.Style
import PyProof.P3In
import HandS.CallSlots
import HandS.WordsExc
import HandS.Iter
import HandS.More
import HandS.Defaults
import HandS.Ends
import HandS.ExcField
import KE.KFromBytes
import HandS.TryMany
import HandS.SortInts
import HandS.TupLe
import HandS.Nested
import HandS.ClsMeth
import KE.KSuper
import HandS.HeadHook1
import HandS.HeadHook3
import HandS.Conv
import HandS.Words
import KE.DataFind
import HandS.SetFor
import HandS.Dict
import HandS.WordsDict
import PySem.Challenge.RW_packetmarks_k03_things_left_out
import KE.KStateDown
import Lean
import HandS.Head0
import HandS.Head1
import HandS.Head2
import HandS.Head3
import HandS.HeadEnd
set_option Elab.async false
set_option linter.all false
set_option maxRecDepth 100000
set_option maxHeartbeats 4000000
/-! The data layer, part A: Python values as trees of data, what it is that an abstract heap bears such a tree, states, judgements. -/
namespace DL
open PySem PySem.Spec L2

/-! ### names: classes, attributes, short texts, by numbers -/
def nmT : List String := ["", "\n", " ", "-", "0", "1", "3", "9", "a", "x", "\n ", "\n-", "  ", " 0", ": ", ">2", "\n0 ", "Cut", "Way", "all", "bad", "cut", "has", "lot", "not", "put", "row", "set", "top", "way", " 9 0", "Case", "Desk", "Told", "Turn", "WORD", "back", "base", "case", "desk", "ends", "flat", "flip", "full", "good", "head", "line", "lots", "made", "many", "name", "none", "sets", "size", "span", "spin", "swap", "tell", "turn", "undo", "word", "Board", "Marks", "Order", "Trial", "_back", "_bits", "_deep", "_done", "_past", "_sets", "agree", "apart", "clash", "clear", "count", "depth", "empty", "error", "first", "fits ", "flips", "leave", "level", "limit", "loads", "marks", "other", "place", "shape", "thing", "times", "total", "unfit", "weigh", "words", "BadLot", "BadRow", "BadSet", "Broken", "Family", "Marks ", "NoDeed", "NotWay", "_links", "_loads", "_pairs", "_times", "_words", "and_in", "before", "behind", "bottom", "breaks", "broken", "change", "deeds ", "family", "inside", "is_had", "length", "levels", "marked", "number", "of_row", "on_set", "places", "put_in", "second", "things", "unlike", "untell", "BadLots", "BadSets", "BadText", "Heights", "NotFlip", "NotFull", "NotSwap", "TooMany", "_family", "_number", "and_out", "between", "deeds 0", "deeds 4", "fitting", "flipped", "heights", "outside", "packets", "reweigh", "station", "unclear", "weights", "without", " 0: none", "BadTimes", "Clashing", "NotAgree", "NotApart", "NotClear", "_numbers", "_weights", "ahead_of", "back_row", "backward", "contrary", "families", "fits 0 1", "fits 1 1", "pairs_in", "place_of", "unmarked", "unsteady", "worth_of", "BadNumber", "BadPlaces", "NotSteady", "__slots__", "_contrary", "family_at", "from_sets", "next_free", "pairs_out", "0123456789", "BadHeights", "BadWeights", "NotFitting", "NotStation", "OtherShape", "ToldTurned", "difference", "family 0 1", "family 2 0", "NotTogether", "OtherFamily", "differences", "next_forced", "with_height", "PacketsError"]
def nm (i : Nat) : Str := match nmT[i]? with
  | some s => Str.ofString s
  | none => ⟨#[i + 5000000]⟩
abbrev nms (l : List Nat) : List Str := l.map nm
def numS (s : Str) : Nat := s.cps.toList.foldl (fun a c => a * 128 + c) 1
def incr : List Nat → Bool
  | a :: b :: r => Nat.blt a b && incr (b :: r)
  | _ => true
theorem incr_lt : ∀ {l : List Nat} {i j x y : Nat}, incr l = true → i < j → l[i]? = some x → l[j]? = some y → x < y
  | [], _, _, _, _, _, _, e, _ => by simp at e
  | [a], i, j, _, _, _, h, e, f => by
    cases j with
    | zero => omega
    | succ j => simp at f
  | a :: b :: r, i, j, x, y, c, h, e, f => by
    obtain ⟨c1, c2⟩ := Bool.and_eq_true_iff.mp c
    have ab : a < b := Nat.le_of_ble_eq_true c1
    cases j with
    | zero => omega
    | succ j =>
      have f' : (b :: r)[j]? = some y := by simpa using f
      cases i with
      | zero =>
        have ea : a = x := by simpa using e
        cases j with
        | zero =>
          have eb : b = y := by simpa using f'
          omega
        | succ j =>
          have := incr_lt (i := 0) (j := j + 1) (x := b) (y := y) c2 (by omega) (by simp) f'
          omega
      | succ i => exact incr_lt (i := i) (j := j) c2 (by omega) (by simpa using e) f'
theorem nm_chk : (incr (nmT.map fun s => numS (Str.ofString s)) && nmT.all fun s => (Str.ofString s).cps.toList.all fun c => Nat.blt c 128) = true := by decide +kernel
theorem nm_out {i : Nat} {s : String} (hs : s ∈ nmT) (h : Str.ofString s = ⟨#[i + 5000000]⟩) : False := by
  have c := List.all_eq_true.mp (Bool.and_eq_true_iff.mp nm_chk).2 s hs
  rw [h] at c
  have c2 : (Nat.blt (i + 5000000) 128 && true) = true := c
  have c3 : i + 5000000 < 128 := Nat.le_of_ble_eq_true (Bool.and_eq_true_iff.mp c2).1
  omega
theorem nm_inj {i j : Nat} (h : nm i = nm j) : i = j := by
  unfold nm at h
  cases e : nmT[i]? with
  | none =>
    rw [e] at h
    cases f : nmT[j]? with
    | none =>
      rw [f] at h
      have h1 : #[i + 5000000] = #[j + 5000000] := congrArg Str.cps h
      have h2 : [i + 5000000] = [j + 5000000] := congrArg Array.toList h1
      have h3 : i + 5000000 = j + 5000000 := List.head_eq_of_cons_eq h2
      omega
    | some t =>
      rw [f] at h
      exact (nm_out (List.mem_of_getElem? f) h.symm).elim
  | some s =>
    rw [e] at h
    cases f : nmT[j]? with
    | none =>
      rw [f] at h
      exact (nm_out (List.mem_of_getElem? e) h).elim
    | some t =>
      rw [f] at h
      have h' : Str.ofString s = Str.ofString t := h
      have c := (Bool.and_eq_true_iff.mp nm_chk).1
      have ei : (nmT.map fun s => numS (Str.ofString s))[i]? = some (numS (Str.ofString s)) := by rw [List.getElem?_map, e]; rfl
      have ej : (nmT.map fun s => numS (Str.ofString s))[j]? = some (numS (Str.ofString t)) := by rw [List.getElem?_map, f]; rfl
      rw [← h'] at ej
      by_cases h1 : i < j
      · have := incr_lt c h1 ei ej
        omega
      · by_cases h2 : j < i
        · have := incr_lt c h2 ej ei
          omega
        · omega
theorem nm_beq (i j : Nat) : (nm i == nm j) = (i == j) := by
  by_cases e : i = j
  · rw [e, beq_self_eq_true, beq_self_eq_true]
  · have h1 : (i == j) = false := beq_eq_false_iff_ne.mpr e
    have h2 : (nm i == nm j) = false := beq_eq_false_iff_ne.mpr fun z => e (nm_inj z)
    rw [h1, h2]

/-- data: none, bools, ints, texts, tuples, lists, instances, sets of tuples of ints, classes, the script -/
inductive D where
  | non | bl (b : Bool) | int (i : Int) | str (x : Nat)
  | tup (l : List D) | lst (l : List D)
  | obj (c : Nat) (ns : List Nat) (ds : List D)
  | set (l : List (List Int))
  | cls (c : Nat)
  | scr (l : List Int)
  | xc (c : Nat) (ns : List Nat) (ds : List D)
  | dic (t : Bool) (ks : List (List Int)) (ds : List D)
  deriving Inhabited

structure Tx where
  K : PySem.W.Frag
  P : Program
  w : World
  pn : List (Addr × Obj)
abbrev tx (X : Cx) : Tx := ⟨X.K, X.prog, X.w, match X.calm with | true => [] | false => X.pn.take 1⟩

def TupAt (K : PySem.W.Frag) (B : Addr → Prop) (H : Hp) (a : Addr) (xs : List V) : Prop :=
  (H a = some (.tup xs) ∧ ¬ B a) ∨
    ∃ (o : Obj) (its : Array Value) (n : Nat), K.lookup a = some o ∧ o.cls = .type "tuple" ∧ o.data = .seq its n ∧ its.size ≤ sizeLine ∧ Vals xs its.toList
theorem TupAt.sq {K : PySem.W.Frag} {B : Addr → Prop} {H : Hp} {a : Addr} {xs : List V} (h : TupAt K B H a xs) : SqT K H a xs := by
  rcases h with ⟨h, _⟩ | h
  · exact .inl (.inl h)
  · exact .inr h

/-- a list that is only read: frozen, or the module's -/
def ScrAt (K : PySem.W.Frag) (B : Addr → Prop) (H : Hp) (a : Addr) (xs : List V) : Prop :=
  (Rd H a (.lst xs) ∧ ¬ B a) ∨
    ∃ (o : Obj) (its : Array Value) (n : Nat), K.lookup a = some o ∧ o.cls = .type "list" ∧ o.dict = none ∧ o.data = .seq its n ∧ its.size ≤ sizeLine ∧ Vals xs its.toList
theorem ScrAt.sq {K : PySem.W.Frag} {B : Addr → Prop} {H : Hp} {a : Addr} {xs : List V} (h : ScrAt K B H a xs) : SqL K H a xs := by
  rcases h with ⟨h, _⟩ | h
  · exact .inl h
  · exact .inr h

/-- a dict: its keys are ints (of one entry each), or tuples of ints -/
def keyI (k : List Int) : Key := Sum.inl (k.headD 0)
def keyT (k : List Int) : List Key := k.map Sum.inl
def dicO (t : Bool) (ks : List (List Int)) (vs : List V) : HO := match t with
  | true => .dT ((ks.map keyT).zip vs)
  | false => .dK ((ks.map keyI).zip vs)
mutual
/-- the value v stands for the datum; what is barred (B) is not in it -/
def Rel (T : Tx) (B : Addr → Prop) (H : Hp) : D → V → Prop
  | .non, v => v = .non
  | .bl b, v => v = .bl b
  | .int i, v => v = .int i
  | .str x, v => v = .str (nm x)
  | .tup l, v => ∃ a vs, v = .ref a ∧ TupAt T.K B H a vs ∧ RelL T B H l vs
  | .lst l, v => ∃ a vs, v = .ref a ∧ H a = some (.lst vs) ∧ ¬ B a ∧ RelL T B H l vs
  | .obj c ns ds, v => ∃ a dx vs, v = .ref a ∧ H a = some (.ins (He.ga T.K (nm c)) dx ((nms ns).zip vs)) ∧ ¬ B a ∧ ns.length = vs.length ∧ RelL T B H ds vs
  | .set l, v => ∃ a L, v = .ref a ∧ H a = some (SetTO T.P T.w a L) ∧ ¬ B a ∧ (∀ p ∈ L, TupAt T.K B H p.1 (p.2.map V.int)) ∧ ∀ k, k ∈ L.map (·.2) ↔ k ∈ l
  | .cls c, v => v = .ref (He.ga T.K (nm c))
  | .scr l, v => ∃ a, v = .ref a ∧ ScrAt T.K B H a (l.map V.int)
  | .dic t ks ds, v => ∃ a vs, v = .ref a ∧ H a = some (dicO t ks vs) ∧ ¬ B a ∧ ks.length = vs.length ∧ RelL T B H ds vs
  | .xc c ns ds, v => ∃ a oe dx vs, v = .ref a ∧ (a, oe) ∈ T.pn ∧ oe.cls = .ref (He.ga T.K (nm c)) ∧ oe.dict = some dx ∧ (∃ us, oe.data = .fields us) ∧ H dx = some (.xd ((nms ns).zip vs)) ∧ ¬ B dx ∧ ns.length = vs.length ∧ RelL T B H ds vs
def RelL (T : Tx) (B : Addr → Prop) (H : Hp) : List D → List V → Prop
  | [], [] => True
  | d :: ds, v :: vs => Rel T B H d v ∧ RelL T B H ds vs
  | _, _ => False
end

/-- from (B, H) to (B', H'): what is not barred stays, what is newly barred was nothing -/
structure Ext (B : Addr → Prop) (H : Hp) (B' : Addr → Prop) (H' : Hp) : Prop where
  keep : ∀ a o, H a = some o → ¬ B a → H' a = some o
  new : ∀ a, B' a → B a ∨ H a = none

theorem Ext.bar {B B' : Addr → Prop} {H H' : Hp} (e : Ext B H B' H') {a : Addr} {o : HO} (h : H a = some o) (n : ¬ B a) : ¬ B' a := fun b => by
  rcases e.new a b with c | c
  · exact n c
  · rw [h] at c; cases c
theorem Ext.trans {B B1 B2 : Addr → Prop} {H H1 H2 : Hp} (a : Ext B H B1 H1) (b : Ext B1 H1 B2 H2) (live : ∀ c o, H c = some o → ∃ o', H1 c = some o') : Ext B H B2 H2 :=
  ⟨fun c o h n => b.keep c o (a.keep c o h n) (a.bar h n), fun c h => by
    rcases b.new c h with h | h
    · exact a.new c h
    · cases e : H c with
      | none => exact .inr rfl
      | some o =>
        obtain ⟨o', e'⟩ := live c o e
        rw [h] at e'; cases e'⟩

theorem TupAt.ext {K : PySem.W.Frag} {B B' : Addr → Prop} {H H' : Hp} {a : Addr} {xs : List V} (e : Ext B H B' H') (h : TupAt K B H a xs) : TupAt K B' H' a xs := by
  rcases h with ⟨h, n⟩ | h
  · exact .inl ⟨e.keep _ _ h n, e.bar h n⟩
  · exact .inr h
theorem ScrAt.ext {K : PySem.W.Frag} {B B' : Addr → Prop} {H H' : Hp} {a : Addr} {xs : List V} (e : Ext B H B' H') (h : ScrAt K B H a xs) : ScrAt K B' H' a xs := by
  rcases h with ⟨h | ⟨o, h⟩, n⟩ | h
  · exact .inl ⟨.inl (e.keep _ _ h n), e.bar h n⟩
  · exact .inl ⟨.inr ⟨o, e.keep _ _ h n⟩, e.bar h n⟩
  · exact .inr h
mutual
theorem Rel.ext {T : Tx} {B B' : Addr → Prop} {H H' : Hp} (e : Ext B H B' H') : ∀ (d : D) {v : V}, Rel T B H d v → Rel T B' H' d v
  | .non, _, h => h
  | .bl _, _, h => h
  | .int _, _, h => h
  | .str _, _, h => h
  | .tup l, _, h => by
    obtain ⟨a, vs, e1, e2, e3⟩ := h
    exact ⟨a, vs, e1, e2.ext e, RelL.ext e l e3⟩
  | .lst l, _, h => by
    obtain ⟨a, vs, e1, e2, e3, e4⟩ := h
    exact ⟨a, vs, e1, e.keep _ _ e2 e3, e.bar e2 e3, RelL.ext e l e4⟩
  | .obj c ns ds, _, h => by
    obtain ⟨a, dx, vs, e1, e2, e3, e4, e5⟩ := h
    exact ⟨a, dx, vs, e1, e.keep _ _ e2 e3, e.bar e2 e3, e4, RelL.ext e ds e5⟩
  | .set l, _, h => by
    obtain ⟨a, L, e1, e2, e3, e4, e5⟩ := h
    exact ⟨a, L, e1, e.keep _ _ e2 e3, e.bar e2 e3, fun p hp => (e4 p hp).ext e, e5⟩
  | .cls _, _, h => h
  | .scr l, _, h => by
    obtain ⟨a, e1, e2⟩ := h
    exact ⟨a, e1, e2.ext e⟩
  | .dic t ks ds, _, h => by
    obtain ⟨a, vs, e1, e2, e3, e4, e5⟩ := h
    exact ⟨a, vs, e1, e.keep _ _ e2 e3, e.bar e2 e3, e4, RelL.ext e ds e5⟩
  | .xc c ns ds, _, h => by
    obtain ⟨a, oe, dx, vs, e1, e2, e3, e4, e5, e6, e7, e8, e9⟩ := h
    exact ⟨a, oe, dx, vs, e1, e2, e3, e4, e5, e.keep _ _ e6 e7, e.bar e6 e7, e8, RelL.ext e ds e9⟩
theorem RelL.ext {T : Tx} {B B' : Addr → Prop} {H H' : Hp} (e : Ext B H B' H') : ∀ (ds : List D) {vs : List V}, RelL T B H ds vs → RelL T B' H' ds vs
  | [], [], _ => trivial
  | [], _ :: _, h => h.elim
  | _ :: _, [], h => h.elim
  | d :: ds, v :: vs, h => ⟨Rel.ext e d h.1, RelL.ext e ds h.2⟩
end

theorem RelL.length {T : Tx} {B : Addr → Prop} {H : Hp} : ∀ {ds : List D} {vs : List V}, RelL T B H ds vs → ds.length = vs.length
  | [], [], _ => rfl
  | [], _ :: _, h => h.elim
  | _ :: _, [], h => h.elim
  | _ :: _, _ :: _, h => congrArg Nat.succ (RelL.length h.2)
theorem RelL.get {T : Tx} {B : Addr → Prop} {H : Hp} : ∀ {ds : List D} {vs : List V} {i : Nat} {d : D}, RelL T B H ds vs → ds[i]? = some d → ∃ v, vs[i]? = some v ∧ Rel T B H d v
  | [], [], _, _, _, e => by simp at e
  | [], _ :: _, _, _, h, _ => h.elim
  | _ :: _, [], _, _, h, _ => h.elim
  | d :: _, v :: _, 0, x, h, e => by
    have e' : d = x := by simpa using e
    subst e'
    exact ⟨v, rfl, h.1⟩
  | _ :: _, _ :: _, i + 1, x, h, e => by
    obtain ⟨v, e1, e2⟩ := RelL.get (i := i) (d := x) h.2 (by simpa using e)
    exact ⟨v, by simpa using e1, e2⟩
theorem RelL.append {T : Tx} {B : Addr → Prop} {H : Hp} : ∀ {ds : List D} {vs : List V} {es : List D} {ws : List V}, RelL T B H ds vs → RelL T B H es ws → RelL T B H (ds ++ es) (vs ++ ws)
  | [], [], _, _, _, h => h
  | [], _ :: _, _, _, h, _ => h.elim
  | _ :: _, [], _, _, h, _ => h.elim
  | _ :: _, _ :: _, _, _, h, k => ⟨h.1, RelL.append h.2 k⟩
theorem RelL.take {T : Tx} {B : Addr → Prop} {H : Hp} : ∀ {ds : List D} {vs : List V} (n : Nat), RelL T B H ds vs → RelL T B H (ds.take n) (vs.take n)
  | _, _, 0, _ => by simp only [List.take_zero]; trivial
  | [], [], _ + 1, _ => trivial
  | [], _ :: _, _, h => h.elim
  | _ :: _, [], _, h => h.elim
  | _ :: _, _ :: _, n + 1, h => ⟨h.1, RelL.take n h.2⟩
theorem RelL.drop {T : Tx} {B : Addr → Prop} {H : Hp} : ∀ {ds : List D} {vs : List V} (n : Nat), RelL T B H ds vs → RelL T B H (ds.drop n) (vs.drop n)
  | _, _, 0, h => h
  | [], [], _ + 1, _ => trivial
  | [], _ :: _, _, h => h.elim
  | _ :: _, [], _, h => h.elim
  | _ :: _, _ :: _, n + 1, h => RelL.drop n h.2
theorem RelL.reverse {T : Tx} {B : Addr → Prop} {H : Hp} : ∀ {ds : List D} {vs : List V}, RelL T B H ds vs → RelL T B H ds.reverse vs.reverse
  | [], [], _ => trivial
  | [], _ :: _, h => h.elim
  | _ :: _, [], h => h.elim
  | _ :: _, _ :: _, h => by
    rw [List.reverse_cons, List.reverse_cons]
    exact (RelL.reverse h.2).append ⟨h.1, trivial⟩

/-! ### states -/
abbrev En := List (Option D)
/-- what a piece of code ends in -/
inductive R (α : Type) where
  | ok (a : α) (env : En) | err (c : Nat) (ns : List Nat) (ds : List D) (env : En) | stuck
abbrev M (α : Type) := En → R α
@[inline] def R.bind {α β : Type} (r : R α) (k : α → En → R β) : R β := match r with
  | .ok a env => k a env
  | .err c ns ds env => .err c ns ds env
  | .stuck => .stuck
@[inline] def M.bind {α β : Type} (m : M α) (k : α → M β) : M β := fun env => (m env).bind k
@[inline] def M.pure {α : Type} (a : α) : M α := fun env => .ok a env
@[inline] def M.of {α : Type} (o : Option α) : M α := fun env => match o with
  | some a => .ok a env
  | none => .stuck

/-- what v at a cell of ours holds -/
def Cell (T : Tx) (B W : Addr → Prop) (H : Hp) : D → V → Prop
  | .lst l, v => ∃ a vs, v = .ref a ∧ W a ∧ H a = some (.lst vs) ∧ RelL T B H l vs
  | .obj c ns ds, v => ∃ a dx vs, v = .ref a ∧ W a ∧ H a = some (.ins (He.ga T.K (nm c)) dx ((nms ns).zip vs)) ∧ ns.length = vs.length ∧ RelL T B H ds vs
  | .dic t ks ds, v => ∃ a vs, v = .ref a ∧ W a ∧ H a = some (dicO t ks vs) ∧ ks.length = vs.length ∧ RelL T B H ds vs
  | _, _ => False
/-- what is barred by others; what stands in the slots that stay (cells handed in) -/
structure Br where
  b : Addr → Prop
  fx : Nat → Option V
/-- the slots that hold our own cells; those of them that never change (handed in) -/
structure Ms where
  mu : List Nat
  io : List Nat
def Ms.contains (m : Ms) (i : Nat) : Bool := m.mu.contains i
def Bar (B : Br) (W : Addr → Prop) : Addr → Prop := fun a => B.b a ∨ W a
/-- the state bears the environment: slots in ms are our own cells (W), all others are as they are for ever -/
structure Ok (T : Tx) (ms : Ms) (B : Br) (W : Addr → Prop) (env : En) (σ : St) (H : Hp) : Prop where
  len : σ.length = env.length
  wf : ∀ a, Bar B W a → ∃ o, H a = some o
  sl : ∀ i d, ms.contains i = false → env[i]? = some (some d) → ∃ v, σ[i]? = some (some v) ∧ Rel T (Bar B W) H d v
  mu : ∀ i d, ms.contains i = true → env[i]? = some (some d) → ∃ v, σ[i]? = some (some v) ∧ Cell T (Bar B W) W H d v
  dj : ∀ i j d e a, ms.contains i = true → ms.contains j = true → i ≠ j → env[i]? = some (some d) → env[j]? = some (some e) → σ[i]? = some (some (.ref a)) → σ[j]? = some (some (.ref a)) → False
  fx : ∀ i v, B.fx i = some v → ms.io.contains i = true ∧ ms.contains i = true ∧ σ[i]? = some (some v) ∧ ∃ d, env[i]? = some (some d)
/-- a step: what is not our own stays -/
structure Nxt (W : Addr → Prop) (H : Hp) (W' : Addr → Prop) (H' : Hp) : Prop where
  keep : ∀ a o, H a = some o → ¬ W a → H' a = some o
  new : ∀ a, W' a → W a ∨ H a = none
  live : ∀ a o, H a = some o → ∃ o', H' a = some o'
theorem Nxt.ext {B : Br} {W W' : Addr → Prop} {H H' : Hp} (n : Nxt W H W' H') : Ext (Bar B W) H (Bar B W') H' :=
  ⟨fun a o h k => n.keep a o h fun w => k (.inr w), fun a b => by
    rcases b with b | b
    · exact .inl (.inl b)
    · rcases n.new a b with c | c
      · exact .inl (.inr c)
      · exact .inr c⟩
theorem Nxt.refl (W : Addr → Prop) (H : Hp) : Nxt W H W H := ⟨fun _ _ h _ => h, fun _ h => .inl h, fun _ o h => ⟨o, h⟩⟩
theorem Nxt.trans {W W1 W2 : Addr → Prop} {H H1 H2 : Hp} (a : Nxt W H W1 H1) (b : Nxt W1 H1 W2 H2) : Nxt W H W2 H2 where
  keep := fun c o h n => b.keep c o (a.keep c o h n) fun w => by
    rcases a.new c w with z | z
    · exact n z
    · rw [h] at z; cases z
  new := fun c h => by
    rcases b.new c h with h | h
    · exact a.new c h
    · cases e : H c with
      | none => exact .inr rfl
      | some o =>
        obtain ⟨o', e'⟩ := a.live c o e
        rw [h] at e'; cases e'
  live := fun c o h => by
    obtain ⟨o1, h1⟩ := a.live c o h
    exact b.live c o1 h1
theorem Nxt.same {W : Addr → Prop} {H H' : Hp} (s : Same H H') : Nxt W H W H' := ⟨fun a o h _ => s a o h, fun _ h => .inl h, fun a o h => ⟨o, s a o h⟩⟩
theorem Ext.same {B : Addr → Prop} {H H' : Hp} (s : Same H H') : Ext B H B H' := ⟨fun a o h _ => s a o h, fun _ h => .inl h⟩
theorem Same.upd {H : Hp} {p : Addr} {o : HO} (h : H p = none) : Same H (upd H p o) := fun a u e => by
  rw [upd_ne (ne_of_none e h)]
  exact e
theorem Cell.ext {T : Tx} {B B' W W' : Addr → Prop} {H H' : Hp} (e : Ext B H B' H') (k : ∀ a o, W a → H a = some o → W' a ∧ H' a = some o) : ∀ {d : D} {v : V}, Cell T B W H d v → Cell T B' W' H' d v
  | .lst l, _, h => by
    obtain ⟨a, vs, e1, e2, e3, e4⟩ := h
    obtain ⟨k1, k2⟩ := k a _ e2 e3
    exact ⟨a, vs, e1, k1, k2, RelL.ext e l e4⟩
  | .obj c ns ds, _, h => by
    obtain ⟨a, dx, vs, e1, e2, e3, e4, e5⟩ := h
    obtain ⟨k1, k2⟩ := k a _ e2 e3
    exact ⟨a, dx, vs, e1, k1, k2, e4, RelL.ext e ds e5⟩
  | .dic t ks ds, _, h => by
    obtain ⟨a, vs, e1, e2, e3, e4, e5⟩ := h
    obtain ⟨k1, k2⟩ := k a _ e2 e3
    exact ⟨a, vs, e1, k1, k2, e4, RelL.ext e ds e5⟩
  | .non, _, h => h.elim
  | .bl _, _, h => h.elim
  | .int _, _, h => h.elim
  | .str _, _, h => h.elim
  | .tup _, _, h => h.elim
  | .set _, _, h => h.elim
  | .cls _, _, h => h.elim
  | .scr _, _, h => h.elim
  | .xc _ _ _, _, h => h.elim
section
variable {T : Tx} {ms : Ms} {B : Br} {W : Addr → Prop} {env : En} {σ : St} {H H' : Hp}
/-- objects come, nothing changes -/
theorem Ok.same (k : Ok T ms B W env σ H) (s : Same H H') : Ok T ms B W env σ H' :=
  ⟨k.len, fun a b => by
      obtain ⟨o, e⟩ := k.wf a b
      exact ⟨o, s a o e⟩,
    fun i d h e => by
      obtain ⟨v, e1, e2⟩ := k.sl i d h e
      exact ⟨v, e1, Rel.ext (.same s) d e2⟩,
    fun i d h e => by
      obtain ⟨v, e1, e2⟩ := k.mu i d h e
      exact ⟨v, e1, e2.ext (.same s) fun a o w h => ⟨w, s a o h⟩⟩, k.dj, k.fx⟩
end
end DL

set_option Elab.async false
set_option linter.all false
set_option maxRecDepth 100000
set_option maxHeartbeats 4000000
namespace DL
open PySem PySem.Spec L2

/-! ### the widest readings -/
@[irreducible] def tm (X : Cx) (e : Expr) : TE := fun σ H Q => ∀ pins s, Inv X pins σ H s → wpAny (model X.prog X.w) X.A (eval e X.env) (EP X pins σ Q) X.xe s
theorem pe_tm {X : Cx} {e : Expr} : PE X e (tm X e) := ⟨fun pins s _ _ _ I h => by unfold tm at h; exact h pins s I⟩
theorem PE.tm {X : Cx} {e : Expr} {t : TE} (h : PE X e t) {σ : St} {H : Hp} {Q : VK} (q : t σ H Q) : DL.tm X e σ H Q := by unfold DL.tm; exact fun pins s I => h.run pins s σ H Q I q
@[irreducible] def tmT (X : Cx) (e : Expr) : TT := fun σ H Q => ∀ pins s, Inv X pins σ H s → wpAny (model X.prog X.w) X.A (isTrue e X.env (eval e X.env)) (TP X pins σ Q) X.xe s
theorem pt_tm {X : Cx} {e : Expr} : PT X e (tmT X e) := ⟨fun pins s _ _ _ I h => by unfold tmT at h; exact h pins s I⟩
theorem PT.tm {X : Cx} {e : Expr} {t : TT} (h : PT X e t) {σ : St} {H : Hp} {Q : Bool → Hp → Prop} (q : t σ H Q) : tmT X e σ H Q := by unfold tmT; exact fun pins s I => h.run pins s σ H Q I q
/-- the widest of a chain of and, or -/
@[irreducible] def tmW (X : Cx) (e : Expr) : TT := fun σ H Q => ∀ (whole : Sem Value) pins s, Inv X pins σ H s → wpAny (model X.prog X.w) X.A (isTrue e X.env whole) (TP X pins σ Q) X.xe s
theorem pw_tm {X : Cx} {e : Expr} : PW X e (tmW X e) := ⟨fun w pins s _ _ _ I h => by unfold tmW at h; exact h w pins s I⟩
theorem PW.tm {X : Cx} {e : Expr} {t : TT} (h : PW X e t) {σ : St} {H : Hp} {Q : Bool → Hp → Prop} (q : t σ H Q) : tmW X e σ H Q := by unfold tmW; exact fun w pins s I => h.run w pins s σ H Q I q
@[irreducible] def tmA (X : Cx) (es : List Expr) : TA := fun σ H Q => ∀ pos pins s, Inv X pins σ H s → wpAny (model X.prog X.w) X.A (spliced (backTo pos (starEach es X.env))) (AP X pins σ Q) X.xe s
theorem pa_tm {X : Cx} {es : List Expr} : PA X es (tmA X es) := ⟨fun pos pins s _ _ _ I h => by unfold tmA at h; exact h pos pins s I⟩
theorem PA.tm {X : Cx} {es : List Expr} {t : TA} (h : PA X es t) {σ : St} {H : Hp} {Q : List V → Hp → Prop} (q : t σ H Q) : tmA X es σ H Q := by unfold tmA; exact fun pos pins s I => h.run pos pins s σ H Q I q

/-! ### what is to be shown behind a result -/
/-- of a result a, its value v, at the slots, the environment, the heap ahead, what is barred, our own, the heap -/
structure Rk (T : Tx) (α β : Type) where
  r : St → En → Hp → Br → (Addr → Prop) → Hp → α → β → Prop
  mono : ∀ {σ : St} {env : En} {H0 H1 : Hp} {B : Br} {W : Addr → Prop} {H : Hp} {a : α} {v : β}, (∀ c, H1 c = none → H0 c = none) → r σ env H1 B W H a v → r σ env H0 B W H a v
def rkD (T : Tx) : Rk T D V := ⟨fun _ _ _ B W H d v => Rel T (Bar B W) H d v, fun _ h => h⟩
/-- the same, but a list may be a cell of ours: read now, kept by nobody -/
def Wk (T : Tx) (B : Addr → Prop) (H : Hp) : D → V → Prop
  | .lst l, v => ∃ a vs, v = .ref a ∧ H a = some (.lst vs) ∧ RelL T B H l vs
  | .obj c ns ds, v => ∃ a dx vs, v = .ref a ∧ H a = some (.ins (He.ga T.K (nm c)) dx ((nms ns).zip vs)) ∧ ns.length = vs.length ∧ RelL T B H ds vs
  | .dic t ks ds, v => ∃ a vs, v = .ref a ∧ H a = some (dicO t ks vs) ∧ ks.length = vs.length ∧ RelL T B H ds vs
  | d, v => Rel T B H d v
theorem Rel.wk {T : Tx} {B : Addr → Prop} {H : Hp} {d : D} {v : V} (r : Rel T B H d v) : Wk T B H d v := by
  cases d with
  | lst l =>
    obtain ⟨a, vs, e1, e2, _, e3⟩ := r
    exact ⟨a, vs, e1, e2, e3⟩
  | obj c ns ds =>
    obtain ⟨a, dx, vs, e1, e2, _, e3⟩ := r
    exact ⟨a, dx, vs, e1, e2, e3⟩
  | dic t ks ds =>
    obtain ⟨a, vs, e1, e2, _, e3⟩ := r
    exact ⟨a, vs, e1, e2, e3⟩
  | _ => exact r
def rkW (T : Tx) : Rk T D V := ⟨fun _ _ _ B W H d v => Wk T (Bar B W) H d v, fun _ h => h⟩
def rkB (T : Tx) : Rk T Bool Bool := ⟨fun _ _ _ _ _ _ a v => v = a, fun _ h => h⟩
def rkL (T : Tx) : Rk T (List D) (List V) := ⟨fun _ _ _ B W H ds vs => RelL T (Bar B W) H ds vs, fun _ h => h⟩
/-- a new list of our own -/
def Fresh (T : Tx) (ms : Ms) (σ : St) (env : En) (H0 : Hp) (B : Br) (W : Addr → Prop) (H : Hp) (d : D) (v : V) : Prop :=
  ∃ a vs l, d = .lst l ∧ v = .ref a ∧ W a ∧ H0 a = none ∧ H a = some (.lst vs) ∧ RelL T (Bar B W) H l vs ∧ ∀ i e, ms.contains i = true → env[i]? = some (some e) → σ[i]? ≠ some (some (.ref a))
def rkF (T : Tx) (ms : Ms) : Rk T D V := ⟨fun σ env H0 B W H d v => Fresh T ms σ env H0 B W H d v, fun k ⟨a, vs, l, e1, e2, e3, e4, e5⟩ => ⟨a, vs, l, e1, e2, e3, k a e4, e5⟩⟩
/-- a list of our own, not one handed in, as a def's answer -/
def rkR (T : Tx) : Rk T D V := ⟨fun _ _ _ B W H d v => ∃ a vs l, d = .lst l ∧ v = .ref a ∧ W a ∧ H a = some (.lst vs) ∧ RelL T (Bar B W) H l vs ∧ ∀ i w, B.fx i = some w → w ≠ .ref a, fun _ h => h⟩

def Po {α β : Type} (T : Tx) (Wx : WX) (ms : Ms) (B : Br) (W : Addr → Prop) (σ : St) (H : Hp) (k : Rk T α β) (r : R α) (Q : β → Hp → Prop) : Prop := match r with
  | .ok a env' => ∀ W' H' v, Nxt W H W' H' → Ok T ms B W' env' σ H' → k.r σ env' H B W' H' a v → Q v H'
  | .err c ns ds env' => ∀ W' H' dx vs, Nxt W H W' H' → Ok T ms B W' env' σ H' → H dx = none → H' dx = some (.xd ((nms ns).zip vs)) → ns.length = vs.length → RelL T (Bar B W') H' ds vs → Wx (.ref (He.ga T.K (nm c))) (some dx) σ H'
  | .stuck => False

section
variable {T : Tx} {Wx : WX} {ms : Ms} {B : Br} {W : Addr → Prop} {env : En} {σ : St} {H : Hp} {α β γ δ : Type}
theorem Nxt.back {W W' : Addr → Prop} {H H' : Hp} (n : Nxt W H W' H') (c : Addr) (h : H' c = none) : H c = none := by
  cases e : H c with
  | none => rfl
  | some o =>
    obtain ⟨o', e'⟩ := n.live c o e
    rw [h] at e'; cases e'
theorem Po.step {k : Rk T α β} {r : R α} {Q : β → Hp → Prop} {W1 : Addr → Prop} {H1 : Hp} (h : Po T Wx ms B W σ H k r Q) (n : Nxt W H W1 H1) : Po T Wx ms B W1 σ H1 k r Q := by
  cases r with
  | ok a env' => exact fun W' H' v n' o z => h W' H' v (n.trans n') o (k.mono n.back z)
  | err c ns ds env' => exact fun W' H' dx vs n' o z1 z2 z3 z4 => h W' H' dx vs (n.trans n') o (n.back _ z1) z2 z3 z4
  | stuck => exact h
theorem Po.cont {k1 : Rk T α β} {k2 : Rk T γ δ} {r : R α} {f : α → En → R γ} {Q2 : δ → Hp → Prop} {Q1 : β → Hp → Prop} (h : Po T Wx ms B W σ H k2 (r.bind f) Q2)
    (g : ∀ a env' W' H' v, Nxt W H W' H' → Ok T ms B W' env' σ H' → k1.r σ env' H B W' H' a v → Po T Wx ms B W' σ H' k2 (f a env') Q2 → Q1 v H') : Po T Wx ms B W σ H k1 r Q1 := by
  cases r with
  | ok a env' => exact fun W' H' v n o z => g a env' W' H' v n o z (Po.step (r := f a env') h n)
  | err c ns ds env' => exact h
  | stuck => exact h
/-- a result that stands already -/
theorem Po.done {k : Rk T α β} {a : α} {v : β} {Q : β → Hp → Prop} (h : Po T Wx ms B W σ H k (.ok a env) Q) (o : Ok T ms B W env σ H) (z : k.r σ env H B W H a v) : Q v H := h W H v (Nxt.refl W H) o z
theorem Po.same {k : Rk T α β} {a : α} {v : β} {Q : β → Hp → Prop} {H' : Hp} (h : Po T Wx ms B W σ H k (.ok a env) Q) (o : Ok T ms B W env σ H) (s : Same H H') (z : k.r σ env H B W H' a v) : Q v H' := h W H' v (Nxt.same s) (o.same s) z
theorem Ok.cellAt {i : Nat} {a : Addr} {d : D} (o : Ok T ms B W env σ H) (hi : ms.contains i = true) (he : env[i]? = some (some d)) (hs : σ[i]? = some (some (.ref a))) : W a ∧ ∃ u, H a = some u := by
  obtain ⟨v, e1, e2⟩ := o.mu i d hi he
  rw [hs] at e1
  have e3 := Option.some.inj (Option.some.inj e1)
  subst e3
  cases d with
  | lst l =>
    obtain ⟨b, vs, e4, e5, e6, _⟩ := e2
    cases e4
    exact ⟨e5, _, e6⟩
  | obj c ns ds =>
    obtain ⟨b, dx, vs, e4, e5, e6, _⟩ := e2
    cases e4
    exact ⟨e5, _, e6⟩
  | dic t ks ds =>
    obtain ⟨b, vs, e4, e5, e6, _⟩ := e2
    cases e4
    exact ⟨e5, _, e6⟩
  | _ => exact e2.elim
/-- our own cells: more of them, fewer of them -/
theorem Ok.more {p : Addr} {u : HO} (o : Ok T ms B W env σ H) (hp : H p = none) : Ok T ms B (fun c => W c ∨ c = p) env σ (upd H p u) := by
  have ex : Ext (Bar B W) H (Bar B fun c => W c ∨ c = p) (upd H p u) := ⟨fun c z h _ => Same.upd hp c z h, fun c z => by
    rcases z with z | z | z
    · exact .inl (.inl z)
    · exact .inl (.inr z)
    · exact .inr (by rw [z]; exact hp)⟩
  refine ⟨o.len, fun c z => ?_, fun i d h e => ?_, fun i d h e => ?_, o.dj, o.fx⟩
  · rcases z with z | z | z
    · obtain ⟨q, e⟩ := o.wf c (.inl z)
      exact ⟨q, Same.upd hp c q e⟩
    · obtain ⟨q, e⟩ := o.wf c (.inr z)
      exact ⟨q, Same.upd hp c q e⟩
    · exact ⟨u, by rw [z]; exact upd_same⟩
  · obtain ⟨v, e1, e2⟩ := o.sl i d h e
    exact ⟨v, e1, Rel.ext ex d e2⟩
  · obtain ⟨v, e1, e2⟩ := o.mu i d h e
    exact ⟨v, e1, e2.ext ex fun c z w h => ⟨.inl w, Same.upd hp c z h⟩⟩
theorem Ok.less {a : Addr} (o : Ok T ms B W env σ H) (f : ∀ i e, ms.contains i = true → env[i]? = some (some e) → σ[i]? ≠ some (some (.ref a))) : Ok T ms B (fun c => W c ∧ c ≠ a) env σ H := by
  have ex : Ext (Bar B W) H (Bar B fun c => W c ∧ c ≠ a) H := ⟨fun c z h _ => h, fun c z => by
    rcases z with z | z
    · exact .inl (.inl z)
    · exact .inl (.inr z.1)⟩
  refine ⟨o.len, fun c z => ?_, fun i d h e => ?_, fun i d h e => ?_, o.dj, o.fx⟩
  · rcases z with z | z
    · exact o.wf c (.inl z)
    · exact o.wf c (.inr z.1)
  · obtain ⟨v, e1, e2⟩ := o.sl i d h e
    exact ⟨v, e1, Rel.ext ex d e2⟩
  · obtain ⟨v, e1, e2⟩ := o.mu i d h e
    refine ⟨v, e1, ?_⟩
    cases d with
    | lst l =>
      obtain ⟨b, vs, rfl, e5, e6, e7⟩ := e2
      refine ⟨b, vs, rfl, ⟨e5, fun z => f i _ h e (by rw [e1, z])⟩, e6, RelL.ext ex _ e7⟩
    | obj c ns ds =>
      obtain ⟨b, dx, vs, rfl, e5, e6, e7, e8⟩ := e2
      refine ⟨b, dx, vs, rfl, ⟨e5, fun z => f i _ h e (by rw [e1, z])⟩, e6, e7, RelL.ext ex _ e8⟩
    | dic t ks ds =>
      obtain ⟨b, vs, rfl, e5, e6, e7, e8⟩ := e2
      refine ⟨b, vs, rfl, ⟨e5, fun z => f i _ h e (by rw [e1, z])⟩, e6, e7, RelL.ext ex _ e8⟩
    | _ => exact e2.elim
/-- a new list comes -/
theorem Po.made {p : Addr} {vs : List V} {l : List D} {Q : VK} (h : Po T Wx ms B W σ H (rkF T ms) (.ok (.lst l) env) Q) (o : Ok T ms B W env σ H) (hp : H p = none) (r : RelL T (Bar B W) H l vs) : Q (.ref p) (upd H p (.lst vs)) := by
  have ex : Ext (Bar B W) H (Bar B fun c => W c ∨ c = p) (upd H p (.lst vs)) := ⟨fun c z h _ => Same.upd hp c z h, fun c z => by
    rcases z with z | z | z
    · exact .inl (.inl z)
    · exact .inl (.inr z)
    · exact .inr (by rw [z]; exact hp)⟩
  refine h (fun c => W c ∨ c = p) (upd H p (.lst vs)) (.ref p) ⟨fun c z h _ => Same.upd hp c z h, fun c z => ?_, fun c z h => ⟨z, Same.upd hp c z h⟩⟩ (o.more hp) ⟨p, vs, l, rfl, rfl, .inr rfl, hp, upd_same, RelL.ext ex l r, fun i e hi he hs => ?_⟩
  · rcases z with z | z
    · exact .inl z
    · exact .inr (by rw [z]; exact hp)
  · obtain ⟨_, u, hu⟩ := o.cellAt hi he hs
    rw [hp] at hu; cases hu
end

/-! ### judgements -/
section
variable (X : Cx) (Wx : WX) (ms : Ms)
def DE (e : Expr) (f : M D) : Prop := ∀ B W env σ H Q, Ok (tx X) ms B W env σ H → Po (tx X) Wx ms B W σ H (rkD (tx X)) (f env) Q → tm X e σ H Q
def DF (e : Expr) (f : M D) : Prop := ∀ B W env σ H Q, Ok (tx X) ms B W env σ H → Po (tx X) Wx ms B W σ H (rkF (tx X) ms) (f env) Q → tm X e σ H Q
def DK (e : Expr) (f : M D) : Prop := ∀ B W env σ H Q, Ok (tx X) ms B W env σ H → Po (tx X) Wx ms B W σ H (rkW (tx X)) (f env) Q → tm X e σ H Q
def DT (e : Expr) (f : M Bool) : Prop := ∀ B W env σ H Q, Ok (tx X) ms B W env σ H → Po (tx X) Wx ms B W σ H (rkB (tx X)) (f env) Q → tmT X e σ H Q
def DW (e : Expr) (f : M Bool) : Prop := ∀ B W env σ H Q, Ok (tx X) ms B W env σ H → Po (tx X) Wx ms B W σ H (rkB (tx X)) (f env) Q → tmW X e σ H Q
def DA (es : List Expr) (f : M (List D)) : Prop := ∀ B W env σ H Q, Ok (tx X) ms B W env σ H → Po (tx X) Wx ms B W σ H (rkL (tx X)) (f env) Q → tmA X es σ H Q
end
section
variable {X : Cx} {Wx : WX} {ms : Ms}
theorem DF.de {e : Expr} {f : M D} (h : DF X Wx ms e f) : DE X Wx ms e f := fun B W env σ H Q o p => h B W env σ H Q o (by
  cases q : f env with
  | ok a env' =>
    rw [q] at p
    intro W' H' v n o' z
    obtain ⟨c, vs, l, rfl, rfl, hw, h0, hl, rl, hf⟩ := z
    refine p (fun b => W' b ∧ b ≠ c) H' _ ⟨n.keep, fun b w => n.new b w.1, n.live⟩ (o'.less hf) ⟨c, vs, rfl, hl, fun b => ?_, RelL.ext ⟨fun b u h _ => h, fun b w => ?_⟩ l rl⟩
    · rcases b with b | b
      · obtain ⟨u, e⟩ := o.wf c (.inl b)
        rw [h0] at e; cases e
      · exact b.2 rfl
    · rcases w with w | w
      · exact .inl (.inl w)
      · exact .inl (.inr w.1)
  | err c ns ds env' =>
    rw [q] at p
    exact p
  | stuck =>
    rw [q] at p
    exact p)

theorem DE.dk {e : Expr} {f : M D} (h : DE X Wx ms e f) : DK X Wx ms e f := fun B W env σ H Q o p => h B W env σ H Q o (by
  cases q : f env with
  | ok a env' =>
    rw [q] at p
    exact fun W' H' v n o' z => p W' H' v n o' (Rel.wk z)
  | err c ns ds env' =>
    rw [q] at p
    exact p
  | stuck =>
    rw [q] at p
    exact p)

/-! ### names, constants -/
def vVar (i : Nat) : M D := fun env => match env[i]? with
  | some (some d) => .ok d env
  | _ => .stuck
def vC (d : D) : M D := fun env => .ok d env
theorem tm_pure {e : Expr} {t : TE} {v : V} {σ : St} {H : Hp} {Q : VK} (h : PE X e t) (q : t σ H Q) : tm X e σ H Q := PE.tm h q
theorem de_var (i : Nat) {x : Str} {pos : Pos} (hm : ms.contains i = false := by rfl) (hN : X.N[i]? = some x := by rfl) (hv : Vis X.env.scope x := by first | exact Or.inl rfl | exact Or.inr (Or.inl rfl) | exact Or.inr (Or.inr rfl))
    (hd : (x == ("__debug__" : Str)) = false := by decide) (hcd : (x == ("__classdict__" : Str)) = false := by decide) : DE X Wx ms (.Name x pos) (vVar i) := by
  intro B W env σ H Q o p
  unfold vVar at p
  cases q : env[i]? with
  | none =>
    rw [q] at p
    exact p.elim
  | some z =>
    cases z with
    | none =>
      rw [q] at p
      exact p.elim
    | some d =>
      rw [q] at p
      obtain ⟨v, e1, e2⟩ := o.sl i d hm q
      exact PE.tm (pe_var hN hv hd hcd) ⟨v, e1, Po.done p o e2⟩
/-- a list of our own, read -/
theorem dk_var (i : Nat) {x : Str} {pos : Pos} (hm : ms.contains i = true := by rfl) (hN : X.N[i]? = some x := by rfl) (hv : Vis X.env.scope x := by first | exact Or.inl rfl | exact Or.inr (Or.inl rfl) | exact Or.inr (Or.inr rfl))
    (hd : (x == ("__debug__" : Str)) = false := by decide) (hcd : (x == ("__classdict__" : Str)) = false := by decide) : DK X Wx ms (.Name x pos) (vVar i) := by
  intro B W env σ H Q o p
  unfold vVar at p
  cases q : env[i]? with
  | none =>
    rw [q] at p
    exact p.elim
  | some z =>
    cases z with
    | none =>
      rw [q] at p
      exact p.elim
    | some d =>
      rw [q] at p
      obtain ⟨v, e1, e2⟩ := o.mu i d hm q
      cases d with
      | lst l =>
        obtain ⟨a, vs, e3, _, e4, e5⟩ := e2
        exact PE.tm (pe_var hN hv hd hcd) ⟨v, e1, Po.done p o ⟨a, vs, e3, e4, e5⟩⟩
      | obj c ns ds =>
        obtain ⟨a, dx, vs, e3, e4, e5, e6, e7⟩ := e2
        exact PE.tm (pe_var hN hv hd hcd) ⟨v, e1, Po.done p o ⟨a, dx, vs, e3, e5, e6, e7⟩⟩
      | dic t ks ds =>
        obtain ⟨a, vs, e3, e4, e5, e6, e7⟩ := e2
        exact PE.tm (pe_var hN hv hd hcd) ⟨v, e1, Po.done p o ⟨a, vs, e3, e5, e6, e7⟩⟩
      | _ => exact e2.elim
theorem de_int {i : Int} {j pos} : DE X Wx ms (.Constant (.int i) j pos) (vC (.int i)) := fun B W env σ H Q o p => PE.tm pe_int (Po.done (v := V.int i) p o rfl)
theorem de_bl {b j pos} : DE X Wx ms (.Constant (.bool b) j pos) (vC (.bl b)) := fun B W env σ H Q o p => PE.tm pe_bl (Po.done (v := V.bl b) p o rfl)
theorem de_non {j pos} : DE X Wx ms (.Constant .none j pos) (vC .non) := fun B W env σ H Q o p => PE.tm pe_non (Po.done (v := V.non) p o rfl)
theorem de_str (i : Nat) {x : Str} {j pos} (h : nm i = x := by rfl) : DE X Wx ms (.Constant (.str x) j pos) (vC (.str i)) := fun B W env σ H Q o p => by
  subst h
  exact PE.tm pe_str (Po.done (v := V.str (nm i)) p o rfl)
theorem de_glob {x : Str} {pos : Pos} {i : Int} (hg : Gl X x) (h : ∃ t, X.mg x = some (.int i t)) (hd : (x == ("__debug__" : Str)) = false := by decide) : DE X Wx ms (.Name x pos) (vC (.int i)) := fun B W env σ H Q o p => by
  obtain ⟨t, hm⟩ := h
  exact PE.tm (pe_glob (v := .int i) hg hm ⟨t, rfl⟩ hd) (Po.done (v := V.int i) p o rfl)
theorem de_cls (i : Nat) {x : Str} {pos : Pos} (hg : Gl X x) (hm : X.mg x = some (.ref (He.ga X.K x))) (hi : nm i = x := by rfl) (hd : (x == ("__debug__" : Str)) = false := by decide) : DE X Wx ms (.Name x pos) (vC (.cls i)) := fun B W env σ H Q o p => by
  subst hi
  exact PE.tm (pe_glob (v := .ref (He.ga X.K (nm i))) hg hm rfl hd) (Po.done (v := V.ref (He.ga X.K (nm i))) p o rfl)

/-! ### operations by values: they change nothing, they may make things -/
abbrev Wf (B : Addr → Prop) (H : Hp) : Prop := ∀ a, B a → ∃ o, H a = some o
def Pure1 (X : Cx) (r : V → Hp → VK → Prop) (g : D → Option D) : Prop := ∀ {B : Addr → Prop} {H : Hp} {x : V} {d z : D} {Q : VK}, Wf B H → Wk (tx X) B H d x → g d = some z → (∀ H' v, Same H H' → Rel (tx X) B H' z v → Q v H') → r x H Q
def Pure2 (X : Cx) (r : R2) (g : D → D → Option D) : Prop := ∀ {B : Addr → Prop} {H : Hp} {x y : V} {d e z : D} {Q : VK}, Wf B H → Wk (tx X) B H d x → Wk (tx X) B H e y → g d e = some z → (∀ H' v, Same H H' → Rel (tx X) B H' z v → Q v H') → r x y H Q
def PureN (X : Cx) (r : List V → Hp → VK → Prop) (g : List D → Option D) : Prop := ∀ {B : Addr → Prop} {H : Hp} {xs : List V} {ds : List D} {z : D} {Q : VK}, Wf B H → RelL (tx X) B H ds xs → g ds = some z → (∀ H' v, Same H H' → Rel (tx X) B H' z v → Q v H') → r xs H Q
def PureNF (X : Cx) (r : List V → Hp → VK → Prop) (g : List D → Option D) : Prop := ∀ {B : Addr → Prop} {H : Hp} {xs : List V} {ds : List D} {z : D} {Q : VK}, Wf B H → RelL (tx X) B H ds xs → g ds = some z → (∀ p vs l, z = .lst l → H p = none → RelL (tx X) B H l vs → Q (.ref p) (upd H p (.lst vs))) → r xs H Q
def Pure1F (X : Cx) (r : V → Hp → VK → Prop) (g : D → Option D) : Prop := ∀ {B : Addr → Prop} {H : Hp} {x : V} {d z : D} {Q : VK}, Wf B H → Wk (tx X) B H d x → g d = some z → (∀ p vs l, z = .lst l → H p = none → RelL (tx X) B H l vs → Q (.ref p) (upd H p (.lst vs))) → r x H Q
def Pure2F (X : Cx) (r : R2) (g : D → D → Option D) : Prop := ∀ {B : Addr → Prop} {H : Hp} {x y : V} {d e z : D} {Q : VK}, Wf B H → Wk (tx X) B H d x → Wk (tx X) B H e y → g d e = some z → (∀ p vs l, z = .lst l → H p = none → RelL (tx X) B H l vs → Q (.ref p) (upd H p (.lst vs))) → r x y H Q

def op1 (g : D → Option D) (f : M D) : M D := fun env => (f env).bind fun d env1 => M.of (g d) env1
def op2 (g : D → D → Option D) (f f' : M D) : M D := fun env => (f env).bind fun d env1 => (f' env1).bind fun e env2 => M.of (g d e) env2
def opN (g : List D → Option D) (f : M (List D)) : M D := fun env => (f env).bind fun ds env1 => M.of (g ds) env1

theorem of_pos {T : Tx} {B : Br} {W : Addr → Prop} {env : En} {σ : St} {H : Hp} {α β : Type} {k : Rk T α β} {o : Option α} {Q : β → Hp → Prop} (h : Po T Wx ms B W σ H k (M.of o env) Q) : ∃ z, o = some z ∧ Po T Wx ms B W σ H k (.ok z env) Q := by
  cases o with
  | none => exact h.elim
  | some z => exact ⟨z, rfl, h⟩

section
variable {a b : Expr} {fa fb : M D} {pos : Pos}
theorem tm_op2 {r : R2} {g : D → D → Option D} (p : Pure2 X r g) (ha : DE X Wx ms a fa) (hb : DK X Wx ms b fb) {B : Br} {W : Addr → Prop} {env : En} {σ : St} {H : Hp} {Q : VK} (o : Ok (tx X) ms B W env σ H)
    (h : Po (tx X) Wx ms B W σ H (rkD (tx X)) (op2 g fa fb env) Q) : tm X a σ H fun x H1 => tm X b σ H1 fun y H2 => r x y H2 Q :=
  ha _ _ _ _ _ _ o (h.cont (k1 := rkD (tx X)) fun d env1 W1 H1 x n1 o1 r1 h1 => hb _ _ _ _ _ _ o1 (h1.cont (k1 := rkW (tx X)) fun e env2 W2 H2 y n2 o2 r2 h2 => by
    obtain ⟨z, e1, h3⟩ := of_pos h2
    exact p o2.wf (Rel.wk (Rel.ext n2.ext d r1)) r2 e1 fun H' v s rv => h3.same o2 s rv))
theorem tm_op2F {r : R2} {g : D → D → Option D} (p : Pure2F X r g) (ha : DE X Wx ms a fa) (hb : DK X Wx ms b fb) {B : Br} {W : Addr → Prop} {env : En} {σ : St} {H : Hp} {Q : VK} (o : Ok (tx X) ms B W env σ H)
    (h : Po (tx X) Wx ms B W σ H (rkF (tx X) ms) (op2 g fa fb env) Q) : tm X a σ H fun x H1 => tm X b σ H1 fun y H2 => r x y H2 Q :=
  ha _ _ _ _ _ _ o (h.cont (k1 := rkD (tx X)) fun d env1 W1 H1 x n1 o1 r1 h1 => hb _ _ _ _ _ _ o1 (h1.cont (k1 := rkW (tx X)) fun e env2 W2 H2 y n2 o2 r2 h2 => by
    obtain ⟨z, e1, h3⟩ := of_pos h2
    exact p o2.wf (Rel.wk (Rel.ext n2.ext d r1)) r2 e1 fun q vs l el hq rl => by
      subst el
      exact h3.made o2 hq rl))
/-- the first operand a cell of ours, the second without effect -/
def Still (f : M D) : Prop := ∀ env d env', f env = .ok d env' → env' = env
theorem de_op {op : Operator} {r : R2} {g : D → D → Option D} (ho : OpR X (binaryOp op) r) (p : Pure2 X r g) (ha : DE X Wx ms a fa) (hb : DK X Wx ms b fb) : DE X Wx ms (.BinOp a op b pos) (op2 g fa fb) := fun B W env σ H Q o h =>
  PE.tm (pe_op ho pe_tm pe_tm) (tm_op2 p ha hb o h)
theorem df_op {op : Operator} {r : R2} {g : D → D → Option D} (ho : OpR X (binaryOp op) r) (p : Pure2F X r g) (ha : DE X Wx ms a fa) (hb : DK X Wx ms b fb) : DF X Wx ms (.BinOp a op b pos) (op2 g fa fb) := fun B W env σ H Q o h =>
  PE.tm (pe_op ho pe_tm pe_tm) (tm_op2F p ha hb o h)
theorem de_un {op : UnaryOp} {r : V → Hp → VK → Prop} {g : D → Option D} (ho : UnR X (unaryOp op) r) (p : Pure1 X r g) (ha : DK X Wx ms a fa) : DE X Wx ms (.UnaryOp op a pos) (op1 g fa) := fun B W env σ H Q o h =>
  PE.tm (pe_un ho pe_tm) (ha _ _ _ _ _ _ o (h.cont (k1 := rkW (tx X)) fun d env1 W1 H1 x n1 o1 r1 h1 => by
    obtain ⟨z, e1, h3⟩ := of_pos h1
    exact p o1.wf r1 e1 fun H' v s rv => h3.same o1 s rv))
theorem de_cmp {op : CmpOp} {r : R2} {g : D → D → Option D} (ho : OpR X (compareOp op) r) (p : Pure2 X r g) (ha : DE X Wx ms a fa) (hb : DK X Wx ms b fb) (hm : behindInMarks op b = false := by first | exact nomark _ | rfl) : DE X Wx ms (.Compare a [op] [b] pos) (op2 g fa fb) := fun B W env σ H Q o h =>
  PE.tm (pe_cmpR ho pe_tm pe_tm hm) (tm_op2 p ha hb o h)
def asB : D → Option Bool
  | .bl b => some b
  | _ => none
def tB1 (f : M D) : M Bool := fun env => (f env).bind fun d env1 => M.of (asB d) env1
theorem asB_some {d : D} {b : Bool} (h : asB d = some b) : d = .bl b := by
  cases d with
  | bl c =>
    have e : c = b := Option.some.inj h
    rw [e]
  | _ => cases h
/-- an expression that gives a bool, as a test -/
theorem dt_val (ha : DE X Wx ms a fa) (he : ∀ whole, isTrue a X.env whole = (do let v ← whole; standAt a.pos; holding [v] (truthy v)) := by intro _; rfl) : DT X Wx ms a (tB1 fa) := fun B W env σ H Q o h =>
  PT.tm (pt_val pe_tm he) (ha _ _ _ _ _ _ o (h.cont fun d env1 W1 H1 x n1 o1 r1 h1 => by
    obtain ⟨z, e1, h3⟩ := of_pos h1
    have e2 := asB_some e1
    subst e2
    exact ⟨z, r1, h3.done o1 rfl⟩))
theorem op2_as (g : D → D → Option D) (f f' : M D) (env : En) : tB1 (op2 g f f') env = (f env).bind fun d env1 => (f' env1).bind fun e env2 => M.of ((g d e).bind asB) env2 := by
  show R.bind (R.bind (f env) _) _ = R.bind (f env) _
  cases f env with
  | ok d env1 =>
    show R.bind (R.bind (f' env1) _) _ = R.bind (f' env1) _
    cases f' env1 with
    | ok e env2 =>
      show R.bind (M.of (g d e) env2) _ = M.of ((g d e).bind asB) env2
      cases g d e <;> rfl
    | err c ns ds env => rfl
    | stuck => rfl
  | err c ns ds env => rfl
  | stuck => rfl
theorem dt_cmp {op : CmpOp} {r : R2} {g : D → D → Option D} (ho : OpR X (compareOp op) r) (p : Pure2 X r g) (ha : DE X Wx ms a fa) (hb : DK X Wx ms b fb) (hm : behindInMarks op b = false := by first | exact nomark _ | rfl) : DT X Wx ms (.Compare a [op] [b] pos) (tB1 (op2 g fa fb)) := fun B W env σ H Q o h => by
  rw [op2_as] at h
  refine PT.tm (pt_cmpR ho pe_tm pe_tm hm) (ha _ _ _ _ _ _ o (h.cont (k1 := rkD (tx X)) fun d env1 W1 H1 x n1 o1 r1 h1 => hb _ _ _ _ _ _ o1 (h1.cont (k1 := rkW (tx X)) fun e env2 W2 H2 y n2 o2 r2 h2 => ?_)))
  obtain ⟨z, e1, h3⟩ := of_pos h2
  obtain ⟨zd, e2, e3⟩ := Option.bind_eq_some_iff.mp e1
  have e4 := asB_some e3
  subst e4
  exact p o2.wf (Rel.wk (Rel.ext n2.ext d r1)) r2 e2 fun H' v s rv => ⟨z, rv, h3.same o2 s rfl⟩

/-! ### tests -/
variable {ga gb : M Bool}
def bNot (f : M Bool) : M Bool := fun env => (f env).bind fun c env1 => .ok (!c) env1
def bAnd (f f' : M Bool) : M Bool := fun env => (f env).bind fun c env1 => if c = true then f' env1 else .ok false env1
def bOr (f f' : M Bool) : M Bool := fun env => (f env).bind fun c env1 => if c = true then .ok true env1 else f' env1
theorem dt_not (ha : DT X Wx ms a ga) : DT X Wx ms (.UnaryOp .Not a pos) (bNot ga) := fun B W env σ H Q o h =>
  PT.tm (pt_not pt_tm) (ha _ _ _ _ _ _ o (h.cont fun c env1 W1 H1 x n1 o1 r1 h1 => h1.done o1 (by rw [show x = c from r1]; rfl)))
theorem dw_and1 (ha : DT X Wx ms a ga) : DW X Wx ms (.BoolOp .And [a] pos) ga := fun B W env σ H Q o h => PW.tm (pw_and1 pt_tm) (ha _ _ _ _ _ _ o h)
theorem dw_or1 (ha : DT X Wx ms a ga) : DW X Wx ms (.BoolOp .Or [a] pos) ga := fun B W env σ H Q o h => PW.tm (pw_or1 pt_tm) (ha _ _ _ _ _ _ o h)
theorem dw_and {rest : List Expr} (ha : DT X Wx ms a ga) (hb : DW X Wx ms (.BoolOp .And (b :: rest) pos) gb) : DW X Wx ms (.BoolOp .And (a :: b :: rest) pos) (bAnd ga gb) := fun B W env σ H Q o h =>
  PW.tm (pw_and pt_tm pw_tm) (ha _ _ _ _ _ _ o (h.cont fun c env1 W1 H1 x n1 o1 r1 h1 => by
    have e : x = c := r1
    subst e
    cases x with
    | true => exact iteT (hb _ _ _ _ _ _ o1 h1)
    | false => exact iteF (h1.done o1 rfl)))
theorem dw_or {rest : List Expr} (ha : DT X Wx ms a ga) (hb : DW X Wx ms (.BoolOp .Or (b :: rest) pos) gb) : DW X Wx ms (.BoolOp .Or (a :: b :: rest) pos) (bOr ga gb) := fun B W env σ H Q o h =>
  PW.tm (pw_or pt_tm pw_tm) (ha _ _ _ _ _ _ o (h.cont fun c env1 W1 H1 x n1 o1 r1 h1 => by
    have e : x = c := r1
    subst e
    cases x with
    | true => exact iteT (h1.done o1 rfl)
    | false => exact iteF (hb _ _ _ _ _ _ o1 h1)))
theorem DW.dt (h : DW X Wx ms a ga) : DT X Wx ms a ga := fun B W env σ H Q o p => PT.tm (PW.pt pw_tm) (h _ _ _ _ _ _ o p)
def iff_ (c : M Bool) {α : Type} (f f' : M α) : M α := fun env => (c env).bind fun c env1 => if c = true then f env1 else f' env1
theorem de_ifExp {c : Expr} (hc : DT X Wx ms c ga) (ha : DE X Wx ms a fa) (hb : DE X Wx ms b fb) : DE X Wx ms (.IfExp c a b pos) (iff_ ga fa fb) := fun B W env σ H Q o h =>
  PE.tm (pe_ifExp pt_tm pe_tm pe_tm) (hc _ _ _ _ _ _ o (h.cont fun c env1 W1 H1 x n1 o1 r1 h1 => by
    have e : x = c := r1
    subst e
    cases x with
    | true => exact iteT (ha _ _ _ _ _ _ o1 h1)
    | false => exact iteF (hb _ _ _ _ _ _ o1 h1)))
/-- and, or as values (bools) -/
def vAnd (f f' : M D) : M D := fun env => (f env).bind fun d env1 => match d with
  | .bl true => f' env1
  | .bl false => .ok (.bl false) env1
  | _ => .stuck
def vOr (f f' : M D) : M D := fun env => (f env).bind fun d env1 => match d with
  | .bl false => f' env1
  | .bl true => .ok (.bl true) env1
  | _ => .stuck
theorem de_one {op} (ha : DE X Wx ms a fa) : DE X Wx ms (.BoolOp op [a] pos) fa := fun B W env σ H Q o h => PE.tm (pe_one pe_tm) (ha _ _ _ _ _ _ o h)
theorem de_and {rest : List Expr} (ha : DE X Wx ms a fa) (hb : DE X Wx ms (.BoolOp .And (b :: rest) pos) fb) : DE X Wx ms (.BoolOp .And (a :: b :: rest) pos) (vAnd fa fb) := fun B W env σ H Q o h =>
  PE.tm (pe_and pe_tm pe_tm) (ha _ _ _ _ _ _ o (h.cont fun d env1 W1 H1 x n1 o1 r1 h1 => by
    cases d with
    | bl c =>
      cases c with
      | true => exact ⟨true, r1, iteT (hb _ _ _ _ _ _ o1 h1)⟩
      | false => exact ⟨false, r1, iteF (h1.done (v := V.bl false) o1 rfl)⟩
    | _ => exact h1.elim))
theorem de_or {rest : List Expr} (ha : DE X Wx ms a fa) (hb : DE X Wx ms (.BoolOp .Or (b :: rest) pos) fb) : DE X Wx ms (.BoolOp .Or (a :: b :: rest) pos) (vOr fa fb) := fun B W env σ H Q o h =>
  PE.tm (pe_or pe_tm pe_tm) (ha _ _ _ _ _ _ o (h.cont fun d env1 W1 H1 x n1 o1 r1 h1 => by
    cases d with
    | bl c =>
      cases c with
      | true => exact ⟨true, r1, iteT (h1.done (v := V.bl true) o1 rfl)⟩
      | false => exact ⟨false, r1, iteF (hb _ _ _ _ _ _ o1 h1)⟩
    | _ => exact h1.elim))
def notD : D → Option D
  | .bl b => some (.bl (!b))
  | _ => none
theorem de_not (ha : DE X Wx ms a fa) : DE X Wx ms (.UnaryOp .Not a pos) (op1 notD fa) := fun B W env σ H Q o h =>
  PE.tm (pe_not pe_tm) (ha _ _ _ _ _ _ o (h.cont fun d env1 W1 H1 x n1 o1 r1 h1 => by
    obtain ⟨z, e1, h3⟩ := of_pos h1
    cases d with
    | bl c =>
      have e : D.bl (!c) = z := Option.some.inj e1
      subst e
      exact ⟨c, r1, h3.done (v := V.bl (!c)) o1 rfl⟩
    | _ => cases e1))

/-! ### arguments, displays -/
variable {es : List Expr} {fs : M (List D)}
def aNil : M (List D) := fun env => .ok [] env
def aCons (f : M D) (fs : M (List D)) : M (List D) := fun env => (f env).bind fun d env1 => (fs env1).bind fun ds env2 => .ok (d :: ds) env2
theorem da_nil : DA X Wx ms [] aNil := fun B W env σ H Q o h => PA.tm pa_nil (h.done (v := []) o trivial)
theorem da_cons (ha : DE X Wx ms a fa) (hr : DA X Wx ms es fs) (hs : starEach (a :: es) X.env = (false, eval a X.env) :: starEach es X.env := by rfl) : DA X Wx ms (a :: es) (aCons fa fs) := fun B W env σ H Q o h =>
  PA.tm (pa_cons pe_tm pa_tm hs) (ha _ _ _ _ _ _ o (h.cont fun d env1 W1 H1 x n1 o1 r1 h1 => hr _ _ _ _ _ _ o1 (h1.cont fun ds env2 W2 H2 xs n2 o2 r2 h2 => h2.done (v := x :: xs) o2 ⟨Rel.ext n2.ext d r1, r2⟩)))
abbrev small (n : Nat) : Bool := Nat.ble n 1000000
theorem small_line {n : Nat} (h : small n = true) : n ≤ sizeLine := Nat.le_trans (Nat.le_of_ble_eq_true h) (by rw [sizeLine_eq]; decide)
theorem small_lt {n : Nat} (h : small n = true) : n < sizeLine := Nat.lt_of_le_of_lt (Nat.le_of_ble_eq_true h) (by rw [sizeLine_eq]; decide)
def mkT (ds : List D) : Option D := if small ds.length = true then some (.tup ds) else none
def mkL (ds : List D) : Option D := if small ds.length = true then some (.lst ds) else none
theorem fresh_bar {B : Addr → Prop} {H : Hp} {p : Addr} (w : Wf B H) (h : H p = none) : ¬ B p := fun b => by
  obtain ⟨o, e⟩ := w p b
  rw [h] at e; cases e
theorem ite_some {α : Type} {c : Prop} [Decidable c] {x y : α} (h : (if c then some x else none) = some y) : c ∧ x = y := by
  by_cases q : c
  · rw [if_pos q] at h
    exact ⟨q, Option.some.inj h⟩
  · rw [if_neg q] at h; cases h
theorem de_tup {x1} (h : DA X Wx ms es fs) : DE X Wx ms (.Tuple es x1 pos) (opN mkT fs) := fun B W env σ H Q o p =>
  PE.tm (pe_tup pa_tm) (h _ _ _ _ _ _ o (p.cont fun ds env1 W1 H1 xs n1 o1 r1 h1 => by
    obtain ⟨z, e1, h3⟩ := of_pos h1
    obtain ⟨e2, e3⟩ := ite_some e1
    subst e3
    have el := RelL.length r1
    refine ⟨by rw [← el]; exact small_line e2, fun q hq => h3.same o1 (Same.upd hq) ⟨q, xs, rfl, .inl ⟨upd_same, fresh_bar o1.wf hq⟩, RelL.ext (Ext.same (Same.upd hq)) ds r1⟩⟩))
theorem df_lst (h : DA X Wx ms es fs) : DF X Wx ms (.List es pos) (opN mkL fs) := fun B W env σ H Q o p =>
  PE.tm (pe_lst pa_tm) (h _ _ _ _ _ _ o (p.cont (k1 := rkL (tx X)) fun ds env1 W1 H1 xs n1 o1 r1 h1 => by
    obtain ⟨z, e1, h3⟩ := of_pos h1
    obtain ⟨e2, e3⟩ := ite_some e1
    subst e3
    have el := RelL.length r1
    exact ⟨by rw [← el]; exact small_line e2, fun q hq => h3.made o1 hq r1⟩))
end

/-! ### calls of built-ins -/
section
variable {r : List V → Hp → VK → Prop} {g : List D → Option D} {x : Str} {id ty : String} {p pos : Pos} {e : Expr} {es : List Expr} {fs : M (List D)}
theorem tm_callN (pr : PureN X r g) (ha : DA X Wx ms es fs) {B : Br} {W : Addr → Prop} {env : En} {σ : St} {H : Hp} {Q : VK} (o : Ok (tx X) ms B W env σ H) (h : Po (tx X) Wx ms B W σ H (rkD (tx X)) (opN g fs env) Q) : tmA X es σ H fun vs H1 => r vs H1 Q :=
  ha _ _ _ _ _ _ o (h.cont fun ds env1 W1 H1 xs n1 o1 r1 h1 => by
    obtain ⟨z, e1, h3⟩ := of_pos h1
    exact pr o1.wf r1 e1 fun H' v s rv => h3.same o1 s rv)
theorem tm_callNF (pr : PureNF X r g) (ha : DA X Wx ms es fs) {B : Br} {W : Addr → Prop} {env : En} {σ : St} {H : Hp} {Q : VK} (o : Ok (tx X) ms B W env σ H) (h : Po (tx X) Wx ms B W σ H (rkF (tx X) ms) (opN g fs env) Q) : tmA X es σ H fun vs H1 => r vs H1 Q :=
  ha _ _ _ _ _ _ o (h.cont (k1 := rkL (tx X)) fun ds env1 W1 H1 xs n1 o1 r1 h1 => by
    obtain ⟨z, e1, h3⟩ := of_pos h1
    exact pr o1.wf r1 e1 fun q vs l el hq rl => by
      subst el
      exact h3.made o1 hq rl)
theorem de_callB (hc : CallR X (.builtin id) r) (pr : PureN X r g) (hg : Gl X x) (hm : X.mg x = none) (hv : bootBuiltins x = some (.builtin id)) (ha : DA X Wx ms (e :: es) fs) (hn : x ≠ "__name__" := by decide) (hdb : (x == ("__debug__" : Str)) = false := by decide)
    (he : starEach (e :: es) X.env = (false, eval e X.env) :: starEach es X.env := by rfl) (hpl : (backTo pos (starEach es X.env)).any (·.1) = false := by rfl) : DE X Wx ms (.Call (.Name x p) (e :: es) [] pos) (opN g fs) := fun B W env σ H Q o h =>
  PE.tm (pe_callB hc hg hm hv pa_tm hn hdb he hpl) (tm_callN pr ha o h)
theorem df_callB (hc : CallR X (.builtin id) r) (pr : PureNF X r g) (hg : Gl X x) (hm : X.mg x = none) (hv : bootBuiltins x = some (.builtin id)) (ha : DA X Wx ms (e :: es) fs) (hn : x ≠ "__name__" := by decide) (hdb : (x == ("__debug__" : Str)) = false := by decide)
    (he : starEach (e :: es) X.env = (false, eval e X.env) :: starEach es X.env := by rfl) (hpl : (backTo pos (starEach es X.env)).any (·.1) = false := by rfl) : DF X Wx ms (.Call (.Name x p) (e :: es) [] pos) (opN g fs) := fun B W env σ H Q o h =>
  PE.tm (pe_callB hc hg hm hv pa_tm hn hdb he hpl) (tm_callNF pr ha o h)
theorem de_callTy (hc : CallR X (.type ty) r) (pr : PureN X r g) (hg : Gl X x) (hm : X.mg x = none) (hv : bootBuiltins x = some (.type ty)) (ha : DA X Wx ms (e :: es) fs) (hn : x ≠ "__name__" := by decide) (hdb : (x == ("__debug__" : Str)) = false := by decide)
    (he : starEach (e :: es) X.env = (false, eval e X.env) :: starEach es X.env := by rfl) (hpl : (backTo pos (starEach es X.env)).any (·.1) = false := by rfl) : DE X Wx ms (.Call (.Name x p) (e :: es) [] pos) (opN g fs) := fun B W env σ H Q o h =>
  PE.tm (pe_callTy hc hg hm hv pa_tm hn hdb he hpl) (tm_callN pr ha o h)
theorem df_callTy (hc : CallR X (.type ty) r) (pr : PureNF X r g) (hg : Gl X x) (hm : X.mg x = none) (hv : bootBuiltins x = some (.type ty)) (ha : DA X Wx ms (e :: es) fs) (hn : x ≠ "__name__" := by decide) (hdb : (x == ("__debug__" : Str)) = false := by decide)
    (he : starEach (e :: es) X.env = (false, eval e X.env) :: starEach es X.env := by rfl) (hpl : (backTo pos (starEach es X.env)).any (·.1) = false := by rfl) : DF X Wx ms (.Call (.Name x p) (e :: es) [] pos) (opN g fs) := fun B W env σ H Q o h =>
  PE.tm (pe_callTy hc hg hm hv pa_tm hn hdb he hpl) (tm_callNF pr ha o h)
/-- one argument, by value; it may be a cell of ours -/
def r1N (r : List V → Hp → VK → Prop) : V → Hp → VK → Prop := fun x H Q => r [x] H Q
section
variable {fa : M D}
theorem tm_call1 {g : D → Option D} (pr : Pure1 X (r1N r) g) (ha : DK X Wx ms e fa) (hs : starEach [e] X.env = (false, eval e X.env) :: starEach [] X.env := by rfl) {B : Br} {W : Addr → Prop} {env : En} {σ : St} {H : Hp} {Q : VK} (o : Ok (tx X) ms B W env σ H) (h : Po (tx X) Wx ms B W σ H (rkD (tx X)) (op1 g fa env) Q) : tmA X [e] σ H fun vs H1 => r vs H1 Q :=
  PA.tm (pa_cons pe_tm pa_nil hs) (ha _ _ _ _ _ _ o (h.cont (k1 := rkW (tx X)) fun d env1 W1 H1 x n1 o1 r1 h1 => by
    obtain ⟨z, e1, h3⟩ := of_pos h1
    exact pr o1.wf r1 e1 fun H' v s rv => h3.same o1 s rv))
theorem tm_call1F {g : D → Option D} (pr : Pure1F X (r1N r) g) (ha : DK X Wx ms e fa) (hs : starEach [e] X.env = (false, eval e X.env) :: starEach [] X.env := by rfl) {B : Br} {W : Addr → Prop} {env : En} {σ : St} {H : Hp} {Q : VK} (o : Ok (tx X) ms B W env σ H) (h : Po (tx X) Wx ms B W σ H (rkF (tx X) ms) (op1 g fa env) Q) : tmA X [e] σ H fun vs H1 => r vs H1 Q :=
  PA.tm (pa_cons pe_tm pa_nil hs) (ha _ _ _ _ _ _ o (h.cont (k1 := rkW (tx X)) fun d env1 W1 H1 x n1 o1 r1 h1 => by
    obtain ⟨z, e1, h3⟩ := of_pos h1
    exact pr o1.wf r1 e1 fun q vs l el hq rl => by
      subst el
      exact h3.made o1 hq rl))
theorem de_call1B {g : D → Option D} (hc : CallR X (.builtin id) r) (pr : Pure1 X (r1N r) g) (hg : Gl X x) (hm : X.mg x = none) (hv : bootBuiltins x = some (.builtin id)) (ha : DK X Wx ms e fa) (hn : x ≠ "__name__" := by decide) (hdb : (x == ("__debug__" : Str)) = false := by decide)
    (he : starEach [e] X.env = (false, eval e X.env) :: starEach [] X.env := by rfl) (hpl : (backTo pos (starEach [] X.env)).any (·.1) = false := by rfl) : DE X Wx ms (.Call (.Name x p) [e] [] pos) (op1 g fa) := fun B W env σ H Q o h =>
  PE.tm (pe_callB hc hg hm hv pa_tm hn hdb he hpl) (tm_call1 pr ha he o h)
theorem df_call1B {g : D → Option D} (hc : CallR X (.builtin id) r) (pr : Pure1F X (r1N r) g) (hg : Gl X x) (hm : X.mg x = none) (hv : bootBuiltins x = some (.builtin id)) (ha : DK X Wx ms e fa) (hn : x ≠ "__name__" := by decide) (hdb : (x == ("__debug__" : Str)) = false := by decide)
    (he : starEach [e] X.env = (false, eval e X.env) :: starEach [] X.env := by rfl) (hpl : (backTo pos (starEach [] X.env)).any (·.1) = false := by rfl) : DF X Wx ms (.Call (.Name x p) [e] [] pos) (op1 g fa) := fun B W env σ H Q o h =>
  PE.tm (pe_callB hc hg hm hv pa_tm hn hdb he hpl) (tm_call1F pr ha he o h)
theorem de_call1T {g : D → Option D} (hc : CallR X (.type ty) r) (pr : Pure1 X (r1N r) g) (hg : Gl X x) (hm : X.mg x = none) (hv : bootBuiltins x = some (.type ty)) (ha : DK X Wx ms e fa) (hn : x ≠ "__name__" := by decide) (hdb : (x == ("__debug__" : Str)) = false := by decide)
    (he : starEach [e] X.env = (false, eval e X.env) :: starEach [] X.env := by rfl) (hpl : (backTo pos (starEach [] X.env)).any (·.1) = false := by rfl) : DE X Wx ms (.Call (.Name x p) [e] [] pos) (op1 g fa) := fun B W env σ H Q o h =>
  PE.tm (pe_callTy hc hg hm hv pa_tm hn hdb he hpl) (tm_call1 pr ha he o h)
theorem df_call1T {g : D → Option D} (hc : CallR X (.type ty) r) (pr : Pure1F X (r1N r) g) (hg : Gl X x) (hm : X.mg x = none) (hv : bootBuiltins x = some (.type ty)) (ha : DK X Wx ms e fa) (hn : x ≠ "__name__" := by decide) (hdb : (x == ("__debug__" : Str)) = false := by decide)
    (he : starEach [e] X.env = (false, eval e X.env) :: starEach [] X.env := by rfl) (hpl : (backTo pos (starEach [] X.env)).any (·.1) = false := by rfl) : DF X Wx ms (.Call (.Name x p) [e] [] pos) (op1 g fa) := fun B W env σ H Q o h =>
  PE.tm (pe_callTy hc hg hm hv pa_tm hn hdb he hpl) (tm_call1F pr ha he o h)
end
end
end
end DL

set_option Elab.async false
set_option linter.all false
set_option maxRecDepth 100000
set_option maxHeartbeats 4000000
namespace DL
open PySem PySem.Spec L2

/-! ### plain data -/
mutual
def toP : D → Option PyData
  | .non => some .none
  | .bl b => some (.bool b)
  | .int i => some (.int i)
  | .str x => some (.str (nm x))
  | .tup l => (toPL l).map .tuple
  | .lst l => (toPL l).map .list
  | _ => none
def toPL : List D → Option (List PyData)
  | [] => some []
  | d :: ds => (toP d).bind fun p => (toPL ds).map fun ps => p :: ps
end
mutual
theorem rel_dp {T : Tx} {B : Addr → Prop} {H : Hp} : ∀ (d : D) {p : PyData} {v : V}, toP d = some p → Rel T B H d v → Dp T.K H v p
  | .non, p, v, e, r => by
    have e' := Option.some.inj e
    subst e'
    rw [show v = .non from r]
    exact .non
  | .bl b, p, v, e, r => by
    have e' := Option.some.inj e
    subst e'
    rw [show v = .bl b from r]
    exact .bl b
  | .int i, p, v, e, r => by
    have e' := Option.some.inj e
    subst e'
    rw [show v = .int i from r]
    exact .int i
  | .str x, p, v, e, r => by
    have e' := Option.some.inj e
    subst e'
    rw [show v = .str (nm x) from r]
    exact .str (nm x)
  | .tup l, p, v, e, r => by
    obtain ⟨a, vs, rfl, h1, h2⟩ := r
    obtain ⟨ps, e1, rfl⟩ := Option.map_eq_some_iff.mp e
    exact .tup h1.sq (rel_dpL l e1 h2)
  | .lst l, p, v, e, r => by
    obtain ⟨a, vs, rfl, h1, _, h2⟩ := r
    obtain ⟨ps, e1, rfl⟩ := Option.map_eq_some_iff.mp e
    exact .lst (SqL.of h1) (rel_dpL l e1 h2)
  | .obj _ _ _, _, _, e, _ => by cases e
  | .set _, _, _, e, _ => by cases e
  | .cls _, _, _, e, _ => by cases e
  | .scr _, _, _, e, _ => by cases e
  | .xc _ _ _, _, _, e, _ => by cases e
  | .dic _ _ _, _, _, e, _ => by cases e
theorem rel_dpL {T : Tx} {B : Addr → Prop} {H : Hp} : ∀ (ds : List D) {ps : List PyData} {vs : List V}, toPL ds = some ps → RelL T B H ds vs → DpAll T.K H vs ps
  | [], ps, [], e, _ => by
    have e' := Option.some.inj e
    subst e'
    exact .nil
  | [], _, _ :: _, _, r => r.elim
  | _ :: _, _, [], _, r => r.elim
  | d :: ds, ps, v :: vs, e, r => by
    obtain ⟨p, e1, e2⟩ := Option.bind_eq_some_iff.mp e
    obtain ⟨ps', e3, rfl⟩ := Option.map_eq_some_iff.mp e2
    exact .cons (rel_dp d e1 r.1) (rel_dpL ds e3 r.2)
end
theorem wk_dp {T : Tx} {B : Addr → Prop} {H : Hp} {d : D} {p : PyData} {v : V} (e : toP d = some p) (r : Wk T B H d v) : Dp T.K H v p := by
  cases d with
  | lst l =>
    obtain ⟨a, vs, rfl, h1, h2⟩ := r
    obtain ⟨ps, e1, rfl⟩ := Option.map_eq_some_iff.mp e
    exact .lst (SqL.of h1) (rel_dpL l e1 h2)
  | obj c ns ds => cases e
  | dic t ks ds => cases e
  | _ => exact rel_dp (B := B) _ e r
def nmN : Nat := 201
theorem nm_ok : (nmT.all fun s => PyData.strOk (Str.ofString s)) = true := by decide +kernel
theorem nmT_len : nmT.length = nmN := by decide +kernel
theorem nm_strOk {x : Nat} (h : Nat.blt x nmN = true) : PyData.strOk (nm x) = true := by
  have hl : x < nmT.length := by
    rw [nmT_len]
    exact Nat.le_of_ble_eq_true h
  have e : nmT[x]? = some nmT[x] := List.getElem?_eq_getElem hl
  unfold nm
  rw [e]
  exact List.all_eq_true.mp nm_ok _ (List.getElem_mem hl)
/-- data that may be compared, no deeper than n -/
def okF : Nat → D → Bool
  | _, .non => true
  | _, .bl _ => true
  | _, .int _ => true
  | _, .str x => Nat.blt x nmN
  | n + 1, .tup l => l.all (okF n)
  | n + 1, .lst l => l.all (okF n)
  | _, _ => false
def allF (f : D → D → Bool) : List D → List D → Bool
  | [], [] => true
  | d :: ds, e :: es => f d e && allF f ds es
  | _, _ => false
/-- what Python says of == -/
def eqF : Nat → D → D → Bool
  | _, .non, .non => true
  | _, .bl a, .bl b => a == b
  | _, .bl a, .int j => (if a then 1 else 0) == j
  | _, .int i, .bl b => i == (if b then 1 else 0)
  | _, .int i, .int j => i == j
  | _, .str x, .str y => Nat.beq x y
  | n + 1, .tup l, .tup m => allF (eqF n) l m
  | n + 1, .lst l, .lst m => allF (eqF n) l m
  | _, _, _ => false
theorem okF_toP : ∀ (n : Nat) (d : D), okF n d = true → ∃ p, toP d = some p ∧ p.canLay0 = true ∧ p.depth ≤ n := by
  intro n
  induction n with
  | zero =>
    intro d h
    cases d with
    | non => exact ⟨_, rfl, by simp [PyData.canLay0], by simp [PyData.depth]⟩
    | bl b => exact ⟨_, rfl, by simp [PyData.canLay0], by simp [PyData.depth]⟩
    | int b => exact ⟨_, rfl, by simp [PyData.canLay0], by simp [PyData.depth]⟩
    | str x => exact ⟨_, rfl, by simp [PyData.canLay0]; exact nm_strOk h, by simp [PyData.depth]⟩
    | _ => cases h
  | succ n ih =>
    have all : ∀ l : List D, l.all (okF n) = true → ∃ ps, toPL l = some ps ∧ PyData.canLayAll0 ps = true ∧ PyData.depthAll ps ≤ n := by
      intro l
      induction l with
      | nil => exact fun _ => ⟨[], rfl, by simp [PyData.canLayAll0], by simp [PyData.depthAll]⟩
      | cons d l ihl =>
        intro h
        obtain ⟨h1, h2⟩ := Bool.and_eq_true_iff.mp h
        obtain ⟨p, a1, a2, a3⟩ := ih d h1
        obtain ⟨ps, b1, b2, b3⟩ := ihl h2
        refine ⟨p :: ps, ?_, ?_, ?_⟩
        · show (toP d).bind _ = _
          rw [a1]
          show (toPL l).map _ = _
          rw [b1]
          rfl
        · simp only [PyData.canLayAll0, a2, b2, Bool.and_self]
        · simp only [PyData.depthAll]
          omega
    intro d h
    cases d with
    | non => exact ⟨_, rfl, by simp [PyData.canLay0], by simp [PyData.depth]⟩
    | bl b => exact ⟨_, rfl, by simp [PyData.canLay0], by simp [PyData.depth]⟩
    | int b => exact ⟨_, rfl, by simp [PyData.canLay0], by simp [PyData.depth]⟩
    | str x => exact ⟨_, rfl, by simp [PyData.canLay0]; exact nm_strOk h, by simp [PyData.depth]⟩
    | tup l =>
      obtain ⟨ps, a1, a2, a3⟩ := all l h
      refine ⟨.tuple ps, ?_, by simp only [PyData.canLay0]; exact a2, by simp only [PyData.depth]; omega⟩
      show (toPL l).map _ = _
      rw [a1]
      rfl
    | lst l =>
      obtain ⟨ps, a1, a2, a3⟩ := all l h
      refine ⟨.list ps, ?_, by simp only [PyData.canLay0]; exact a2, by simp only [PyData.depth]; omega⟩
      show (toPL l).map _ = _
      rw [a1]
      rfl
    | _ => cases h
theorem eqv_str (x y : Nat) : PyData.eqv (.str (nm x)) (.str (nm y)) = Nat.beq x y := by
  simp only [PyData.eqv]
  rw [nm_beq]
  exact Bool.eq_iff_iff.mpr ⟨fun h => by rw [eq_of_beq h]; exact Nat.beq_refl y, fun h => by rw [Nat.eq_of_beq_eq_true h]; exact beq_self_eq_true y⟩
theorem okL_toPL {n : Nat} {l : List D} (h : l.all (okF n) = true) : ∃ ps, toPL l = some ps := by
  induction l with
  | nil => exact ⟨[], rfl⟩
  | cons d l ih =>
    obtain ⟨h1, h2⟩ := Bool.and_eq_true_iff.mp h
    obtain ⟨p, a1, _, _⟩ := okF_toP n d h1
    obtain ⟨ps, b1⟩ := ih h2
    refine ⟨p :: ps, ?_⟩
    show (toP d).bind _ = _
    rw [a1]
    show (toPL l).map _ = _
    rw [b1]
    rfl
theorem toPL_cons {d : D} {l : List D} {qs : List PyData} (h : toPL (d :: l) = some qs) : ∃ p ps, toP d = some p ∧ toPL l = some ps ∧ qs = p :: ps := by
  obtain ⟨p, a1, a2⟩ := Option.bind_eq_some_iff.mp (show (toP d).bind (fun p => (toPL l).map fun ps => p :: ps) = some qs from h)
  obtain ⟨ps, b1, b2⟩ := Option.map_eq_some_iff.mp a2
  exact ⟨p, ps, a1, b1, b2.symm⟩
theorem allF_eqv {n : Nat} (ih : ∀ d e p q, okF n d = true → okF n e = true → toP d = some p → toP e = some q → eqF n d e = PyData.eqv p q) : ∀ (l m : List D) (ps qs : List PyData), l.all (okF n) = true → m.all (okF n) = true → toPL l = some ps → toPL m = some qs → allF (eqF n) l m = PyData.eqvAll ps qs
  | [], [], ps, qs, _, _, a, b => by
    have a' := Option.some.inj a
    have b' := Option.some.inj b
    subst a' b'
    simp [PyData.eqvAll, allF]
  | [], e :: m, ps, qs, _, _, a, b => by
    have a' := Option.some.inj a
    subst a'
    obtain ⟨q, qs', _, _, rfl⟩ := toPL_cons b
    simp [PyData.eqvAll, allF]
  | d :: l, [], ps, qs, _, _, a, b => by
    have b' := Option.some.inj b
    subst b'
    obtain ⟨q, qs', _, _, rfl⟩ := toPL_cons a
    simp [PyData.eqvAll, allF]
  | d :: l, e :: m, ps, qs, h1, h2, a, b => by
    obtain ⟨p, ps', a1, a2, rfl⟩ := toPL_cons a
    obtain ⟨q, qs', b1, b2, rfl⟩ := toPL_cons b
    obtain ⟨c1, c2⟩ := Bool.and_eq_true_iff.mp h1
    obtain ⟨d1, d2⟩ := Bool.and_eq_true_iff.mp h2
    simp only [PyData.eqvAll, allF]
    rw [ih d e p q c1 d1 a1 b1, allF_eqv ih l m ps' qs' c2 d2 a2 b2]
theorem eqF_eqv : ∀ (n : Nat) (d e : D) (p q : PyData), okF n d = true → okF n e = true → toP d = some p → toP e = some q → eqF n d e = PyData.eqv p q := by
  intro n
  induction n with
  | zero =>
    intro d e p q h1 h2 a b
    cases d <;> first | (cases h1; done) | skip
    all_goals (cases e <;> first | (cases h2; done) | skip)
    all_goals (have a' := Option.some.inj a; have b' := Option.some.inj b; subst a' b')
    all_goals first | exact (eqv_str _ _).symm | (simp [PyData.eqv, eqF]; done) | rfl
  | succ n ih =>
    intro d e p q h1 h2 a b
    cases d <;> first | (cases h1; done) | skip
    all_goals (cases e <;> first | (cases h2; done) | skip)
    case tup.tup l m =>
      obtain ⟨ps, a1, rfl⟩ := Option.map_eq_some_iff.mp (show (toPL l).map .tuple = some p from a)
      obtain ⟨qs, b1, rfl⟩ := Option.map_eq_some_iff.mp (show (toPL m).map .tuple = some q from b)
      simp only [PyData.eqv, eqF]
      exact allF_eqv ih l m ps qs h1 h2 a1 b1
    case lst.lst l m =>
      obtain ⟨ps, a1, rfl⟩ := Option.map_eq_some_iff.mp (show (toPL l).map .list = some p from a)
      obtain ⟨qs, b1, rfl⟩ := Option.map_eq_some_iff.mp (show (toPL m).map .list = some q from b)
      simp only [PyData.eqv, eqF]
      exact allF_eqv ih l m ps qs h1 h2 a1 b1
    all_goals (try (obtain ⟨ps, a1, rfl⟩ := Option.map_eq_some_iff.mp a))
    all_goals (try (obtain ⟨qs, b1, rfl⟩ := Option.map_eq_some_iff.mp b))
    all_goals (try (have a' := Option.some.inj a; subst a'))
    all_goals (try (have b' := Option.some.inj b; subst b'))
    all_goals first | exact (eqv_str _ _).symm | (simp [PyData.eqv, eqF]; done) | rfl
theorem okF_shaped {n : Nat} {d : D} (hn : n ≤ 64) (h : okF n d = true) : ∃ p, toP d = some p ∧ SeqAt.shaped p = true := by
  obtain ⟨p, a1, a2, a3⟩ := okF_toP n d h
  refine ⟨p, a1, ?_⟩
  unfold SeqAt.shaped
  rw [a2, decide_eq_true (Nat.le_trans a3 hn)]
  rfl
def eqB (d e : D) : Option Bool := if (okF 12 d && okF 12 e) = true then some (eqF 12 d e) else none
theorem eqB_some {d e : D} {b : Bool} (h : eqB d e = some b) : ∃ p q, toP d = some p ∧ toP e = some q ∧ SeqAt.shaped p = true ∧ SeqAt.shaped q = true ∧ b = PyData.eqv p q := by
  obtain ⟨h1, h2⟩ := ite_some h
  obtain ⟨h3, h4⟩ := Bool.and_eq_true_iff.mp h1
  obtain ⟨p, a1, a2⟩ := okF_shaped (by decide) h3
  obtain ⟨q, b1, b2⟩ := okF_shaped (by decide) h4
  exact ⟨p, q, a1, b1, a2, b2, by rw [← h2]; exact eqF_eqv 12 d e p q h3 h4 a1 b1⟩
def eqD (d e : D) : Option D := (eqB d e).map .bl
def neD (d e : D) : Option D := (eqB d e).map fun b => .bl (!b)
def intsD : List D → Option (List Int)
  | [] => some []
  | .int i :: l => (intsD l).map fun r => i :: r
  | _ :: _ => none
def intsOf : D → Option (List Int)
  | .tup l => intsD l
  | _ => none
/-- x in c, by data -/
def inB (d c : D) : Option Bool := match c with
  | .set l => (intsOf d).map fun k => l.contains k
  | .lst ds => if (okF 12 d && ds.all (okF 12)) = true then some (ds.any fun z => eqF 12 z d) else none
  | .tup ds => if (okF 12 d && ds.all (okF 12)) = true then some (ds.any fun z => eqF 12 z d) else none
  | _ => none
def inD (d c : D) : Option D := (inB d c).map .bl
def notInD (d c : D) : Option D := (inB d c).map fun b => .bl (!b)
theorem any_eqv {d : D} {p : PyData} (hd : okF 12 d = true) (hp : toP d = some p) : ∀ {ds : List D} {ps : List PyData}, ds.all (okF 12) = true → toPL ds = some ps → (ds.any fun z => eqF 12 z d) = ps.any fun z => PyData.eqv z p
  | [], ps, _, e => by
    have e' := Option.some.inj e
    subst e'
    rfl
  | z :: ds, ps, h, e => by
    obtain ⟨q, qs, e1, e2, rfl⟩ := toPL_cons e
    obtain ⟨h1, h2⟩ := Bool.and_eq_true_iff.mp h
    rw [List.any_cons, List.any_cons, any_eqv hd hp h2 e2, eqF_eqv 12 z d q p h1 hd e1 hp]
section
variable {X : Cx}
theorem pu_eq : Pure2 X (rEqD X.K) eqD := by
  intro B H x y d e z Q _ r1 r2 h q
  obtain ⟨b, e1, rfl⟩ := Option.map_eq_some_iff.mp h
  obtain ⟨p, p', f1, g1, f2, g2, rfl⟩ := eqB_some e1
  exact ⟨p, p', wk_dp f1 r1, wk_dp g1 r2, f2, g2, q H _ (Same.refl H) rfl⟩
theorem pu_ne : Pure2 X (rNeD X.K) neD := by
  intro B H x y d e z Q _ r1 r2 h q
  obtain ⟨b, e1, rfl⟩ := Option.map_eq_some_iff.mp h
  obtain ⟨p, p', f1, g1, f2, g2, rfl⟩ := eqB_some e1
  exact ⟨p, p', wk_dp f1 r1, wk_dp g1 r2, f2, g2, q H _ (Same.refl H) rfl⟩

/-! ### in -/
def rInT (K : PySem.W.Frag) : R2 := fun x y H Q => ∃ d ds, Dp K H x d ∧ Dp K H y (.tuple ds) ∧ SeqAt.shaped d = true ∧ SeqAt.shaped (.tuple ds) = true ∧ Q (.bl (ds.any fun z => PyData.eqv z d)) H
def rNotInT (K : PySem.W.Frag) : R2 := fun x y H Q => ∃ d ds, Dp K H x d ∧ Dp K H y (.tuple ds) ∧ SeqAt.shaped d = true ∧ SeqAt.shaped (.tuple ds) = true ∧ Q (.bl (!ds.any fun z => PyData.eqv z d)) H
theorem room_shp {A : Around} {xs : List PyData} {d : PyData} (hd : SeqAt.shaped d = true) (hu : A.units + 65 < cLine) : A.units + 1 + min (PyData.depthAll xs) d.depth < cLine := by
  have h1 := SeqAt.depth_of_shaped hd
  have h2 : min (PyData.depthAll xs) d.depth ≤ d.depth := Nat.min_le_right _ _
  omega
theorem op_inT (hu : X.A.units + 65 < cLine) : OpR X (compareOp .In) (rInT X.K) := by
  intro pins s σ H x y v u Q I rx ry h
  obtain ⟨d, ds, hd, he, sd, se, q⟩ := h
  obtain ⟨as, r1⟩ := Dp.reads I d x v hd rx
  obtain ⟨bs, r2⟩ := Dp.reads I (.tuple ds) y u he ry
  exact SeqAt.in_tuple_reads r2 r1 (SeqAt.canLay_of_shaped se) (SeqAt.canLay_of_shaped sd) (room_shp sd hu) ⟨.bl _, H, I, rfl, q⟩
theorem op_notInT (hu : X.A.units + 65 < cLine) : OpR X (compareOp .NotIn) (rNotInT X.K) := by
  intro pins s σ H x y v u Q I rx ry h
  obtain ⟨d, ds, hd, he, sd, se, q⟩ := h
  obtain ⟨as, r1⟩ := Dp.reads I d x v hd rx
  obtain ⟨bs, r2⟩ := Dp.reads I (.tuple ds) y u he ry
  exact SeqAt.notIn_tuple_reads r2 r1 (SeqAt.canLay_of_shaped se) (SeqAt.canLay_of_shaped sd) (room_shp sd hu) ⟨.bl _, H, I, rfl, q⟩

/-! ### ints -/
def i2 (g : Int → Int → Option D) (d e : D) : Option D := match d, e with
  | .int i, .int j => g i j
  | _, _ => none
theorem i2_some {g : Int → Int → Option D} {d e z : D} (h : i2 g d e = some z) : ∃ i j, d = .int i ∧ e = .int j ∧ g i j = some z := by
  cases d with
  | int i =>
    cases e with
    | int j => exact ⟨i, j, rfl, rfl, h⟩
    | _ => cases h
  | _ => cases h
theorem pu_i0 {g : Int → Int → V} {f : Int → Int → D} (hr : ∀ {T : Tx} {B : Addr → Prop} {H : Hp} i j, Rel T B H (f i j) (g i j)) : Pure2 X (rI0 g) (i2 fun i j => some (f i j)) := by
  intro B H x y d e z Q _ r1 r2 h q
  obtain ⟨i, j, rfl, rfl, e1⟩ := i2_some h
  have e2 := Option.some.inj e1
  subst e2
  exact ⟨i, j, r1, r2, q H _ (Same.refl H) (hr i j)⟩
theorem pu_iC {C : Int → Int → Prop} {c : Int → Int → Bool} {g : Int → Int → V} {f : Int → Int → D} (hc : ∀ i j, c i j = true → C i j) (hr : ∀ {T : Tx} {B : Addr → Prop} {H : Hp} i j, Rel T B H (f i j) (g i j)) : Pure2 X (rI C g) (i2 fun i j => if c i j = true then some (f i j) else none) := by
  intro B H x y d e z Q _ r1 r2 h q
  obtain ⟨i, j, rfl, rfl, e1⟩ := i2_some h
  obtain ⟨e2, e3⟩ := ite_some e1
  subst e3
  exact ⟨i, j, r1, r2, hc i j e2, q H _ (Same.refl H) (hr i j)⟩
def subD := i2 fun i j => some (.int (i - j))
def ltI := i2 fun i j => some (.bl (decide (i < j)))
def leI := i2 fun i j => some (.bl (decide (i ≤ j)))
def gtI := i2 fun i j => some (.bl (decide (j < i)))
def geI := i2 fun i j => some (.bl (decide (j ≤ i)))
theorem pu_sub : Pure2 X (rI0 fun i j => .int (i - j)) subD := pu_i0 (g := fun i j => .int (i - j)) (f := fun i j => .int (i - j)) fun _ _ => rfl
theorem pu_ltI : Pure2 X (rI0 fun i j => .bl (decide (i < j))) ltI := pu_i0 (g := fun i j => .bl (decide (i < j))) (f := fun i j => .bl (decide (i < j))) fun _ _ => rfl
theorem pu_leI : Pure2 X (rI0 fun i j => .bl (decide (i ≤ j))) leI := pu_i0 (g := fun i j => .bl (decide (i ≤ j))) (f := fun i j => .bl (decide (i ≤ j))) fun _ _ => rfl
theorem pu_gtI : Pure2 X (rI0 fun i j => .bl (decide (j < i))) gtI := pu_i0 (g := fun i j => .bl (decide (j < i))) (f := fun i j => .bl (decide (j < i))) fun _ _ => rfl
theorem pu_geI : Pure2 X (rI0 fun i j => .bl (decide (j ≤ i))) geI := pu_i0 (g := fun i j => .bl (decide (j ≤ i))) (f := fun i j => .bl (decide (j ≤ i))) fun _ _ => rfl
def mulC (i j : Int) : Bool := Nat.blt i.natAbs 18446744073709551616 || Nat.blt j.natAbs 18446744073709551616
theorem mulC_ok (i j : Int) (h : mulC i j = true) : CMul i j := by
  unfold mulC at h
  rcases Bool.or_eq_true_iff.mp h with h | h
  · exact .inl (by have := Nat.lt_of_lt_of_le (Nat.le_of_ble_eq_true h) (Nat.le_refl _); omega)
  · exact .inr (by have := Nat.lt_of_lt_of_le (Nat.le_of_ble_eq_true h) (Nat.le_refl _); omega)
def mulI := i2 fun i j => if mulC i j = true then some (.int (i * j)) else none
theorem pu_mulI : Pure2 X (rI CMul fun i j => .int (i * j)) mulI := pu_iC (g := fun i j => .int (i * j)) (f := fun i j => .int (i * j)) mulC_ok fun _ _ => rfl
def divC (i j : Int) : Bool := decide (j ≠ 0) && Nat.blt j.natAbs 1073741824
theorem divC_ok (i j : Int) (h : divC i j = true) : CDivN i j := by
  obtain ⟨h1, h2⟩ := Bool.and_eq_true_iff.mp h
  exact ⟨of_decide_eq_true h1, Nat.le_of_ble_eq_true h2⟩
def fdivD := i2 fun i j => if divC i j = true then some (.int (i.fdiv j)) else none
theorem pu_fdiv : Pure2 X (rI CDivN fun i j => .int (i.fdiv j)) fdivD := pu_iC (g := fun i j => .int (i.fdiv j)) (f := fun i j => .int (i.fdiv j)) divC_ok fun _ _ => rfl
def modC (i j : Int) : Bool := decide (j ≠ 0)
def modD := i2 fun i j => if modC i j = true then some (.int (i.fmod j)) else none
theorem pu_mod : Pure2 X (rI (fun _ j => j ≠ 0) fun i j => .int (i.fmod j)) modD := pu_iC (g := fun i j => .int (i.fmod j)) (f := fun i j => .int (i.fmod j)) (fun _ _ h => of_decide_eq_true h) fun _ _ => rfl
def powC (i j : Int) : Bool := decide (0 ≤ j) && (decide (j ≤ 1000) && Nat.blt i.natAbs 18446744073709551616)
theorem powC_ok (i j : Int) (h : powC i j = true) : CPow i j := by
  obtain ⟨h1, h2⟩ := Bool.and_eq_true_iff.mp h
  obtain ⟨h3, h4⟩ := Bool.and_eq_true_iff.mp h2
  have h5 := of_decide_eq_true h3
  exact ⟨of_decide_eq_true h1, by omega, Nat.le_of_ble_eq_true h4⟩
def powD := i2 fun i j => if powC i j = true then some (.int (i ^ j.toNat)) else none
theorem pu_pow : Pure2 X (rI CPow fun i j => .int (i ^ j.toNat)) powD := pu_iC (g := fun i j => .int (i ^ j.toNat)) (f := fun i j => .int (i ^ j.toNat)) powC_ok fun _ _ => rfl
def negD : D → Option D
  | .int i => some (.int (-i))
  | _ => none
theorem pu_neg : Pure1 X (rU fun i => .int (-i)) negD := by
  intro B H x d z Q _ r h q
  cases d with
  | int i =>
    have e := Option.some.inj h
    subst e
    exact ⟨i, r, q H _ (Same.refl H) rfl⟩
  | _ => cases h

/-! ### None -/
def isN : D → Option D
  | .non => some (.bl true)
  | _ => some (.bl false)
theorem rel_non {T : Tx} {B : Addr → Prop} {H : Hp} {d : D} {v : V} (r : Wk T B H d v) : isN d = some (.bl (decide (v = .non))) := by
  cases d with
  | non => rw [show v = .non from r]; rfl
  | bl b => rw [show v = .bl b from r]; rfl
  | int b => rw [show v = .int b from r]; rfl
  | str b => rw [show v = .str (nm b) from r]; rfl
  | tup l => obtain ⟨a, _, rfl, _⟩ := r; rfl
  | lst l => obtain ⟨a, _, rfl, _⟩ := r; rfl
  | obj c n d => obtain ⟨a, _, _, rfl, _⟩ := r; rfl
  | set l => obtain ⟨a, _, rfl, _⟩ := r; rfl
  | cls c => rw [show v = .ref _ from r]; rfl
  | scr l => obtain ⟨a, rfl, _⟩ := r; rfl
  | xc _ _ _ => obtain ⟨a, _, _, _, rfl, _⟩ := r; rfl
  | dic _ _ _ => obtain ⟨a, _, rfl, _⟩ := r; rfl
end

/-! ### sums of texts of rules: + of ints, tuples, lists -/
section
variable {X : Cx}
def addD (d e : D) : Option D := match d, e with
  | .int i, .int j => some (.int (i + j))
  | .tup a, .tup b => if small (a.length + b.length) = true then some (.tup (a ++ b)) else none
  | .lst a, .lst b => if small (a.length + b.length) = true then some (.lst (a ++ b)) else none
  | _, _ => none
def rAddA (K : PySem.W.Frag) : R2 := fun x y H Q => ((rI0 fun i j => .int (i + j)) x y H Q ∨ rCatA K x y H Q) ∨ rCat x y H Q
theorem op_addA : OpR X (binaryOp .Add) (rAddA X.K) := (op_add.or op_catA).or op_cat
theorem pu_add : Pure2 X (rAddA X.K) addD := by
  intro B H x y d e z Q w r1 r2 h q
  cases d with
  | int i =>
    cases e with
    | int j =>
      have e := Option.some.inj h
      subst e
      exact .inl (.inl ⟨i, j, r1, r2, q H _ (Same.refl H) rfl⟩)
    | _ => cases h
  | tup l =>
    cases e with
    | tup l' =>
      obtain ⟨e1, rfl⟩ := ite_some h
      obtain ⟨a, vs, rfl, a1, a2⟩ := r1
      obtain ⟨b, ws, rfl, b1, b2⟩ := r2
      have l1 := a2.length
      have l2 := b2.length
      refine .inl (.inr ⟨a, b, vs, ws, rfl, rfl, a1.sq, b1.sq, by rw [← l1, ← l2]; exact small_line e1, fun e0 => ?_, fun _ e0 => ?_, fun _ _ p hp => ?_⟩)
      · subst e0
        have e2 : l = [] := List.length_eq_zero_iff.mp l1
        subst e2
        exact q H _ (Same.refl H) ⟨b, ws, rfl, b1, b2⟩
      · subst e0
        have e2 : l' = [] := List.length_eq_zero_iff.mp l2
        subst e2
        exact q H _ (Same.refl H) ⟨a, vs, rfl, a1, by rw [List.append_nil]; exact a2⟩
      · exact q _ _ (Same.upd hp) ⟨p, vs ++ ws, rfl, .inl ⟨upd_same, fresh_bar w hp⟩, RelL.ext (.same (Same.upd hp)) _ (a2.append b2)⟩
    | _ => cases h
  | lst l =>
    cases e with
    | lst l' =>
      obtain ⟨e1, rfl⟩ := ite_some h
      obtain ⟨a, vs, rfl, a1, a2⟩ := r1
      obtain ⟨b, ws, rfl, b1, b2⟩ := r2
      have l1 := a2.length
      have l2 := b2.length
      exact .inr ⟨a, b, vs, ws, rfl, rfl, a1, b1, by rw [← l1, ← l2]; exact small_line e1, fun p hp => q _ _ (Same.upd hp) ⟨p, vs ++ ws, rfl, upd_same, fresh_bar w hp, RelL.ext (.same (Same.upd hp)) _ (a2.append b2)⟩⟩
    | _ => cases h
  | _ => cases h
/-- + of lists: a new list -/
def catD (d e : D) : Option D := match d, e with
  | .lst a, .lst b => if small (a.length + b.length) = true then some (.lst (a ++ b)) else none
  | _, _ => none
theorem pu_cat : Pure2F X rCat catD := by
  intro B H x y d e z Q w r1 r2 h q
  cases d with
  | lst l =>
    cases e with
    | lst l' =>
      obtain ⟨e1, rfl⟩ := ite_some h
      obtain ⟨a, vs, rfl, a1, a2⟩ := r1
      obtain ⟨b, ws, rfl, b1, b2⟩ := r2
      have l1 := a2.length
      have l2 := b2.length
      exact ⟨a, b, vs, ws, rfl, rfl, a1, b1, by rw [← l1, ← l2]; exact small_line e1, fun p hp => q p _ _ rfl hp (a2.append b2)⟩
    | _ => cases h
  | _ => cases h
/-- * of ints, of a list and an int -/
def repL (l : List D) (n : Nat) : List D := (List.replicate n l).flatten
def mulD (d e : D) : Option D := match d, e with
  | .int i, .int j => if mulC i j = true then some (.int (i * j)) else none
  | .lst l, .int k => if (decide (-1000000 < k) && decide (k < 1000000) && small (l.length * k.toNat)) = true then some (.lst (repL l k.toNat)) else none
  | _, _ => none

/-! ### items, slices -/
def listOf : D → Option (List D)
  | .tup l => some l
  | .lst l => some l
  | .scr l => some (l.map .int)
  | _ => none
theorem atI_rel {T : Tx} {B : Addr → Prop} {H : Hp} {ds : List D} {vs : List V} {i : Int} {d : D} (r : RelL T B H ds vs) (h : atI ds i = some d) : ∃ v, atI vs i = some v ∧ Rel T B H d v := by
  unfold atI at h ⊢
  rw [← r.length]
  obtain ⟨j, e1, e2⟩ := Option.bind_eq_some_iff.mp h
  obtain ⟨v, e3, e4⟩ := r.get e2
  exact ⟨v, by rw [e1]; exact e3, e4⟩
theorem relL_ints {T : Tx} {B : Addr → Prop} {H : Hp} : ∀ l : List Int, RelL T B H (l.map .int) (l.map V.int)
  | [] => trivial
  | _ :: l => ⟨rfl, relL_ints l⟩
theorem seq_of {B : Addr → Prop} {H : Hp} {d : D} {v : V} {l : List D} (r : Wk (tx X) B H d v) (h : listOf d = some l) : ∃ a vs, v = .ref a ∧ (SqL X.K H a vs ∨ SqT X.K H a vs) ∧ RelL (tx X) B H l vs := by
  cases d with
  | tup l' =>
    have e := Option.some.inj h
    subst e
    obtain ⟨a, vs, rfl, a1, a2⟩ := r
    exact ⟨a, vs, rfl, .inr a1.sq, a2⟩
  | lst l' =>
    have e := Option.some.inj h
    subst e
    obtain ⟨a, vs, rfl, a1, a2⟩ := r
    exact ⟨a, vs, rfl, .inl (SqL.of a1), a2⟩
  | scr l' =>
    have e := Option.some.inj h
    subst e
    obtain ⟨a, rfl, a1⟩ := r
    exact ⟨a, _, rfl, .inl a1.sq, relL_ints l'⟩
  | _ => cases h
def ixD (d e : D) : Option D := match e with
  | .int i => (listOf d).bind fun l => atI l i
  | _ => none
theorem pu_ix : Pure2 X (rIx X.K) ixD := by
  intro B H x y d e z Q w r1 r2 h q
  cases e with
  | int i =>
    obtain ⟨l, e1, e2⟩ := Option.bind_eq_some_iff.mp h
    obtain ⟨a, vs, rfl, s, rl⟩ := seq_of r1 e1
    obtain ⟨v, e3, e4⟩ := atI_rel rl e2
    rcases s with s | s
    · exact .inl ⟨a, vs, i, v, rfl, r2, s, e3, q H v (Same.refl H) e4⟩
    · exact .inr (.inl ⟨a, vs, i, v, rfl, r2, s, e3, q H v (Same.refl H) e4⟩)
  | _ => cases h
section
variable {Wx : WX} {ms : Ms} {a b : Expr} {fa fb : M D} {pos : Pos}
theorem de_ix (ha : DE X Wx ms a fa) (hb : DK X Wx ms b fb) (hs : PlainIx b := by exact fun _ _ => rfl) : DE X Wx ms (.Subscript a b pos) (op2 ixD fa fb) := fun B W env σ H Q o h =>
  PE.tm (pe_ix ix_seq pe_tm pe_tm hs) (tm_op2 pu_ix ha hb o h)
end

/-! ### built-ins -/
def lenD (d : D) : Option D := (listOf d).map fun l => .int l.length
theorem relL1 {T : Tx} {B : Addr → Prop} {H : Hp} {d : D} {xs : List V} (r : RelL T B H [d] xs) : ∃ x, xs = [x] ∧ Rel T B H d x := by
  match xs, r with
  | [x], r => exact ⟨x, rfl, r.1⟩
  | [], r => exact r.elim
  | _ :: _ :: _, r => exact r.2.elim
theorem relL2 {T : Tx} {B : Addr → Prop} {H : Hp} {d e : D} {xs : List V} (r : RelL T B H [d, e] xs) : ∃ x y, xs = [x, y] ∧ Rel T B H d x ∧ Rel T B H e y := by
  match xs, r with
  | x :: ys, r =>
    obtain ⟨y, rfl, r2⟩ := relL1 r.2
    exact ⟨x, y, rfl, r.1, r2⟩
  | [], r => exact r.elim
theorem pu_len : Pure1 X (r1N fun xs H Q => ∃ p ys, xs = [.ref p] ∧ (SqL X.K H p ys ∨ SqT X.K H p ys) ∧ Q (.int ys.length) H) lenD := by
  intro B H x d z Q w rx h q
  obtain ⟨l, e1, rfl⟩ := Option.map_eq_some_iff.mp h
  obtain ⟨a, vs, rfl, s, rl⟩ := seq_of rx e1
  exact ⟨a, vs, rfl, s, q H _ (Same.refl H) (by rw [← rl.length]; rfl)⟩
def tupleD : D → Option D
  | .lst l => some (.tup l)
  | .tup l => some (.tup l)
  | _ => none
theorem pu_tuple : Pure1 X (r1N fun xs H Q => ∃ p ys, xs = [.ref p] ∧ ((SqL X.K H p ys ∧ ∀ l, H l = none → Q (.ref l) (upd H l (.tup ys))) ∨ (SqT X.K H p ys ∧ Q (.ref p) H))) tupleD := by
  intro B H x d z Q w rx h q
  cases d with
  | lst l =>
    have e := Option.some.inj h
    subst e
    obtain ⟨a, vs, rfl, a1, a2⟩ := rx
    exact ⟨a, vs, rfl, .inl ⟨SqL.of a1, fun p hp => q _ _ (Same.upd hp) ⟨p, vs, rfl, .inl ⟨upd_same, fresh_bar w hp⟩, RelL.ext (.same (Same.upd hp)) _ a2⟩⟩⟩
  | tup l =>
    have e := Option.some.inj h
    subst e
    obtain ⟨a, vs, rfl, a1, a2⟩ := rx
    exact ⟨a, vs, rfl, .inr ⟨a1.sq, q _ _ (Same.refl H) ⟨a, vs, rfl, a1, a2⟩⟩⟩
  | _ => cases h
def listD : D → Option D
  | .lst l => some (.lst l)
  | .tup l => some (.lst l)
  | _ => none
theorem pu_list : Pure1F X (r1N fun xs H Q => ∃ p ys, xs = [.ref p] ∧ (SqL X.K H p ys ∨ SqT X.K H p ys) ∧ ∀ l, H l = none → Q (.ref l) (upd H l (.lst ys))) listD := by
  intro B H x d z Q w rx h q
  cases d with
  | lst l =>
    have e := Option.some.inj h
    subst e
    obtain ⟨a, vs, rfl, a1, a2⟩ := rx
    exact ⟨a, vs, rfl, .inl (SqL.of a1), fun p hp => q p _ _ rfl hp a2⟩
  | tup l =>
    have e := Option.some.inj h
    subst e
    obtain ⟨a, vs, rfl, a1, a2⟩ := rx
    exact ⟨a, vs, rfl, .inr a1.sq, fun p hp => q p _ _ rfl hp a2⟩
  | _ => cases h
def intD : D → Option D
  | .int i => some (.int i)
  | .bl b => some (.int (if b then 1 else 0))
  | _ => none
theorem pu_int : Pure1 X (r1N fun xs H Q => (∃ i, xs = [.int i] ∧ Q (.int i) H) ∨ ∃ k, xs = [.bl k] ∧ Q (.int (if k then 1 else 0)) H) intD := by
  intro B H x d z Q w rx h q
  cases d with
  | int i =>
    have e := Option.some.inj h
    subst e
    exact .inl ⟨i, by rw [show x = .int i from rx], q H _ (Same.refl H) rfl⟩
  | bl b =>
    have e := Option.some.inj h
    subst e
    exact .inr ⟨b, by rw [show x = .bl b from rx], q H _ (Same.refl H) rfl⟩
  | _ => cases h
def absD : D → Option D
  | .int i => some (.int (if i < 0 then -i else i))
  | _ => none
theorem pu_abs : Pure1 X (r1N fun xs H Q => ∃ i, xs = [.int i] ∧ Q (.int (if i < 0 then -i else i)) H) absD := by
  intro B H x d z Q w rx h q
  cases d with
  | int i =>
    have e := Option.some.inj h
    subst e
    exact ⟨i, by rw [show x = .int i from rx], q H _ (Same.refl H) rfl⟩
  | _ => cases h
def max2D : List D → Option D
  | [.int i, .int j] => some (.int (if j > i then j else i))
  | _ => none
def min2D : List D → Option D
  | [.int i, .int j] => some (.int (if j < i then j else i))
  | _ => none
theorem pu_max2 : PureN X (fun xs H Q => ∃ i j, xs = [.int i, .int j] ∧ Q (.int (if j > i then j else i)) H) max2D := by
  intro B H xs ds z Q w r h q
  match ds, h with
  | [.int i, .int j], h =>
    obtain ⟨x, y, rfl, rx, ry⟩ := relL2 r
    have e := Option.some.inj h
    subst e
    exact ⟨i, j, by rw [show x = .int i from rx, show y = .int j from ry], q H _ (Same.refl H) rfl⟩
theorem pu_min2 : PureN X (fun xs H Q => ∃ i j, xs = [.int i, .int j] ∧ Q (.int (if j < i then j else i)) H) min2D := by
  intro B H xs ds z Q w r h q
  match ds, h with
  | [.int i, .int j], h =>
    obtain ⟨x, y, rfl, rx, ry⟩ := relL2 r
    have e := Option.some.inj h
    subst e
    exact ⟨i, j, by rw [show x = .int i from rx, show y = .int j from ry], q H _ (Same.refl H) rfl⟩
theorem intsD_rel {T : Tx} {B : Addr → Prop} {H : Hp} : ∀ {ds : List D} {ns : List Int} {vs : List V}, intsD ds = some ns → RelL T B H ds vs → vs = ns.map V.int ∧ ds = ns.map .int
  | [], ns, [], e, _ => by
    have e' := Option.some.inj e
    subst e'
    exact ⟨rfl, rfl⟩
  | [], _, _ :: _, _, r => r.elim
  | _ :: _, _, [], _, r => r.elim
  | .int i :: l, ns, v :: vs, e, r => by
    obtain ⟨r', e1, rfl⟩ := Option.map_eq_some_iff.mp e
    obtain ⟨e2, e3⟩ := intsD_rel e1 r.2
    exact ⟨by rw [show v = .int i from r.1, e2]; rfl, by rw [e3]; rfl⟩
def sumD : D → Option D
  | .lst l => (intsD l).map fun ns => .int ns.sum
  | _ => none
theorem pu_sum : Pure1 X (r1N (rSum X.K)) sumD := by
  intro B H x d z Q w rx h q
  cases d with
  | lst l =>
    obtain ⟨ns, e1, rfl⟩ := Option.map_eq_some_iff.mp h
    obtain ⟨a, vs, rfl, a1, a2⟩ := rx
    obtain ⟨e2, _⟩ := intsD_rel e1 a2
    subst e2
    exact ⟨a, ns, rfl, SqL.of a1, q H _ (Same.refl H) rfl⟩
  | _ => cases h
end
end DL

set_option Elab.async false
set_option linter.all false
set_option maxRecDepth 100000
set_option maxHeartbeats 4000000
namespace DL
open PySem PySem.Spec L2

/-! ### statements -/
inductive Fl where
  | nx | rt (d : D) | bk | ct
@[irreducible] def tmS (X : Cx) (st : Stmt) : TS := fun D σ H => ∀ pins s, Inv X pins σ H s → wpAny (model X.prog X.w) X.A (exec st X.env) (SP X pins D) X.xe s
theorem ps_tm {X : Cx} {st : Stmt} : PS X st (tmS X st) := ⟨fun pins s _ _ _ I h => by unfold tmS at h; exact h pins s I⟩
theorem PS.tm {X : Cx} {st : Stmt} {t : TS} (h : PS X st t) {σ : St} {H : Hp} {D : Ends} (q : t D σ H) : tmS X st D σ H := by unfold tmS; exact fun pins s I => h.run pins s σ H D I q
@[irreducible] def tmSs (X : Cx) (st : List Stmt) : TS := fun D σ H => ∀ pins s, Inv X pins σ H s → wpAny (model X.prog X.w) X.A (execs st X.env) (SP X pins D) X.xe s
theorem pss_tm {X : Cx} {st : List Stmt} : PSs X st (tmSs X st) := ⟨fun pins s _ _ _ I h => by unfold tmSs at h; exact h pins s I⟩
theorem PSs.tm {X : Cx} {st : List Stmt} {t : TS} (h : PSs X st t) {σ : St} {H : Hp} {D : Ends} (q : t D σ H) : tmSs X st D σ H := by unfold tmSs; exact fun pins s I => h.run pins s σ H D I q

def PoS (T : Tx) (Wx : WX) (ms : Ms) (k : Rk T D V) (B : Br) (W : Addr → Prop) (H : Hp) (r : R Fl) (Dn : Ends) : Prop := match r with
  | .ok .nx env' => ∀ W' H' σ', Nxt W H W' H' → Ok T ms B W' env' σ' H' → Dn.nx σ' H'
  | .ok (.rt d) env' => ∀ W' H' σ' v, Nxt W H W' H' → Ok T ms B W' env' σ' H' → k.r σ' env' H B W' H' d v → Dn.rt v H'
  | .ok .bk env' => ∀ W' H' σ', Nxt W H W' H' → Ok T ms B W' env' σ' H' → Dn.bk σ' H'
  | .ok .ct env' => ∀ W' H' σ', Nxt W H W' H' → Ok T ms B W' env' σ' H' → Dn.ct σ' H'
  | .err c ns ds env' => ∀ W' H' σ' dx vs, Nxt W H W' H' → Ok T ms B W' env' σ' H' → H dx = none → H' dx = some (.xd ((nms ns).zip vs)) → ns.length = vs.length → RelL T (Bar B W') H' ds vs → Wx (.ref (He.ga T.K (nm c))) (some dx) σ' H'
  | .stuck => False
section
variable {T : Tx} {Wx : WX} {ms : Ms} {kr : Rk T D V} {B : Br} {W : Addr → Prop} {env : En} {σ : St} {H : Hp} {Dn : Ends}
theorem PoS.step {r : R Fl} {W1 : Addr → Prop} {H1 : Hp} (h : PoS T Wx ms kr B W H r Dn) (n : Nxt W H W1 H1) : PoS T Wx ms kr B W1 H1 r Dn := by
  cases r with
  | ok a env' =>
    cases a with
    | nx => exact fun W' H' σ' n' o => h W' H' σ' (n.trans n') o
    | rt d => exact fun W' H' σ' v n' o z => h W' H' σ' v (n.trans n') o (kr.mono n.back z)
    | bk => exact fun W' H' σ' n' o => h W' H' σ' (n.trans n') o
    | ct => exact fun W' H' σ' n' o => h W' H' σ' (n.trans n') o
  | err c ns ds env' => exact fun W' H' σ' dx vs n' o z1 z2 z3 z4 => h W' H' σ' dx vs (n.trans n') o (n.back _ z1) z2 z3 z4
  | stuck => exact h
/-- an expression, then something -/
theorem PoS.cont {α β : Type} {k1 : Rk T α β} {r : R α} {f : α → En → R Fl} {Q1 : β → Hp → Prop} (h : PoS T Wx ms kr B W H (r.bind f) Dn)
    (g : ∀ a env' W' H' v, Nxt W H W' H' → Ok T ms B W' env' σ H' → k1.r σ env' H B W' H' a v → PoS T Wx ms kr B W' H' (f a env') Dn → Q1 v H') : Po T Wx ms B W σ H k1 r Q1 := by
  cases r with
  | ok a env' => exact fun W' H' v n o z => g a env' W' H' v n o z (PoS.step (r := f a env') h n)
  | err c ns ds env' => exact fun W' H' dx vs n o z1 z2 z3 z4 => h W' H' σ dx vs n o z1 z2 z3 z4
  | stuck => exact h
end

section
variable (X : Cx) (Wx : WX) (ms : Ms) (kr : Rk (tx X) D V)
def DS (st : Stmt) (f : M Fl) : Prop := ∀ B W env σ H Dn, Ok (tx X) ms B W env σ H → PoS (tx X) Wx ms kr B W H (f env) Dn → tmS X st Dn σ H
def DSs (st : List Stmt) (f : M Fl) : Prop := ∀ B W env σ H Dn, Ok (tx X) ms B W env σ H → PoS (tx X) Wx ms kr B W H (f env) Dn → tmSs X st Dn σ H
end
def sSeq (f g : M Fl) : M Fl := fun env => (f env).bind fun fl env1 => match fl with
  | .nx => g env1
  | fl => .ok fl env1
def sNx : M Fl := fun env => .ok .nx env

section
variable {X : Cx} {Wx : WX} {ms : Ms} {kr : Rk (tx X) D V} {st : Stmt} {sts : List Stmt} {f g : M Fl} {pos : Pos}
theorem dss_nil : DSs X Wx ms kr [] sNx := fun B W env σ H Dn o h => PSs.tm pss_nil (h W H σ (Nxt.refl W H) o)
theorem PoS.seq {B : Br} {W : Addr → Prop} {H : Hp} {r : R Fl} {k : M Fl} {Dn : Ends} {t : TS}
    (h : PoS (tx X) Wx ms kr B W H (r.bind fun fl env1 => match fl with | .nx => k env1 | fl => .ok fl env1) Dn)
    (hg : ∀ env1 W1 H1 σ1, Nxt W H W1 H1 → Ok (tx X) ms B W1 env1 σ1 H1 → PoS (tx X) Wx ms kr B W1 H1 (k env1) Dn → t Dn σ1 H1) : PoS (tx X) Wx ms kr B W H r { Dn with nx := t Dn } := by
  cases r with
  | ok a env' =>
    cases a with
    | nx => exact fun W' H' σ' n o => hg env' W' H' σ' n o (PoS.step (r := k env') h n)
    | rt d => exact h
    | bk => exact h
    | ct => exact h
  | err c ns ds env' => exact h
  | stuck => exact h
theorem dss_cons (h1 : DS X Wx ms kr st f) (h2 : DSs X Wx ms kr sts g) : DSs X Wx ms kr (st :: sts) (sSeq f g) := fun B W env σ H Dn o h =>
  PSs.tm (pss_cons ps_tm pss_tm) (h1 _ _ _ _ _ _ o (PoS.seq (t := tmSs X sts) h fun env1 W1 H1 σ1 n1 o1 p => h2 _ _ _ _ _ _ o1 p))
theorem dss_one (h1 : DS X Wx ms kr st f) : DSs X Wx ms kr [st] f := fun B W env σ H Dn o h => PSs.tm (pss_one ps_tm) (h1 _ _ _ _ _ _ o h)
theorem ds_pass : DS X Wx ms kr (.Pass pos) sNx := fun B W env σ H Dn o h => PS.tm ps_pass (h W H σ (Nxt.refl W H) o)
theorem ds_break : DS X Wx ms kr (.Break pos) (fun env => .ok .bk env) := fun B W env σ H Dn o h => PS.tm ps_break (h W H σ (Nxt.refl W H) o)
theorem ds_cont : DS X Wx ms kr (.Continue pos) (fun env => .ok .ct env) := fun B W env σ H Dn o h => PS.tm ps_continue (h W H σ (Nxt.refl W H) o)
theorem ds_stuck : DS X Wx ms kr st (fun _ => .stuck) := fun B W env σ H Dn o h => h.elim
theorem dss_stuck : DSs X Wx ms kr sts (fun _ => .stuck) := fun B W env σ H Dn o h => h.elim
def sIf (c : M Bool) (f g : M Fl) : M Fl := fun env => (c env).bind fun b env1 => if b = true then f env1 else g env1
theorem ds_if {c : Expr} {a b : List Stmt} {gc : M Bool} (hc : DT X Wx ms c gc) (ha : DSs X Wx ms kr a f) (hb : DSs X Wx ms kr b g) : DS X Wx ms kr (.If c a b pos) (sIf gc f g) := fun B W env σ H Dn o h =>
  PS.tm (ps_if pt_tm pss_tm pss_tm) (hc _ _ _ _ _ _ o (PoS.cont (k1 := rkB (tx X)) h fun c env1 W1 H1 x n1 o1 r1 h1 => by
    have e : x = c := r1
    subst e
    cases x with
    | true => exact iteT (ha _ _ _ _ _ _ o1 h1)
    | false => exact iteF (hb _ _ _ _ _ _ o1 h1)))
def sExpr (f : M D) : M Fl := fun env => (f env).bind fun _ env1 => .ok .nx env1
theorem ds_expr {e : Expr} {fe : M D} (he : DE X Wx ms e fe) (hs : swapsWith e none pos.line X.env = pure false := by rfl) : DS X Wx ms kr (.Expr e pos) (sExpr fe) := fun B W env σ H Dn o h =>
  PS.tm (ps_expr pe_tm hs) (he _ _ _ _ _ _ o (PoS.cont (k1 := rkD (tx X)) h fun d env1 W1 H1 x n1 o1 r1 h1 => h1 W1 H1 σ (Nxt.refl W1 H1) o1))
def sRet (f : M D) : M Fl := fun env => (f env).bind fun d env1 => .ok (.rt d) env1
theorem ds_ret {e : Expr} {fe : M D} (he : DE X Wx ms e fe) : DS X Wx ms (rkD (tx X)) (.Return (some e) pos) (sRet fe) := fun B W env σ H Dn o h =>
  PS.tm (ps_ret pe_tm) (he _ _ _ _ _ _ o (PoS.cont (k1 := rkD (tx X)) h fun d env1 W1 H1 x n1 o1 r1 h1 => h1 W1 H1 σ x (Nxt.refl W1 H1) o1 r1))
theorem Fresh.ret {T : Tx} {B : Br} {W : Addr → Prop} {H0 H : Hp} {σ : St} {env : En} {d : D} {v : V} (o : Ok T ms B W env σ H) (f : Fresh T ms σ env H0 B W H d v) (H1 : Hp) : (rkR T).r σ env H1 B W H d v := by
  obtain ⟨a, vs, l, rfl, rfl, hw, h0, hl, rl, hf⟩ := f
  refine ⟨a, vs, l, rfl, rfl, hw, hl, rl, fun i w hx e => ?_⟩
  obtain ⟨_, e2, e3, d, e4⟩ := o.fx i w hx
  exact hf i d e2 e4 (by rw [e3, e])
theorem ds_retF {e : Expr} {fe : M D} (he : DF X Wx ms e fe) : DS X Wx ms (rkR (tx X)) (.Return (some e) pos) (sRet fe) := fun B W env σ H Dn o h =>
  PS.tm (ps_ret pe_tm) (he _ _ _ _ _ _ o (PoS.cont (k1 := rkF (tx X) ms) h fun d env1 W1 H1 x n1 o1 r1 h1 => h1 W1 H1 σ x (Nxt.refl W1 H1) o1 (r1.ret o1 H1)))
def vVarL (i : Nat) : M D := fun env => match env[i]? with
  | some (some (.lst l)) => .ok (.lst l) env
  | _ => .stuck
/-- return x, x a list of our own -/
theorem ds_retMu {e : Expr} (i : Nat) {x : Str} {p : Pos} (hm : ms.contains i = true := by rfl) (hio : ms.io.contains i = false := by rfl) (hN : X.N[i]? = some x := by rfl) (hv : Vis X.env.scope x := by first | exact Or.inl rfl | exact Or.inr (Or.inl rfl) | exact Or.inr (Or.inr rfl))
    (hd : (x == ("__debug__" : Str)) = false := by decide) (hcd : (x == ("__classdict__" : Str)) = false := by decide) : DS X Wx ms (rkR (tx X)) (.Return (some (.Name x p)) pos) (sRet (vVarL i)) := by
  intro B W env σ H Dn o h
  unfold sRet vVarL at h
  cases q : env[i]? with
  | none =>
    rw [q] at h
    exact h.elim
  | some z =>
    cases z with
    | none =>
      rw [q] at h
      exact h.elim
    | some d =>
      rw [q] at h
      obtain ⟨v, e1, e2⟩ := o.mu i d hm q
      refine PS.tm (ps_ret (pe_var hN hv hd hcd)) ⟨v, e1, ?_⟩
      cases d with
      | lst l =>
        obtain ⟨a, vs, rfl, e3, e4, e5⟩ := e2
        refine h W H σ _ (Nxt.refl W H) o ⟨a, vs, l, rfl, rfl, e3, e4, e5, fun j w hx e => ?_⟩
        obtain ⟨f1, f2, f3, d, f4⟩ := o.fx j w hx
        exact o.dj i j _ d a hm f2 (fun z => by rw [z, f1] at hio; cases hio) q f4 e1 (by rw [f3, e])
      | _ => exact h.elim
theorem ds_retN : DS X Wx ms (rkD (tx X)) (.Return none pos) (fun env => .ok (.rt .non) env) := fun B W env σ H Dn o h =>
  PS.tm ps_retN (h W H σ .non (Nxt.refl W H) o rfl)

/-! ### slots are stored -/
theorem set_get {α : Type} {l : List (Option α)} {i j : Nat} {a x : α} (h : (l.set i (some a))[j]? = some (some x)) : (j = i ∧ x = a) ∨ (j ≠ i ∧ l[j]? = some (some x)) := by
  by_cases e : j = i
  · subst e
    by_cases hl : j < l.length
    · rw [List.getElem?_set_self hl] at h
      exact .inl ⟨rfl, (Option.some.inj (Option.some.inj h)).symm⟩
    · rw [List.getElem?_eq_none (by rw [List.length_set]; omega)] at h
      cases h
  · rw [List.getElem?_set_ne (Ne.symm e)] at h
    exact .inr ⟨e, h⟩
theorem Ok.set {T : Tx} {B : Br} {W : Addr → Prop} {env : En} {σ : St} {H : Hp} {i : Nat} {d : D} {v : V} (o : Ok T ms B W env σ H) (hi : ms.contains i = false) (hio : ms.io.contains i = false) (r : Rel T (Bar B W) H d v) : Ok T ms B W (env.set i (some d)) (σ.set i (some v)) H where
  len := by rw [List.length_set, List.length_set, o.len]
  wf := o.wf
  sl := fun j e hj he => by
    rcases set_get he with ⟨rfl, rfl⟩ | ⟨n, he⟩
    · have hl : j < σ.length := by
        rw [o.len]
        by_cases hl : j < env.length
        · exact hl
        · rw [List.getElem?_eq_none (by rw [List.length_set]; omega)] at he
          cases he
      exact ⟨v, List.getElem?_set_self hl, r⟩
    · obtain ⟨w, e1, e2⟩ := o.sl j e hj he
      exact ⟨w, by rw [List.getElem?_set_ne (Ne.symm n)]; exact e1, e2⟩
  mu := fun j e hj he => by
    rcases set_get he with ⟨rfl, rfl⟩ | ⟨n, he⟩
    · rw [hi] at hj; cases hj
    · obtain ⟨w, e1, e2⟩ := o.mu j e hj he
      exact ⟨w, by rw [List.getElem?_set_ne (Ne.symm n)]; exact e1, e2⟩
  dj := fun j k e f a hj hk n he hf => by
    rcases set_get he with ⟨rfl, rfl⟩ | ⟨n1, he⟩
    · rw [hi] at hj; cases hj
    rcases set_get hf with ⟨rfl, rfl⟩ | ⟨n2, hf⟩
    · rw [hi] at hk; cases hk
    rw [List.getElem?_set_ne (Ne.symm n1), List.getElem?_set_ne (Ne.symm n2)]
    exact o.dj j k e f a hj hk n he hf
  fx := fun j w h => by
    obtain ⟨e1, e2, e3, e, e4⟩ := o.fx j w h
    have n : j ≠ i := fun z => by
      rw [z, hio] at e1
      cases e1
    exact ⟨e1, e2, by rw [List.getElem?_set_ne (Ne.symm n)]; exact e3, e, by rw [List.getElem?_set_ne (Ne.symm n)]; exact e4⟩
/-- a slot of ours takes a new list -/
theorem Ok.setF {T : Tx} {B : Br} {W : Addr → Prop} {env : En} {σ : St} {H0 H : Hp} {i : Nat} {d : D} {v : V} (o : Ok T ms B W env σ H) (hi : ms.contains i = true) (hio : ms.io.contains i = false) (r : Fresh T ms σ env H0 B W H d v) : Ok T ms B W (env.set i (some d)) (σ.set i (some v)) H := by
  obtain ⟨a, vs, l, rfl, rfl, hw, h0, hl, rl, hf⟩ := r
  have lt : ∀ {j : Nat} {e : D}, (env.set i (some (D.lst l)))[j]? = some (some e) → j = i → i < σ.length := fun {j e} he hj => by
    rw [o.len]
    by_cases hlt : i < env.length
    · exact hlt
    · rw [hj, List.getElem?_eq_none (by rw [List.length_set]; omega)] at he
      cases he
  refine ⟨by rw [List.length_set, List.length_set, o.len], o.wf, fun j e hj he => ?_, fun j e hj he => ?_, fun j k e f c hj hk n he hf' hs1 hs2 => ?_, fun j w h => ?_⟩
  · rcases set_get he with ⟨rfl, rfl⟩ | ⟨n, he⟩
    · rw [hi] at hj; cases hj
    · obtain ⟨w, e1, e2⟩ := o.sl j e hj he
      exact ⟨w, by rw [List.getElem?_set_ne (Ne.symm n)]; exact e1, e2⟩
  · rcases set_get he with ⟨rfl, rfl⟩ | ⟨n, he⟩
    · exact ⟨_, List.getElem?_set_self (lt he rfl), ⟨a, vs, rfl, hw, hl, rl⟩⟩
    · obtain ⟨w, e1, e2⟩ := o.mu j e hj he
      exact ⟨w, by rw [List.getElem?_set_ne (Ne.symm n)]; exact e1, e2⟩
  · rcases set_get he with ⟨rfl, rfl⟩ | ⟨n1, he1⟩
    · rcases set_get hf' with ⟨rfl, rfl⟩ | ⟨n2, hf'⟩
      · exact n rfl
      · rw [List.getElem?_set_self (lt he rfl)] at hs1
        rw [List.getElem?_set_ne (Ne.symm n2)] at hs2
        have ea : V.ref a = .ref c := Option.some.inj (Option.some.inj hs1)
        injection ea with ea
        subst ea
        exact hf k f hk hf' hs2
    · rcases set_get hf' with ⟨rfl, rfl⟩ | ⟨n2, hf'⟩
      · rw [List.getElem?_set_self (lt (j := k) (e := D.lst l) (List.getElem?_set_self (by rw [← o.len]; exact (List.getElem?_eq_some_iff.mp hs2).1 |> fun h => by rw [List.length_set] at h; exact h)) rfl)] at hs2
        rw [List.getElem?_set_ne (Ne.symm n1)] at hs1
        have ea : V.ref a = .ref c := Option.some.inj (Option.some.inj hs2)
        injection ea with ea
        subst ea
        exact hf j e hj he1 hs1
      · rw [List.getElem?_set_ne (Ne.symm n1)] at hs1
        rw [List.getElem?_set_ne (Ne.symm n2)] at hs2
        exact o.dj j k e f c hj hk n he1 hf' hs1 hs2
  · obtain ⟨e1, e2, e3, e, e4⟩ := o.fx j w h
    have n : j ≠ i := fun z => by
      rw [z, hio] at e1
      cases e1
    exact ⟨e1, e2, by rw [List.getElem?_set_ne (Ne.symm n)]; exact e3, e, by rw [List.getElem?_set_ne (Ne.symm n)]; exact e4⟩
def sSet (i : Nat) (f : M D) : M Fl := fun env => (f env).bind fun d env1 => .ok .nx (env1.set i (some d))
section
variable {i : Nat} {x : Str} {e : Expr} {fe : M D} {pos' : Pos}
theorem ds_set (i : Nat) (he : DE X Wx ms e fe) (hN : X.N.Nodup) (hm : ms.contains i = false := by rfl) (hio : ms.io.contains i = false := by rfl) (hi : X.N[i]? = some x := by rfl) (hx : Loc X.env.scope x := by first | exact Or.inl rfl | exact Or.inr rfl) (hs : swapsWith e (some (.Name x pos')) pos.line X.env = pure false := by rfl)
    (hf : X.fn x = true ∨ X.env.scope.names.lookup x = some .local := by first | exact .inl rfl | exact .inr rfl) : DS X Wx ms kr (.Assign [.Name x pos'] e pos) (sSet i fe) := fun B W env σ H Dn o h =>
  PS.tm (ps_set hN hi hx pe_tm hs hf) (he _ _ _ _ _ _ o (PoS.cont (k1 := rkD (tx X)) h fun d env1 W1 H1 v n1 o1 r1 h1 => h1 W1 H1 (σ.set i (some v)) (Nxt.refl W1 H1) (o1.set hm hio r1)))
theorem ds_setF (i : Nat) (he : DF X Wx ms e fe) (hN : X.N.Nodup) (hm : ms.contains i = true := by rfl) (hio : ms.io.contains i = false := by rfl) (hi : X.N[i]? = some x := by rfl) (hx : Loc X.env.scope x := by first | exact Or.inl rfl | exact Or.inr rfl) (hs : swapsWith e (some (.Name x pos')) pos.line X.env = pure false := by rfl)
    (hf : X.fn x = true ∨ X.env.scope.names.lookup x = some .local := by first | exact .inl rfl | exact .inr rfl) : DS X Wx ms kr (.Assign [.Name x pos'] e pos) (sSet i fe) := fun B W env σ H Dn o h =>
  PS.tm (ps_set hN hi hx pe_tm hs hf) (he _ _ _ _ _ _ o (PoS.cont (k1 := rkF (tx X) ms) h fun d env1 W1 H1 v n1 o1 r1 h1 => h1 W1 H1 (σ.set i (some v)) (Nxt.refl W1 H1) (o1.setF hm hio r1)))
/-- x += e of ints -/
def sAug (i : Nat) (g : D → D → Option D) (f : M D) : M Fl := fun env => match env[i]? with
  | some (some d) => (f env).bind fun e env1 => match g d e with
    | some z => .ok .nx (env1.set i (some z))
    | none => .stuck
  | _ => .stuck
def addI := i2 fun i j => some (.int (i + j))
theorem i2_spec {g : Int → Int → Option D} {d e z : D} (h : i2 g d e = some z) : ∃ i j, d = .int i ∧ e = .int j ∧ g i j = some z := i2_some h
theorem ds_augI {op : Operator} {k : Int → Int → Int} (ip : PIp X op (ipI k)) (i : Nat) (he : DE X Wx ms e fe) (hN : X.N.Nodup) (hm : ms.contains i = false := by rfl) (hio : ms.io.contains i = false := by rfl) (hi : X.N[i]? = some x := by rfl) (hx : Loc X.env.scope x := by first | exact Or.inl rfl | exact Or.inr rfl)
    (hf : X.fn x = true ∨ X.env.scope.names.lookup x = some .local := by first | exact .inl rfl | exact .inr rfl) : DS X Wx ms kr (.AugAssign (.Name x pos') op e pos) (sAug i (i2 fun a b => some (.int (k a b))) fe) := by
  intro B W env σ H Dn o h
  unfold sAug at h
  cases q : env[i]? with
  | none =>
    rw [q] at h
    exact h.elim
  | some z =>
    cases z with
    | none =>
      rw [q] at h
      exact h.elim
    | some d =>
      rw [q] at h
      obtain ⟨v, e1, e2⟩ := o.sl i d hm q
      refine PS.tm (ps_aug hN hi hx pe_tm ip hf) ⟨v, e1, he _ _ _ _ _ _ o (PoS.cont (k1 := rkD (tx X)) h fun y env1 W1 H1 w n1 o1 r1 h1 => ?_)⟩
      cases q2 : i2 (fun a b => some (.int (k a b))) d y with
      | none =>
        rw [q2] at h1
        exact h1.elim
      | some z =>
        rw [q2] at h1
        obtain ⟨a, b, rfl, rfl, e3⟩ := i2_some q2
        have e4 := Option.some.inj e3
        subst e4
        refine ⟨a, b, e2, r1, ?_⟩
        exact h1 W1 H1 (σ.set i (some (.int (k a b)))) (Nxt.refl W1 H1) (o1.set hm hio rfl)
end
end
end DL

set_option Elab.async false
set_option linter.all false
set_option maxRecDepth 100000
set_option maxHeartbeats 4000000
namespace DL
open PySem PySem.Spec L2

/-! ### our own cells change -/
section
variable {T : Tx} {ms : Ms} {B : Br} {W : Addr → Prop} {env : En} {σ : St} {H : Hp}
theorem Ok.cell {i : Nat} {l : List D} (o : Ok T ms B W env σ H) (hi : ms.contains i = true) (he : env[i]? = some (some (.lst l))) : ∃ a vs, σ[i]? = some (some (.ref a)) ∧ W a ∧ H a = some (.lst vs) ∧ RelL T (Bar B W) H l vs := by
  obtain ⟨v, e1, e2⟩ := o.mu i _ hi he
  obtain ⟨a, vs, rfl, e3, e4, e5⟩ := e2
  exact ⟨a, vs, e1, e3, e4, e5⟩
theorem Ext.write {a : Addr} {u : HO} (hw : W a) : Ext (Bar B W) H (Bar B W) (upd H a u) :=
  ⟨fun c z h n => by rw [upd_ne (fun e => n (.inr (by rw [e]; exact hw)))]; exact h, fun c z => .inl z⟩
theorem Nxt.write {a : Addr} {u : HO} (hw : W a) (hl : ∃ z, H a = some z) : Nxt W H W (upd H a u) :=
  ⟨fun c z h n => by rw [upd_ne (fun e => n (by rw [e]; exact hw))]; exact h, fun c z => .inl z, fun c z h => by
    by_cases e : c = a
    · exact ⟨u, by rw [e]; exact upd_same⟩
    · exact ⟨z, by rw [upd_ne e]; exact h⟩⟩
theorem Ok.write {i : Nat} {d d' : D} {a : Addr} {u : HO} (o : Ok T ms B W env σ H) (hi : ms.contains i = true) (he : env[i]? = some (some d)) (hs : σ[i]? = some (some (.ref a))) (hw : W a) (hl : ∃ z, H a = some z) (c : Cell T (Bar B W) W (upd H a u) d' (.ref a)) :
    Ok T ms B W (env.set i (some d')) σ (upd H a u) := by
  have ex : Ext (Bar B W) H (Bar B W) (upd H a u) := Ext.write hw
  have get : ∀ {j : Nat} {e : D}, (env.set i (some d'))[j]? = some (some e) → (j = i ∧ e = d') ∨ (j ≠ i ∧ env[j]? = some (some e)) := fun h => set_get h
  refine ⟨by rw [List.length_set, o.len], fun b z => ?_, fun j e hj h => ?_, fun j e hj h => ?_, fun j k e f b hj hk n h1 h2 s1 s2 => ?_, fun j w h => ?_⟩
  · obtain ⟨q, hq⟩ := o.wf b z
    by_cases e : b = a
    · exact ⟨u, by rw [e]; exact upd_same⟩
    · exact ⟨q, by rw [upd_ne e]; exact hq⟩
  · rcases get h with ⟨rfl, rfl⟩ | ⟨n, h⟩
    · rw [hi] at hj; cases hj
    · obtain ⟨w, e1, e2⟩ := o.sl j e hj h
      exact ⟨w, e1, Rel.ext ex e e2⟩
  · rcases get h with ⟨rfl, rfl⟩ | ⟨n, h⟩
    · exact ⟨_, hs, c⟩
    · obtain ⟨w, e1, e2⟩ := o.mu j e hj h
      refine ⟨w, e1, ?_⟩
      have na : w ≠ .ref a := fun z => o.dj j i e d a hj hi n h he (by rw [e1, z]) hs
      cases e with
      | lst l =>
        obtain ⟨b, vs, rfl, e5, e6, e7⟩ := e2
        exact ⟨b, vs, rfl, e5, by rw [upd_ne (fun z => na (by rw [z]))]; exact e6, RelL.ext ex _ e7⟩
      | obj c ns ds =>
        obtain ⟨b, dx, vs, rfl, e5, e6, e7, e8⟩ := e2
        exact ⟨b, dx, vs, rfl, e5, by rw [upd_ne (fun z => na (by rw [z]))]; exact e6, e7, RelL.ext ex _ e8⟩
      | dic t ks ds =>
        obtain ⟨b, vs, rfl, e5, e6, e7, e8⟩ := e2
        exact ⟨b, vs, rfl, e5, by rw [upd_ne (fun z => na (by rw [z]))]; exact e6, e7, RelL.ext ex _ e8⟩
      | _ => exact e2.elim
  · have g1 : ∃ e', env[j]? = some (some e') := by
      rcases get h1 with ⟨rfl, rfl⟩ | ⟨n, h⟩
      · exact ⟨d, he⟩
      · exact ⟨e, h⟩
    have g2 : ∃ e', env[k]? = some (some e') := by
      rcases get h2 with ⟨rfl, rfl⟩ | ⟨n, h⟩
      · exact ⟨d, he⟩
      · exact ⟨f, h⟩
    obtain ⟨e1, g1⟩ := g1
    obtain ⟨e2, g2⟩ := g2
    exact o.dj j k e1 e2 b hj hk n g1 g2 s1 s2
  · obtain ⟨e1, e2, e3, e, e4⟩ := o.fx j w h
    by_cases hj : j = i
    · exact ⟨e1, e2, e3, d', by rw [hj, List.getElem?_set_self (List.getElem?_eq_some_iff.mp he).1]⟩
    · exact ⟨e1, e2, e3, e, by rw [List.getElem?_set_ne (Ne.symm hj)]; exact e4⟩
end

section
variable {X : Cx} {Wx : WX} {ms : Ms} {kr : Rk (tx X) D V} {pos cpos apos : Pos} {x : Str} {e e2 : Expr} {fe fe2 : M D}
/-- what a method of a list of ours does: the list, the arguments → the answer, the list -/
def vMeth (i : Nat) (g : List D → List D → Option (D × List D)) (fs : M (List D)) : M D := fun env => match env[i]? with
  | some (some (.lst _)) => (fs env).bind fun ds env1 => match env1[i]? with
    | some (some (.lst l)) => match g l ds with
      | some (d, l') => .ok d (env1.set i (some (.lst l')))
      | none => .stuck
    | _ => .stuck
  | _ => .stuck
def MethOk (X : Cx) (r : V → List V → Hp → VK → Prop) (g : List D → List D → Option (D × List D)) : Prop := ∀ {B : Addr → Prop} {H : Hp} {a : Addr} {xs vs : List V} {l ds l' : List D} {d : D} {Q : VK}, H a = some (.lst xs) → RelL (tx X) B H l xs → RelL (tx X) B H ds vs → g l ds = some (d, l') →
  (∀ xs' v, Rel (tx X) B H d v → RelL (tx X) B H l' xs' → Q v (upd H a (.lst xs'))) → r (.ref a) vs H Q
theorem tm_meth {r : V → List V → Hp → VK → Prop} {g : List D → List D → Option (D × List D)} (mo : MethOk X r g) {i : Nat} {es : List Expr} {fs : M (List D)} {o : Expr} {B : Br} {W : Addr → Prop} {env : En} {σ : St} {H : Hp} {Q : VK}
    (k : Ok (tx X) ms B W env σ H) (hm : ms.contains i = true) (ha : DA X Wx ms es fs) (h : Po (tx X) Wx ms B W σ H (rkD (tx X)) (vMeth i g fs env) Q) : tBM X.K "list" r (tVar i) (tmA X es) σ H Q := by
  unfold vMeth at h
  cases q : env[i]? with
  | none =>
    rw [q] at h
    exact h.elim
  | some z =>
    cases z with
    | none =>
      rw [q] at h
      exact h.elim
    | some d0 =>
      rw [q] at h
      cases d0 with
      | lst l0 =>
        obtain ⟨a, vs0, e1, e2, e3, e4⟩ := k.cell hm q
        refine ⟨_, e1, .inl ⟨rfl, _, SqL.of e3⟩, ha _ _ _ _ _ _ k (Po.cont (k1 := rkL (tx X)) h fun ds env1 W1 H1 vs n1 o1 r1 h1 => ?_)⟩
        cases q1 : env1[i]? with
        | none =>
          rw [q1] at h1
          exact h1.elim
        | some z =>
          cases z with
          | none =>
            rw [q1] at h1
            exact h1.elim
          | some d1 =>
            rw [q1] at h1
            cases d1 with
            | lst l =>
              obtain ⟨b, xs, f1, f2, f3, f4⟩ := o1.cell hm q1
              have eb : b = a := by
                rw [e1] at f1
                have z := Option.some.inj (Option.some.inj f1)
                injection z with z
                exact z.symm
              subst eb
              have h2 : Po (tx X) Wx ms B W1 σ H1 (rkD (tx X)) (match g l ds with | some (d, l') => .ok d (env1.set i (some (.lst l'))) | none => .stuck) Q := h1
              cases q2 : g l ds with
              | none =>
                rw [q2] at h2
                exact h2.elim
              | some y =>
                obtain ⟨d, l'⟩ := y
                rw [q2] at h2
                refine mo f3 f4 r1 q2 fun xs' v rv rl => ?_
                exact h2 W1 _ v (Nxt.write f2 ⟨_, f3⟩) (o1.write hm q1 f1 f2 ⟨_, f3⟩ ⟨b, xs', rfl, f2, upd_same, RelL.ext (Ext.write f2) _ rl⟩) (Rel.ext (Ext.write f2) _ rv)
            | _ => exact h1.elim
      | _ => exact h.elim
theorem tm_meth0 {r : V → List V → Hp → VK → Prop} {g : List D → List D → Option (D × List D)} (mo : MethOk X r g) {i : Nat} {B : Br} {W : Addr → Prop} {env : En} {σ : St} {H : Hp} {Q : VK}
    (k : Ok (tx X) ms B W env σ H) (hm : ms.contains i = true) (h : Po (tx X) Wx ms B W σ H (rkD (tx X)) (vMeth i g aNil env) Q) : tBM0 X.K "list" r (tVar i) σ H Q := by
  unfold vMeth aNil at h
  cases q : env[i]? with
  | none =>
    rw [q] at h
    exact h.elim
  | some z =>
    cases z with
    | none =>
      rw [q] at h
      exact h.elim
    | some d0 =>
      rw [q] at h
      cases d0 with
      | lst l =>
        obtain ⟨a, xs, f1, f2, f3, f4⟩ := k.cell hm q
        have h2 : Po (tx X) Wx ms B W σ H (rkD (tx X)) (match env[i]? with
          | some (some (.lst l)) => match g l [] with
            | some (d, l') => .ok d (env.set i (some (.lst l')))
            | none => .stuck
          | _ => .stuck) Q := h
        rw [q] at h2
        have h3 : Po (tx X) Wx ms B W σ H (rkD (tx X)) (match g l [] with | some (d, l') => .ok d (env.set i (some (.lst l'))) | none => .stuck) Q := h2
        refine ⟨_, f1, .inl ⟨rfl, _, SqL.of f3⟩, ?_⟩
        cases q2 : g l [] with
        | none =>
          rw [q2] at h3
          exact h3.elim
        | some y =>
          obtain ⟨d, l'⟩ := y
          rw [q2] at h3
          refine mo (B := Bar B W) (ds := []) f3 f4 trivial q2 fun xs' v rv rl => ?_
          exact h3 W _ v (Nxt.write f2 ⟨_, f3⟩) (k.write hm q f1 f2 ⟨_, f3⟩ ⟨a, xs', rfl, f2, upd_same, RelL.ext (Ext.write f2) _ rl⟩) (Rel.ext (Ext.write f2) _ rv)
      | _ => exact h.elim
def mAppend (l ds : List D) : Option (D × List D) := match ds with
  | [d] => if small l.length = true then some (.non, l ++ [d]) else none
  | _ => none
theorem mo_append : MethOk X rAppend mAppend := by
  intro B H a xs vs l ds l' d Q h1 h2 h3 h4 q
  match ds, h4 with
  | [d1], h4 =>
    obtain ⟨v, rfl, rv⟩ := relL1 h3
    obtain ⟨e1, e2⟩ := ite_some h4
    cases e2
    exact ⟨a, xs, v, rfl, rfl, h1, by rw [← h2.length]; exact small_lt e1, q _ .non rfl (h2.append ⟨rv, trivial⟩)⟩
def mPop (l ds : List D) : Option (D × List D) := match ds with
  | [] => l.getLast?.map fun d => (d, l.dropLast)
  | _ => none
theorem RelL.dropLast {T : Tx} {B : Addr → Prop} {H : Hp} {ds : List D} {vs : List V} (h : RelL T B H ds vs) : RelL T B H ds.dropLast vs.dropLast := by
  rw [List.dropLast_eq_take, List.dropLast_eq_take, ← h.length]
  exact h.take _
theorem mo_pop : MethOk X rPop mPop := by
  intro B H a xs vs l ds l' d Q h1 h2 h3 h4 q
  match ds, vs, h3, h4 with
  | [], [], _, h4 =>
    obtain ⟨z, e1, e2⟩ := Option.map_eq_some_iff.mp h4
    cases e2
    rw [List.getLast?_eq_getElem?] at e1
    obtain ⟨v, e3, e4⟩ := h2.get e1
    exact ⟨a, xs, v, rfl, rfl, h1, by rw [← h2.length]; exact e3, q _ v e4 h2.dropLast⟩
def mReverse (l ds : List D) : Option (D × List D) := match ds with
  | [] => some (.non, l.reverse)
  | _ => none
theorem mo_reverse : MethOk X rReverse mReverse := by
  intro B H a xs vs l ds l' d Q h1 h2 h3 h4 q
  match ds, vs, h3, h4 with
  | [], [], _, h4 =>
    cases Option.some.inj h4
    exact ⟨a, xs, rfl, rfl, h1, q _ .non rfl h2.reverse⟩
theorem de_append (i : Nat) (ha : DE X Wx ms e fe) (hm : ms.contains i = true := by rfl) (hN : X.N[i]? = some x := by rfl) (hv : Vis X.env.scope x := by first | exact Or.inl rfl | exact Or.inr (Or.inl rfl) | exact Or.inr (Or.inr rfl))
    (hd : (x == ("__debug__" : Str)) = false := by decide) (hcd : (x == ("__classdict__" : Str)) = false := by decide)
    (hs1 : starEach [e] X.env = (false, eval e X.env) :: starEach [] X.env := by rfl)
    (hbase : attributeBase (.Name x pos) "append" X.env (eval (.Name x pos) X.env) = eval (.Name x pos) X.env := by rfl)
    (hfew : ((backTo cpos (starEach [e] X.env)).all (fun x => !x.1) && (backToKw cpos (keywordEach [] X.env)).all (fun x => x.1.isSome)
      && decide ([e].length + ([] : List Keyword).length + (if ([] : List Keyword).isEmpty then 0 else 1) < 30)) = true := by rfl)
    (hline : (apos.endLine == cpos.line) = true := by rfl) (hplain : (backTo cpos (starEach [] X.env)).any (·.1) = false := by rfl) :
    DE X Wx ms (.Call (.Attribute (.Name x pos) "append" apos) [e] [] cpos) (vMeth i mAppend (aCons fe aNil)) := fun B W env σ H Q o h =>
  PE.tm (pe_bm PySem.F.plainAttrs_list PySem.F.slot_list_append PySem.F.type_list_append mt_append (pe_var hN hv hd hcd) pa_tm hbase hfew hline hs1 hplain) (tm_meth (o := e) mo_append o hm (da_cons ha da_nil hs1) h)
theorem de_pop (i : Nat) (hm : ms.contains i = true := by rfl) (hN : X.N[i]? = some x := by rfl) (hv : Vis X.env.scope x := by first | exact Or.inl rfl | exact Or.inr (Or.inl rfl) | exact Or.inr (Or.inr rfl))
    (hd : (x == ("__debug__" : Str)) = false := by decide) (hcd : (x == ("__classdict__" : Str)) = false := by decide)
    (hbase : attributeBase (.Name x pos) "pop" X.env (eval (.Name x pos) X.env) = eval (.Name x pos) X.env := by rfl) (hline : (apos.endLine == cpos.line) = true := by rfl) :
    DE X Wx ms (.Call (.Attribute (.Name x pos) "pop" apos) [] [] cpos) (vMeth i mPop aNil) := fun B W env σ H Q o h =>
  PE.tm (pe_bm0 PySem.F.plainAttrs_list PySem.F.slot_list_pop PySem.F.type_list_pop mt_pop (pe_var hN hv hd hcd) hbase hline) (tm_meth0 mo_pop o hm h)
theorem de_reverse (i : Nat) (hm : ms.contains i = true := by rfl) (hN : X.N[i]? = some x := by rfl) (hv : Vis X.env.scope x := by first | exact Or.inl rfl | exact Or.inr (Or.inl rfl) | exact Or.inr (Or.inr rfl))
    (hd : (x == ("__debug__" : Str)) = false := by decide) (hcd : (x == ("__classdict__" : Str)) = false := by decide)
    (hbase : attributeBase (.Name x pos) "reverse" X.env (eval (.Name x pos) X.env) = eval (.Name x pos) X.env := by rfl) (hline : (apos.endLine == cpos.line) = true := by rfl) :
    DE X Wx ms (.Call (.Attribute (.Name x pos) "reverse" apos) [] [] cpos) (vMeth i mReverse aNil) := fun B W env σ H Q o h =>
  PE.tm (pe_bm0 PySem.F.plainAttrs_list PySem.F.slot_list_reverse PySem.F.type_list_reverse mt_reverse (pe_var hN hv hd hcd) hbase hline) (tm_meth0 mo_reverse o hm h)
def mInsert (l ds : List D) : Option (D × List D) := match ds with
  | [.int i, d] => if (small l.length && (decide (0 ≤ i) && decide (i < 1000000))) = true then some (.non, l.take i.toNat ++ [d] ++ l.drop i.toNat) else none
  | _ => none
theorem mo_insert : MethOk X (fun x vs H Q => ∃ (l : Addr) (xs : List V) (i : Int) (y : V), x = .ref l ∧ vs = [.int i, y] ∧ H l = some (.lst xs) ∧ xs.length < sizeLine ∧ 0 ≤ i ∧ i < 2 ^ 63 ∧
    Q .non (upd H l (.lst (xs.take i.toNat ++ [y] ++ xs.drop i.toNat)))) mInsert := by
  intro B H a xs vs l ds l' d Q h1 h2 h3 h4 q
  match ds, h4 with
  | [.int i, d1], h4 =>
    obtain ⟨v, w, rfl, rv, rw'⟩ := relL2 h3
    obtain ⟨e1, e2⟩ := ite_some h4
    cases e2
    obtain ⟨e3, e4⟩ := Bool.and_eq_true_iff.mp e1
    obtain ⟨e5, e6⟩ := Bool.and_eq_true_iff.mp e4
    have e7 := of_decide_eq_true e5
    have e8 := of_decide_eq_true e6
    exact ⟨a, xs, i, w, rfl, by rw [show v = .int i from rv], h1, by rw [← h2.length]; exact small_lt e3, e7, by omega, q _ .non rfl (((h2.take _).append (show RelL (tx X) B H [d1] [w] from ⟨rw', trivial⟩)).append (h2.drop _))⟩
theorem de_insert (i : Nat) (ha : DE X Wx ms e fe) (hb : DE X Wx ms e2 fe2) (hm : ms.contains i = true := by rfl) (hN : X.N[i]? = some x := by rfl) (hv : Vis X.env.scope x := by first | exact Or.inl rfl | exact Or.inr (Or.inl rfl) | exact Or.inr (Or.inr rfl))
    (hd : (x == ("__debug__" : Str)) = false := by decide) (hcd : (x == ("__classdict__" : Str)) = false := by decide)
    (hs1 : starEach [e, e2] X.env = (false, eval e X.env) :: starEach [e2] X.env := by rfl) (hs2 : starEach [e2] X.env = (false, eval e2 X.env) :: starEach [] X.env := by rfl)
    (hbase : attributeBase (.Name x pos) "insert" X.env (eval (.Name x pos) X.env) = eval (.Name x pos) X.env := by rfl)
    (hfew : ((backTo cpos (starEach [e, e2] X.env)).all (fun x => !x.1) && (backToKw cpos (keywordEach [] X.env)).all (fun x => x.1.isSome)
      && decide ([e, e2].length + ([] : List Keyword).length + (if ([] : List Keyword).isEmpty then 0 else 1) < 30)) = true := by rfl)
    (hline : (apos.endLine == cpos.line) = true := by rfl) (hplain : (backTo cpos (starEach [e2] X.env)).any (·.1) = false := by rfl) :
    DE X Wx ms (.Call (.Attribute (.Name x pos) "insert" apos) [e, e2] [] cpos) (vMeth i mInsert (aCons fe (aCons fe2 aNil))) := fun B W env σ H Q o h =>
  PE.tm (pe_bm PySem.F.plainAttrs_list PySem.F.slot_list_insert PySem.F.type_list_insert mt_insert (pe_var hN hv hd hcd) pa_tm hbase hfew hline hs1 hplain) (tm_meth (o := e) mo_insert o hm (da_cons ha (da_cons hb da_nil hs2) hs1) h)
end

/-! ### what is walked -/
/-- J serves ds, whatever comes -/
def Serves (T : Tx) (Bs : Addr → Prop) (H : Hp) (J : It) (ds : List D) : Prop := ∀ B' H', Ext Bs H B' H' → ∀ i, (∀ d, ds[i]? = some d → J.go i H' ∧ ∀ x H'', J.yld i H' x H'' → Same H' H'' ∧ Rel T B' H'' d x) ∧ (i = ds.length → J.stop i H')
def rkI (T : Tx) : Rk T (List D) It := ⟨fun _ _ _ B W H ds J => Serves T (Bar B W) H J ds, fun _ h => h⟩
@[irreducible] def tmI (X : Cx) (tg iter : Expr) : TI := fun σ H R => ∀ pins s, Inv X pins σ H s → wpAny (model X.prog X.w) X.A (eval iter X.env) (fun v s1 => wpAny (model X.prog X.w) X.A (pyIter v) (PIE X pins σ tg R) X.xe s1) X.xe s
theorem pi_tm {X : Cx} {tg iter : Expr} : PI X tg iter (tmI X tg iter) := ⟨fun pins s _ _ _ I h => by unfold tmI at h; exact h pins s I⟩
theorem PI.tm {X : Cx} {tg iter : Expr} {t : TI} (h : PI X tg iter t) {σ : St} {H : Hp} {R : It → Hp → Prop} (q : t σ H R) : tmI X tg iter σ H R := by unfold tmI; exact fun pins s I => h.run pins s σ H R I q
def DI (X : Cx) (Wx : WX) (ms : Ms) (tg iter : Expr) (f : M (List D)) : Prop := ∀ B W env σ H R, Ok (tx X) ms B W env σ H → Po (tx X) Wx ms B W σ H (rkI (tx X)) (f env) R → tmI X tg iter σ H R
section
variable {X : Cx} {Wx : WX} {ms : Ms} {tg l a b c : Expr} {fa fb fc : M D} {p pos : Pos}
def iSeq (f : M D) : M (List D) := fun env => (f env).bind fun d env1 => M.of (match d with | .tup l => some l | .lst l => some l | _ => none) env1
theorem di_seq (ha : DE X Wx ms l fa) : DI X Wx ms tg l (iSeq fa) := by
  intro B W env σ H R o h
  have key : ∀ d env', fa env = .ok d env' → tmI X tg l σ H R := fun d env' q => by
    have e0 : iSeq fa env = M.of (match d with | .tup l => some l | .lst l => some l | _ => none) env' := by
      unfold iSeq
      rw [q]
      rfl
    rw [e0] at h
    cases d with
    | lst ds =>
      refine PI.tm (pi_list pe_tm) (ha _ _ _ _ _ _ o ?_)
      rw [q]
      intro W1 H1 v n1 o1 r1
      obtain ⟨a, vs, rfl, r2, r3, r4⟩ := r1
      refine ⟨a, rfl, ⟨_, SqL.of r2⟩, h W1 H1 _ n1 o1 fun B' H' ex i => ⟨fun d hd => ?_, fun hi => ?_⟩⟩
      · have k := ex.keep _ _ r2 r3
        obtain ⟨v, e1, e2⟩ := RelL.get (RelL.ext ex _ r4) hd
        refine ⟨⟨_, v, SqL.of k, e1⟩, fun x H'' y => ?_⟩
        obtain ⟨rfl, y⟩ := y
        have e3 := y vs (SqL.of k)
        rw [e1] at e3
        cases e3
        exact ⟨Same.refl _, e2⟩
      · exact ⟨_, SqL.of (ex.keep _ _ r2 r3), by rw [hi, r4.length]; exact Nat.le_refl _⟩
    | tup ds =>
      refine PI.tm (pi_tup pe_tm) (ha _ _ _ _ _ _ o ?_)
      rw [q]
      intro W1 H1 v n1 o1 r1
      obtain ⟨a, vs, rfl, r2, r4⟩ := r1
      refine ⟨a, rfl, ⟨_, r2.sq⟩, h W1 H1 _ n1 o1 fun B' H' ex i => ⟨fun d hd => ?_, fun hi => ?_⟩⟩
      · have k := r2.ext ex
        obtain ⟨v, e1, e2⟩ := RelL.get (RelL.ext ex _ r4) hd
        refine ⟨⟨_, v, k.sq, e1⟩, fun x H'' y => ?_⟩
        obtain ⟨rfl, y⟩ := y
        have e3 := y vs k.sq
        rw [e1] at e3
        cases e3
        exact ⟨Same.refl _, e2⟩
      · exact ⟨_, (r2.ext ex).sq, by rw [hi, r4.length]; exact Nat.le_refl _⟩
    | _ => exact h.elim
  cases q : fa env with
  | ok d env' => exact key d env' q
  | err c ns es env' =>
    refine PI.tm (pi_list pe_tm) (ha _ _ _ _ _ _ o ?_)
    unfold iSeq at h
    rw [q] at h ⊢
    exact h
  | stuck =>
    unfold iSeq at h
    rw [q] at h
    exact h.elim
/-- lo, lo + 1, .. -/
def upTo (lo : Int) : Nat → List D
  | 0 => []
  | n + 1 => .int lo :: upTo (lo + 1) n
theorem upTo_len (n : Nat) : ∀ lo : Int, (upTo lo n).length = n := by
  induction n with
  | zero => intro lo; rfl
  | succ n ih => intro lo; exact congrArg Nat.succ (ih _)
theorem upTo_get (n : Nat) : ∀ (lo : Int) (i : Nat) (d : D), (upTo lo n)[i]? = some d → d = .int (lo + i) ∧ i < n := by
  induction n with
  | zero => intro lo i d h; cases h
  | succ n ih =>
    intro lo i d h
    cases i with
    | zero =>
      have e : D.int lo = d := by simpa [upTo] using h
      exact ⟨by rw [← e]; congr 1; omega, Nat.succ_pos _⟩
    | succ i =>
      obtain ⟨e1, e2⟩ := ih (lo + 1) i d (by simpa [upTo] using h)
      exact ⟨by rw [e1]; congr 1; omega, Nat.succ_lt_succ e2⟩
abbrev near (i : Int) : Bool := decide (-1000000000 < i) && decide (i < 1000000000)
theorem near_ok {i : Int} (h : near i = true) : -(2 ^ 62) ≤ i ∧ i < 2 ^ 62 := by
  obtain ⟨h1, h2⟩ := Bool.and_eq_true_iff.mp h
  have := of_decide_eq_true h1
  have := of_decide_eq_true h2
  omega
def rng1 : List D → Option (List D)
  | [.int j] => if near j = true then some (upTo 0 j.toNat) else none
  | _ => none
def rng2 : List D → Option (List D)
  | [.int i, .int j] => if (near i && near j) = true then some (upTo i (j - i).toNat) else none
  | _ => none
def iRng (g : List D → Option (List D)) (fs : M (List D)) : M (List D) := fun env => (fs env).bind fun ds env1 => M.of (g ds) env1
theorem serves_rng {T : Tx} {Bs : Addr → Prop} {H : Hp} (lo : Int) (n : Nat) : Serves T Bs H (Itr lo n) (upTo lo n) := fun B' H' ex i => ⟨fun d hd => by
    obtain ⟨e1, e2⟩ := upTo_get n lo i d hd
    refine ⟨e2, fun x H'' y => ?_⟩
    obtain ⟨rfl, rfl⟩ := y
    rw [e1]
    exact ⟨Same.refl _, rfl⟩, fun hi => by
    rw [upTo_len] at hi
    exact Nat.le_of_eq hi.symm⟩
theorem di_rng1 (hg : Gl X "range") (hm : X.mg "range" = none) (ha : DE X Wx ms a fa) (hs : starEach [a] X.env = [(false, eval a X.env)] := by rfl) (hs1 : starEach [a] X.env = (false, eval a X.env) :: starEach [] X.env := by rfl) : DI X Wx ms tg (.Call (.Name "range" p) [a] [] pos) (iRng rng1 (aCons fa aNil)) := fun B W env σ H R o h =>
  PI.tm (pi_range1 hg hm pa_tm hs) (da_cons ha da_nil hs1 _ _ _ _ _ _ o (Po.cont (k1 := rkL (tx X)) h fun ds env1 W1 H1 vs n1 o1 r1 h1 => by
    obtain ⟨z, e1, h3⟩ := of_pos h1
    match ds, e1 with
    | [.int j], e1 =>
      obtain ⟨e2, rfl⟩ := ite_some e1
      obtain ⟨v, rfl, rv⟩ := relL1 r1
      obtain ⟨f1, f2⟩ := near_ok e2
      exact ⟨j, by rw [show v = .int j from rv], f1, f2, h3.done (v := Itr 0 j.toNat) o1 (serves_rng 0 _)⟩))
theorem di_rng2 (hg : Gl X "range") (hm : X.mg "range" = none) (ha : DE X Wx ms a fa) (hb : DE X Wx ms b fb) (hs : starEach [a, b] X.env = [(false, eval a X.env), (false, eval b X.env)] := by rfl) (hs2 : starEach [b] X.env = [(false, eval b X.env)] := by rfl)
    (hs1 : starEach [a, b] X.env = (false, eval a X.env) :: starEach [b] X.env := by rfl) (hs3 : starEach [b] X.env = (false, eval b X.env) :: starEach [] X.env := by rfl) : DI X Wx ms tg (.Call (.Name "range" p) [a, b] [] pos) (iRng rng2 (aCons fa (aCons fb aNil))) := fun B W env σ H R o h =>
  PI.tm (pi_range2 hg hm pa_tm hs hs2) (da_cons ha (da_cons hb da_nil hs3) hs1 _ _ _ _ _ _ o (Po.cont (k1 := rkL (tx X)) h fun ds env1 W1 H1 vs n1 o1 r1 h1 => by
    obtain ⟨z, e1, h3⟩ := of_pos h1
    match ds, e1 with
    | [.int i, .int j], e1 =>
      obtain ⟨e2, rfl⟩ := ite_some e1
      obtain ⟨v, w, rfl, rv, rw'⟩ := relL2 r1
      obtain ⟨e3, e4⟩ := Bool.and_eq_true_iff.mp e2
      obtain ⟨f1, f2⟩ := near_ok e3
      obtain ⟨f3, f4⟩ := near_ok e4
      exact ⟨i, j, by rw [show v = .int i from rv, show w = .int j from rw'], ⟨f1, f2, f3, f4⟩, h3.done (v := Itr i (j - i).toNat) o1 (serves_rng i _)⟩))
/-- range(a, b, -1) -/
def downTo (hi : Int) : Nat → List D
  | 0 => []
  | n + 1 => .int hi :: downTo (hi - 1) n
theorem downTo_len (n : Nat) : ∀ lo : Int, (downTo lo n).length = n := by
  induction n with
  | zero => intro lo; rfl
  | succ n ih => intro lo; exact congrArg Nat.succ (ih _)
theorem downTo_get (n : Nat) : ∀ (lo : Int) (i : Nat) (d : D), (downTo lo n)[i]? = some d → d = .int (lo + (i : Nat) * (-1)) ∧ i < n := by
  induction n with
  | zero => intro lo i d h; cases h
  | succ n ih =>
    intro lo i d h
    cases i with
    | zero =>
      have e : D.int lo = d := by simpa [downTo] using h
      exact ⟨by rw [← e]; congr 1; omega, Nat.succ_pos _⟩
    | succ i =>
      obtain ⟨e1, e2⟩ := ih (lo - 1) i d (by simpa [downTo] using h)
      exact ⟨by rw [e1]; congr 1; omega, Nat.succ_lt_succ e2⟩
def rng3 : List D → Option (List D)
  | [.int i, .int j, .int c] => if (near i && near j && decide (c = -1)) = true then some (downTo i (i - j).toNat) else none
  | _ => none
theorem relL3 {T : Tx} {B : Addr → Prop} {H : Hp} {d e f : D} {xs : List V} (r : RelL T B H [d, e, f] xs) : ∃ x y z, xs = [x, y, z] ∧ Rel T B H d x ∧ Rel T B H e y ∧ Rel T B H f z := by
  match xs, r with
  | x :: ys, r =>
    obtain ⟨y, z, rfl, r2, r3⟩ := relL2 r.2
    exact ⟨x, y, z, rfl, r.1, r2, r3⟩
  | [], r => exact r.elim
theorem di_rng3 (hg : Gl X "range") (hm : X.mg "range" = none) (ha : DE X Wx ms a fa) (hb : DE X Wx ms b fb) (hc : DE X Wx ms c fc)
    (hs : starEach [a, b, c] X.env = (false, eval a X.env) :: starEach [b, c] X.env := by rfl) (hs2 : starEach [b, c] X.env = (false, eval b X.env) :: starEach [c] X.env := by rfl) (hs3 : starEach [c] X.env = (false, eval c X.env) :: starEach [] X.env := by rfl)
    (hpl : (backTo pos (starEach [b, c] X.env)).any (·.1) = false := by rfl) : DI X Wx ms tg (.Call (.Name "range" p) [a, b, c] [] pos) (iRng rng3 (aCons fa (aCons fb (aCons fc aNil)))) := fun B W env σ H R o h =>
  PI.tm (pi_range3 hg hm pa_tm hs hpl) (da_cons ha (da_cons hb (da_cons hc da_nil hs3) hs2) hs _ _ _ _ _ _ o (Po.cont (k1 := rkL (tx X)) h fun ds env1 W1 H1 vs n1 o1 r1 h1 => by
    obtain ⟨z, e1, h3⟩ := of_pos h1
    match ds, e1 with
    | [.int i, .int j, .int c], e1 =>
      obtain ⟨e2, rfl⟩ := ite_some e1
      obtain ⟨v, w, u, rfl, rv, rw', ru⟩ := relL3 r1
      obtain ⟨e3, e4⟩ := Bool.and_eq_true_iff.mp e2
      obtain ⟨e5, e6⟩ := Bool.and_eq_true_iff.mp e3
      have e7 : c = -1 := of_decide_eq_true e4
      subst e7
      obtain ⟨f1, f2⟩ := near_ok e5
      obtain ⟨f3, f4⟩ := near_ok e6
      refine ⟨i, j, -1, (i - j).toNat, by rw [show v = .int i from rv, show w = .int j from rw', show u = .int (-1) from ru], RgC.neg f1 f2 f3 f4, h3.done (v := Itc i (-1) (i - j).toNat) o1 fun B' H' ex k => ⟨fun d hd => ?_, fun hi => ?_⟩⟩
      · obtain ⟨g1, g2⟩ := downTo_get _ i k d hd
        refine ⟨g2, fun x H'' y => ?_⟩
        obtain ⟨rfl, rfl⟩ := y
        rw [g1]
        exact ⟨Same.refl _, rfl⟩
      · rw [downTo_len] at hi
        exact Nat.le_of_eq hi.symm))

/-! ### for -/
variable {kr : Rk (tx X) D V} {iter : Expr} {body : List Stmt} {fi : M (List D)} {fb' : M Fl}
def forM (i : Nat) (body : M Fl) : List D → M Fl
  | [] => fun env => .ok .nx env
  | x :: xs => fun env => (body (env.set i (some x))).bind fun fl env' => match fl with
    | .nx => forM i body xs env'
    | .ct => forM i body xs env'
    | .bk => .ok .nx env'
    | .rt d => .ok (.rt d) env'
def sFor (i : Nat) (fi : M (List D)) (body : M Fl) : M Fl := fun env => (fi env).bind fun xs env1 => forM i body xs env1
theorem ds_for (i : Nat) {x : Str} {px : Pos} (hi : DI X Wx ms (.Name x px) iter fi) (hb : DSs X Wx ms kr body fb') (hp : PassesOwn (model X.prog X.w) X.A X.env X.xe) (hc : X.calm = true) (hN : X.N.Nodup) (hm : ms.contains i = false := by rfl) (hio : ms.io.contains i = false := by rfl)
    (hx : X.N[i]? = some x := by rfl) (hl : Loc X.env.scope x := by first | exact Or.inl rfl | exact Or.inr rfl) (hf : X.fn x = true ∨ X.env.scope.names.lookup x = some .local := by first | exact .inl rfl | exact .inr rfl)
    (hs : ∀ x, foldedSetIterable iter X.env x = pure x := by intro _; rfl) : DS X Wx ms kr (.For (.Name x px) iter body [] pos) (sFor i fi fb') := fun B W env σ H Dn o h =>
  PS.tm (ps_for hp hc pi_tm (pg_name hN hx hl hf) pss_tm hs) (hi _ _ _ _ _ _ o (PoS.cont (k1 := rkI (tx X)) h fun ds env1 W1 H1 J n1 o1 sv h1 => by
    refine ⟨fun j m σ2 H2 => m = ds.length - j ∧ j ≤ ds.length ∧ ∃ W2 env2, Nxt W1 H1 W2 H2 ∧ Ok (tx X) ms B W2 env2 σ2 H2 ∧ PoS (tx X) Wx ms kr B W2 H2 (forM i fb' (ds.drop j) env2) Dn, ⟨ds.length, by simp, Nat.zero_le _, W1, env1, Nxt.refl _ _, o1, h1⟩, ?_⟩
    rintro j m σ2 H2 ⟨rfl, hj, W2, env2, n2, o2, h2⟩
    obtain ⟨s1, s2⟩ := sv (Bar B W2) H2 n2.ext j
    by_cases hlt : j < ds.length
    · obtain ⟨g1, g2⟩ := s1 ds[j] (List.getElem?_eq_getElem hlt)
      refine .inr ⟨g1, fun σ' H' => ∃ W2 env2, Nxt W1 H1 W2 H' ∧ Ok (tx X) ms B W2 env2 σ' H' ∧ PoS (tx X) Wx ms kr B W2 H' (forM i fb' (ds.drop (j + 1)) env2) Dn, fun σ' H' q => ⟨ds.length - (j + 1), by omega, rfl, hlt, q⟩, fun x H'' y => ?_⟩
      obtain ⟨q1, q2⟩ := g2 x H'' y
      have o3 := (o2.same q1).set (i := i) hm hio q2
      have h3 := h2.step (Nxt.same q1)
      rw [List.drop_eq_getElem_cons hlt] at h3
      refine hb _ _ _ _ _ _ o3 ?_
      have h4 : PoS (tx X) Wx ms kr B W2 H'' ((fb' (env2.set i (some ds[j]))).bind fun fl env' => match fl with
        | .nx => forM i fb' (ds.drop (j + 1)) env'
        | .ct => forM i fb' (ds.drop (j + 1)) env'
        | .bk => .ok .nx env'
        | .rt d => .ok (.rt d) env') Dn := h3
      cases q5 : fb' (env2.set i (some ds[j])) with
      | ok fl env' =>
        rw [q5] at h4
        cases fl with
        | nx => exact fun W' H' σ' n' o' => ⟨W', env', (n2.trans (Nxt.same q1)).trans n', o', PoS.step (r := forM i fb' (ds.drop (j + 1)) env') h4 n'⟩
        | ct => exact fun W' H' σ' n' o' => ⟨W', env', (n2.trans (Nxt.same q1)).trans n', o', PoS.step (r := forM i fb' (ds.drop (j + 1)) env') h4 n'⟩
        | bk => exact h4
        | rt d => exact h4
      | err c ns es env' =>
        rw [q5] at h4
        exact h4
      | stuck =>
        rw [q5] at h4
        exact h4
    · have e : j = ds.length := by omega
      refine .inl ⟨s2 e, ?_⟩
      subst e
      rw [List.drop_length] at h2
      exact h2 W2 H2 σ2 (Nxt.refl _ _) o2))
end
end DL

set_option Elab.async false
set_option linter.all false
set_option maxRecDepth 100000
set_option maxHeartbeats 4000000
namespace DL
open PySem PySem.Spec L2

/-! ### comprehensions -/
abbrev WF : WX := fun _ _ _ _ => False
/-- one turn after another: n items are there -/
def lcGo (i : Nat) (cond : M Bool) (elt : M D) : Nat → List D → M (List D)
  | _, [] => fun env => .ok [] env
  | n, x :: xs => fun env => match cond (env.set i (some x)) with
    | .ok true env1 => match elt env1 with
      | .ok y env2 => if small n = true then (lcGo i cond elt (n + 1) xs (env2.set i none)).bind fun ys env3 => .ok (y :: ys) env3 else .stuck
      | _ => .stuck
    | .ok false env1 => lcGo i cond elt n xs (env1.set i none)
    | _ => .stuck
def lcM (i : Nat) (fi : M (List D)) (cond : M Bool) (elt : M D) : M D := fun env => (fi env).bind fun ds env1 => match lcGo i cond elt 0 ds (env1.set i none) with
  | .ok ys env3 => .ok (.lst ys) (env3.set i (env1.getD i none))
  | _ => .stuck
def bTrue : M Bool := fun env => .ok true env

section
variable {T : Tx} {ms : Ms} {B : Br} {W : Addr → Prop} {env : En} {σ : St} {H : Hp}
theorem set_none_get {α : Type} {l : List (Option α)} {i j : Nat} {x : α} (h : (l.set i none)[j]? = some (some x)) : j ≠ i ∧ l[j]? = some (some x) := by
  by_cases e : j = i
  · subst e
    by_cases hl : j < l.length
    · rw [List.getElem?_set_self hl] at h
      cases h
    · rw [List.getElem?_eq_none (by rw [List.length_set]; omega)] at h
      cases h
  · rw [List.getElem?_set_ne (Ne.symm e)] at h
    exact ⟨e, h⟩
theorem Ok.wipe {i : Nat} (o : Ok T ms B W env σ H) (hi : ms.contains i = false) (hio : ms.io.contains i = false) : Ok T ms B W (env.set i none) (σ.set i none) H := by
  refine ⟨by rw [List.length_set, List.length_set, o.len], o.wf, fun j e hj he => ?_, fun j e hj he => ?_, fun j k e f a hj hk n he hf s1 s2 => ?_, fun j w h => ?_⟩
  · obtain ⟨n, he⟩ := set_none_get he
    obtain ⟨w, e1, e2⟩ := o.sl j e hj he
    exact ⟨w, by rw [List.getElem?_set_ne (Ne.symm n)]; exact e1, e2⟩
  · obtain ⟨n, he⟩ := set_none_get he
    obtain ⟨w, e1, e2⟩ := o.mu j e hj he
    exact ⟨w, by rw [List.getElem?_set_ne (Ne.symm n)]; exact e1, e2⟩
  · obtain ⟨n1, he⟩ := set_none_get he
    obtain ⟨n2, hf⟩ := set_none_get hf
    rw [List.getElem?_set_ne (Ne.symm n1)] at s1
    rw [List.getElem?_set_ne (Ne.symm n2)] at s2
    exact o.dj j k e f a hj hk n he hf s1 s2
  · obtain ⟨e1, e2, e3, e, e4⟩ := o.fx j w h
    have n : j ≠ i := fun z => by
      rw [z, hio] at e1
      cases e1
    exact ⟨e1, e2, by rw [List.getElem?_set_ne (Ne.symm n)]; exact e3, e, by rw [List.getElem?_set_ne (Ne.symm n)]; exact e4⟩
/-- one more is barred -/
def Br.and (B : Br) (p : Addr) : Br := ⟨fun a => B.b a ∨ a = p, B.fx⟩
theorem Ok.bar {p : Addr} {u : HO} (o : Ok T ms B W env σ H) (hp : H p = none) : Ok T ms (B.and p) W env σ (upd H p u) := by
  have ex : Ext (Bar B W) H (Bar (B.and p) W) (upd H p u) := ⟨fun c z h _ => Same.upd hp c z h, fun c z => by
    rcases z with (z | z) | z
    · exact .inl (.inl z)
    · exact .inr (by rw [z]; exact hp)
    · exact .inl (.inr z)⟩
  refine ⟨o.len, fun c z => ?_, fun i d h e => ?_, fun i d h e => ?_, o.dj, o.fx⟩
  · rcases z with (z | z) | z
    · obtain ⟨q, e⟩ := o.wf c (.inl z)
      exact ⟨q, Same.upd hp c q e⟩
    · exact ⟨u, by rw [z]; exact upd_same⟩
    · obtain ⟨q, e⟩ := o.wf c (.inr z)
      exact ⟨q, Same.upd hp c q e⟩
  · obtain ⟨v, e1, e2⟩ := o.sl i d h e
    exact ⟨v, e1, Rel.ext ex d e2⟩
  · obtain ⟨v, e1, e2⟩ := o.mu i d h e
    exact ⟨v, e1, e2.ext ex fun c z w h => ⟨w, Same.upd hp c z h⟩⟩
/-- what is barred, but not ours, is written by someone -/
theorem Ok.other {p : Addr} {u : HO} (o : Ok T ms B W env σ H) (hp : B.b p) (hw : ¬ W p) : Ok T ms B W env σ (upd H p u) := by
  have ex : Ext (Bar B W) H (Bar B W) (upd H p u) := ⟨fun c z h n => by rw [upd_ne (fun e => n (.inl (by rw [e]; exact hp)))]; exact h, fun c z => .inl z⟩
  refine ⟨o.len, fun c z => ?_, fun i d h e => ?_, fun i d h e => ?_, o.dj, o.fx⟩
  · obtain ⟨q, e⟩ := o.wf c z
    by_cases ec : c = p
    · exact ⟨u, by rw [ec]; exact upd_same⟩
    · exact ⟨q, by rw [upd_ne ec]; exact e⟩
  · obtain ⟨v, e1, e2⟩ := o.sl i d h e
    exact ⟨v, e1, Rel.ext ex d e2⟩
  · obtain ⟨v, e1, e2⟩ := o.mu i d h e
    exact ⟨v, e1, e2.ext ex fun c z w h => ⟨w, by rw [upd_ne (fun e => hw (by rw [← e]; exact w))]; exact h⟩⟩
/-- behind a block: the list at p is ours, slot i is as it was -/
theorem Ok.unblk {i : Nat} {p : Addr} {W0 : Addr → Prop} {H0 : Hp} {env0 : En} (o : Ok T ms (B.and p) W env (σ.set i none) H) (o0 : Ok T ms B W0 env0 σ H0) (hi : ms.contains i = false) (hio : ms.io.contains i = false) (n : Nxt W0 H0 (fun c => W c ∨ c = p) H) (he : env[i]? = some none ∨ env[i]? = none) :
    Ok T ms B (fun c => W c ∨ c = p) (env.set i (env0.getD i none)) σ H := by
  have ex : Ext (Bar (B.and p) W) H (Bar B fun c => W c ∨ c = p) H := ⟨fun c z h _ => h, fun c z => by
    rcases z with z | z | z
    · exact .inl (.inl (.inl z))
    · exact .inl (.inr z)
    · exact .inl (.inl (.inr z))⟩
  have get : ∀ {j : Nat} {e : D}, (env.set i (env0.getD i none))[j]? = some (some e) → (j = i ∧ env0[i]? = some (some e)) ∨ (j ≠ i ∧ env[j]? = some (some e)) := fun {j e} h => by
    by_cases q : j = i
    · subst q
      refine .inl ⟨rfl, ?_⟩
      by_cases hl : j < env.length
      · rw [List.getElem?_set_self hl] at h
        have h2 := Option.some.inj h
        rw [List.getD_eq_getElem?_getD] at h2
        cases q2 : env0[j]? with
        | none =>
          rw [q2] at h2
          cases h2
        | some z =>
          rw [q2] at h2
          rw [show z = some e from h2]
      · rw [List.getElem?_eq_none (by rw [List.length_set]; omega)] at h
        cases h
    · rw [List.getElem?_set_ne (Ne.symm q)] at h
      exact .inr ⟨q, h⟩
  have sg : ∀ {j : Nat} {v : V}, j ≠ i → (σ.set i none)[j]? = some (some v) → σ[j]? = some (some v) := fun q h => by rw [List.getElem?_set_ne (Ne.symm q)] at h; exact h
  refine ⟨by rw [List.length_set, ← o.len, List.length_set], fun c z => ?_, fun j e hj h => ?_, fun j e hj h => ?_, fun j k e f a hj hk nn h1 h2 s1 s2 => ?_, fun j w h => ?_⟩
  · rcases z with z | z | z
    · exact o.wf c (.inl (.inl z))
    · exact o.wf c (.inr z)
    · exact o.wf c (.inl (.inr z))
  · rcases get h with ⟨rfl, h⟩ | ⟨q, h⟩
    · obtain ⟨v, e1, e2⟩ := o0.sl j e hj h
      exact ⟨v, e1, Rel.ext n.ext e e2⟩
    · obtain ⟨v, e1, e2⟩ := o.sl j e hj h
      exact ⟨v, sg q e1, Rel.ext ex e e2⟩
  · rcases get h with ⟨rfl, h⟩ | ⟨q, h⟩
    · rw [hi] at hj; cases hj
    · obtain ⟨v, e1, e2⟩ := o.mu j e hj h
      exact ⟨v, sg q e1, e2.ext ex fun c z w h => ⟨.inl w, h⟩⟩
  · rcases get h1 with ⟨rfl, h1⟩ | ⟨q1, h1⟩
    · rw [hi] at hj; cases hj
    rcases get h2 with ⟨rfl, h2⟩ | ⟨q2, h2⟩
    · rw [hi] at hk; cases hk
    exact o.dj j k e f a hj hk nn h1 h2 (by rw [List.getElem?_set_ne (Ne.symm q1)]; exact s1) (by rw [List.getElem?_set_ne (Ne.symm q2)]; exact s2)
  · obtain ⟨e1, e2, e3, e, e4⟩ := o.fx j w h
    have q : j ≠ i := fun z => by
      rw [z, hio] at e1
      cases e1
    exact ⟨e1, e2, sg q e3, e, by rw [List.getElem?_set_ne (Ne.symm q)]; exact e4⟩
end

section
variable {X : Cx} {ms : Ms} {Wx : WX}
abbrev tmB (X : Cx) (scope : Scope) (e : Expr) : TE := fun σ H Q => ∀ (s0 : Shared) (H0 : Hp) (C : Addr) (cl : List (Str × Addr)) (fp : List Addr), tm (X.blk s0 H0 scope (compEnvC scope cl C X.env) fp) e σ H Q
theorem blk_tx (hc : X.calm = true) {s : Shared} {H : Hp} {scope : Scope} {cenv : Env} {fp : List Addr} : tx (X.blk s H scope cenv fp) = tx X := by
  show Tx.mk _ _ _ (match X.calm with | true => [] | false => _) = Tx.mk _ _ _ (match X.calm with | true => [] | false => _)
  rw [hc]
theorem blk_de (hc : X.calm = true) {s : Shared} {H0 : Hp} {scope : Scope} {cenv : Env} {fp : List Addr} {e : Expr} {f : M D} (h : DE (X.blk s H0 scope cenv fp) Wx ms e f) : ∀ B W env σ H Q, Ok (tx X) ms B W env σ H → Po (tx X) Wx ms B W σ H (rkD (tx X)) (f env) Q → tm (X.blk s H0 scope cenv fp) e σ H Q := by
  unfold DE at h
  rw [blk_tx hc] at h
  exact h
theorem blk_dt (hc : X.calm = true) {s : Shared} {H0 : Hp} {scope : Scope} {cenv : Env} {fp : List Addr} {e : Expr} {f : M Bool} (h : DT (X.blk s H0 scope cenv fp) Wx ms e f) : ∀ B W env σ H Q, Ok (tx X) ms B W env σ H → Po (tx X) Wx ms B W σ H (rkB (tx X)) (f env) Q → tmT (X.blk s H0 scope cenv fp) e σ H Q := by
  unfold DT at h
  rw [blk_tx hc] at h
  exact h
/-- tests of a comprehension, in all blocks -/
def DTs (X : Cx) (ms : Ms) (scope : Scope) (ifs : List Expr) (f : M Bool) : Prop := ∃ t : TT, (∀ (s : Shared) (H : Hp) (C : Addr) (cl : List (Str × Addr)) (fp : List Addr), PTs (X.blk s H scope (compEnvC scope cl C X.env) fp) ifs t) ∧
  ∀ B W env σ H Q, Ok (tx X) ms B W env σ H → Po (tx X) WF ms B W σ H (rkB (tx X)) (f env) Q → t σ H Q
theorem dts_nil {scope : Scope} : DTs X ms scope [] bTrue := ⟨tYes, fun _ _ _ _ _ => pts_nil, fun B W env σ H Q o h => h.done (v := true) o rfl⟩
theorem dts_one {scope : Scope} {c : Expr} {f : M Bool} (hc : X.calm = true) (h : ∀ (s : Shared) (H : Hp) (C : Addr) (cl : List (Str × Addr)) (fp : List Addr), DT (X.blk s H scope (compEnvC scope cl C X.env) fp) WF ms c f) : DTs X ms scope [c] f :=
  ⟨fun σ H Q => ∀ (s0 : Shared) (H0 : Hp) (C : Addr) (cl : List (Str × Addr)) (fp : List Addr), tmT (X.blk s0 H0 scope (compEnvC scope cl C X.env) fp) c σ H Q,
    fun s H C cl fp => pts_one ⟨fun pins s1 σ H1 Q I q => pt_tm.run pins s1 σ H1 Q I (q s H C cl fp)⟩, fun B W env σ H Q o p s0 H0 C cl fp => blk_dt hc (h s0 H0 C cl fp) B W env σ H Q o p⟩
theorem lc_step {i : Nat} {cond : M Bool} {elt : M D} {n : Nat} {x : D} {xs ys : List D} {env env3 : En} (h : lcGo i cond elt n (x :: xs) env = .ok ys env3) :
    ∃ c env1, cond (env.set i (some x)) = .ok c env1 ∧ (c = true → ∃ y env2 zs, elt env1 = .ok y env2 ∧ small n = true ∧ lcGo i cond elt (n + 1) xs (env2.set i none) = .ok zs env3 ∧ ys = y :: zs) ∧ (c = false → lcGo i cond elt n xs (env1.set i none) = .ok ys env3) := by
  have h' : (match cond (env.set i (some x)) with
    | .ok true env1 => match elt env1 with
      | .ok y env2 => if small n = true then (lcGo i cond elt (n + 1) xs (env2.set i none)).bind fun ys env3 => .ok (y :: ys) env3 else .stuck
      | _ => .stuck
    | .ok false env1 => lcGo i cond elt n xs (env1.set i none)
    | _ => .stuck : R (List D)) = .ok ys env3 := h
  cases q : cond (env.set i (some x)) with
  | ok c env1 =>
    rw [q] at h'
    refine ⟨c, env1, rfl, fun e => ?_, fun e => ?_⟩
    · subst e
      cases q2 : elt env1 with
      | ok y env2 =>
        have h2 : (if small n = true then (lcGo i cond elt (n + 1) xs (env2.set i none)).bind fun ys env3 => .ok (y :: ys) env3 else .stuck : R (List D)) = .ok ys env3 := by
          have h3 : (match elt env1 with
            | .ok y env2 => if small n = true then (lcGo i cond elt (n + 1) xs (env2.set i none)).bind fun ys env3 => .ok (y :: ys) env3 else .stuck
            | _ => .stuck : R (List D)) = .ok ys env3 := h'
          rw [q2] at h3
          exact h3
        by_cases q3 : small n = true
        · rw [if_pos q3] at h2
          cases q4 : lcGo i cond elt (n + 1) xs (env2.set i none) with
          | ok zs env4 =>
            rw [q4] at h2
            have h5 : (R.ok (y :: zs) env4 : R (List D)) = .ok ys env3 := h2
            injection h5 with h6 h7
            exact ⟨y, env2, zs, rfl, q3, by rw [← h7]; exact q4, h6.symm⟩
          | err c ns es env => rw [q4] at h2; cases h2
          | stuck => rw [q4] at h2; cases h2
        · rw [if_neg q3] at h2
          cases h2
      | err c ns es env =>
        have h3 : (match elt env1 with
            | .ok y env2 => if small n = true then (lcGo i cond elt (n + 1) xs (env2.set i none)).bind fun ys env3 => .ok (y :: ys) env3 else .stuck
            | _ => .stuck : R (List D)) = .ok ys env3 := h'
        rw [q2] at h3
        cases h3
      | stuck =>
        have h3 : (match elt env1 with
            | .ok y env2 => if small n = true then (lcGo i cond elt (n + 1) xs (env2.set i none)).bind fun ys env3 => .ok (y :: ys) env3 else .stuck
            | _ => .stuck : R (List D)) = .ok ys env3 := h'
        rw [q2] at h3
        cases h3
    · subst e
      exact h'
  | err c ns es env => rw [q] at h'; cases h'
  | stuck => rw [q] at h'; cases h'
theorem R.bind_ok {α β : Type} {r : R α} {k : α → En → R β} {b : β} {e : En} (h : r.bind k = .ok b e) : ∃ a e1, r = .ok a e1 ∧ k a e1 = .ok b e := by
  cases r with
  | ok a e1 => exact ⟨a, e1, rfl, h⟩
  | err c ns es env => cases h
  | stuck => cases h
/-- the reading of a comprehension -/
theorem tm_lc {tg iter elt : Expr} {scope : Scope} {fi : M (List D)} {gc : M Bool} {fe : M D} {tt : TT} (hcalm : X.calm = true) (i : Nat) (hm : ms.contains i = false) (hio : ms.io.contains i = false)
    (hi : DI X Wx ms tg iter fi) (ht : ∀ B W env σ H Q, Ok (tx X) ms B W env σ H → Po (tx X) WF ms B W σ H (rkB (tx X)) (gc env) Q → tt σ H Q)
    (he : ∀ (s : Shared) (H : Hp) (C : Addr) (cl : List (Str × Addr)) (fp : List Addr), DE (X.blk s H scope (compEnvC scope cl C X.env) fp) WF ms elt fe) {B : Br} {W : Addr → Prop} {env : En} {σ : St} {H : Hp} {Q : VK}
    (o : Ok (tx X) ms B W env σ H) (h : Po (tx X) Wx ms B W σ H (rkF (tx X) ms) (lcM i fi gc fe env) Q) : tLc (tmI X tg iter) (gName i) tt (tmB X scope elt) [i] σ H Q := by
  refine hi _ _ _ _ _ _ o (Po.cont (k1 := rkI (tx X)) h fun ds env1 W1 H1 J n1 o1 sv h1 p hp => ?_)
  cases q0 : lcGo i gc fe 0 ds (env1.set i none) with
  | err c ns es env => rw [q0] at h1; exact h1.elim
  | stuck => rw [q0] at h1; exact h1.elim
  | ok ys env3 =>
    rw [q0] at h1
    have pw : ¬ W1 p := fun z => by
      obtain ⟨u, e⟩ := o1.wf p (.inr z)
      rw [hp] at e; cases e
    refine ⟨fun j m H2 => m = ds.length - j ∧ j ≤ ds.length ∧ ∃ W2 env2 acc vs rest, Nxt (fun c => W1 c ∨ c = p) (upd H1 p (.lst [])) (fun c => W2 c ∨ c = p) H2 ∧ ¬ W2 p ∧ Ok (tx X) ms (B.and p) W2 env2 (σ.set i none) H2 ∧ (env2[i]? = some none ∨ env2[i]? = none) ∧
        H2 p = some (.lst vs) ∧ RelL (tx X) (Bar (B.and p) W2) H2 acc vs ∧ lcGo i gc fe acc.length (ds.drop j) env2 = .ok rest env3 ∧ ys = acc ++ rest,
      ⟨ds.length, by simp, Nat.zero_le _, W1, env1.set i none, [], [], ys, Nxt.refl _ _, pw, (o1.wipe hm hio).bar hp, ?_, upd_same, trivial, q0, rfl⟩, ?_⟩
    · by_cases hl : i < env1.length
      · exact .inl (List.getElem?_set_self hl)
      · exact .inr (List.getElem?_eq_none (by rw [List.length_set]; omega))
    rintro j m H2 ⟨rfl, hj, W2, env2, acc, vs, rest, n2, np2, o2, hen, hp2, r2, g2, ey⟩
    have nn : Nxt W1 H1 (fun c => W2 c ∨ c = p) H2 := by
      refine ⟨fun a u e n => n2.keep a u (Same.upd hp a u e) fun z => ?_, fun a z => ?_, fun a u e => n2.live a u (Same.upd hp a u e)⟩
      · rcases z with z | z
        · exact n z
        · rw [z, hp] at e
          cases e
      · rcases n2.new a z with (z | z) | z
        · exact .inl z
        · exact .inr (by rw [z]; exact hp)
        · exact .inr ((Same.upd hp).free z)
    obtain ⟨s1, s2⟩ := sv (Bar (B.and p) W2) H2 ⟨fun a u e n => nn.keep a u e fun z => n (.inr z), fun a z => by
        rcases z with (z | z) | z
        · exact .inl (.inl z)
        · exact .inr (by rw [z]; exact hp)
        · rcases nn.new a (.inl z) with z | z
          · exact .inl (.inr z)
          · exact .inr z⟩ j
    by_cases hlt : j < ds.length
    · obtain ⟨y1, y2⟩ := s1 ds[j] (List.getElem?_eq_getElem hlt)
      rw [List.drop_eq_getElem_cons hlt] at g2
      obtain ⟨c, env4, gc1, gT, gF⟩ := lc_step g2
      refine .inr ⟨y1, fun H' => ∃ W2 env2 acc vs rest, Nxt (fun c => W1 c ∨ c = p) (upd H1 p (.lst [])) (fun c => W2 c ∨ c = p) H' ∧ ¬ W2 p ∧ Ok (tx X) ms (B.and p) W2 env2 (σ.set i none) H' ∧ (env2[i]? = some none ∨ env2[i]? = none) ∧
        H' p = some (.lst vs) ∧ RelL (tx X) (Bar (B.and p) W2) H' acc vs ∧ lcGo i gc fe acc.length (ds.drop (j + 1)) env2 = .ok rest env3 ∧ ys = acc ++ rest, fun H' q => ⟨ds.length - (j + 1), by omega, rfl, hlt, q⟩, fun x H' y => ?_⟩
      obtain ⟨q1, q2⟩ := y2 x H' y
      have o3 : Ok (tx X) ms (B.and p) W2 (env2.set i (some ds[j])) ((σ.set i none).set i (some x)) H' := (o2.same q1).set hm hio q2
      have back : ((σ.set i none).set i (some x)).set i none = σ.set i none := by rw [List.set_set, List.set_set]
      refine ⟨back, ht _ _ _ _ _ _ o3 ?_⟩
      rw [gc1]
      intro W4 H4 b n4 o4 eb
      have eb' : b = c := eb
      subst eb'
      have np4 : ¬ W4 p := fun z => by
        rcases n4.new p z with z | z
        · exact np2 z
        · rw [q1 _ _ hp2] at z; cases z
      have n24 : Nxt (fun c => W1 c ∨ c = p) (upd H1 p (.lst [])) (fun c => W4 c ∨ c = p) H4 := n2.trans ((Nxt.same q1).trans ⟨fun a u e n => n4.keep a u e fun z => n (.inl z), fun a z => by
        rcases z with z | z
        · rcases n4.new a z with z | z
          · exact .inl (.inl z)
          · exact .inr z
        · exact .inl (.inr z), n4.live⟩)
      have wip : ∀ {env' : En} {W' : Addr → Prop} {H' : Hp}, Ok (tx X) ms (B.and p) W' env' ((σ.set i none).set i (some x)) H' → Ok (tx X) ms (B.and p) W' (env'.set i none) (σ.set i none) H' := fun k => by
        have z := k.wipe hm hio
        rw [back] at z
        exact z
      have wen : ∀ env' : En, (env'.set i none)[i]? = some none ∨ (env'.set i none)[i]? = none := fun env' => by
        by_cases hl : i < env'.length
        · exact .inl (List.getElem?_set_self hl)
        · exact .inr (List.getElem?_eq_none (by rw [List.length_set]; omega))
      cases b with
      | true =>
        obtain ⟨y, env5, zs, e1, e2, e3, e4⟩ := gT rfl
        refine iteT fun s0 H0 C cl fp => blk_de hcalm (he s0 H0 C cl fp) _ _ _ _ _ _ o4 ?_
        rw [e1]
        intro W5 H5 v n5 o5 r5
        have hp5 : H5 p = some (.lst vs) := n5.keep _ _ (n4.keep _ _ (q1 _ _ hp2) np2) np4
        have np5 : ¬ W5 p := fun z => by
          rcases n5.new p z with z | z
          · exact np4 z
          · rw [n4.keep _ _ (q1 _ _ hp2) np2] at z; cases z
        have r6 : RelL (tx X) (Bar (B.and p) W5) H5 acc vs := RelL.ext n5.ext _ (RelL.ext n4.ext _ (RelL.ext (Ext.same q1) _ r2))
        have ew : Ext (Bar (B.and p) W5) H5 (Bar (B.and p) W5) (upd H5 p (.lst (vs ++ [v]))) := ⟨fun a u e n => by rw [upd_ne (fun z => n (.inl (.inr z)))]; exact e, fun a z => .inl z⟩
        refine ⟨vs, hp5, by rw [← r6.length]; exact small_lt e2, W5, env5.set i none, acc ++ [y], vs ++ [v], zs, ?_, np5, (wip o5).other (.inr rfl) np5, wen _, upd_same, RelL.ext ew _ (r6.append ⟨r5, trivial⟩), ?_, ?_⟩
        · refine n24.trans ⟨fun a u e n => ?_, fun a z => ?_, fun a u e => ?_⟩
          · rw [upd_ne (fun z => n (.inr z))]
            exact n5.keep a u e fun z => n (.inl z)
          · rcases z with z | z
            · rcases n5.new a z with z | z
              · exact .inl (.inl z)
              · exact .inr z
            · exact .inl (.inr z)
          · by_cases ea : a = p
            · exact ⟨_, by rw [ea]; exact upd_same⟩
            · obtain ⟨u', e'⟩ := n5.live a u e
              exact ⟨u', by rw [upd_ne ea]; exact e'⟩
        · rw [List.length_append]
          exact e3
        · rw [ey, e4, List.append_assoc]
          rfl
      | false =>
        refine iteF ⟨W4, env4.set i none, acc, vs, rest, n24, np4, wip o4, wen _, n4.keep _ _ (q1 _ _ hp2) np2, RelL.ext n4.ext _ (RelL.ext (Ext.same q1) _ r2), gF rfl, ey⟩
    · have e : j = ds.length := by omega
      subst e
      rw [List.drop_length] at g2
      have g3 : (R.ok [] env2 : R (List D)) = .ok rest env3 := g2
      injection g3 with g4 g5
      subst g4 g5
      rw [List.append_nil] at ey
      subst ey
      refine .inl ⟨s2 rfl, h1 (fun c => W2 c ∨ c = p) H2 _ nn (o2.unblk o1 hm hio nn hen) ⟨p, vs, ys, rfl, rfl, .inr rfl, hp, hp2, RelL.ext ⟨fun a u e n => e, fun a z => ?_⟩ _ r2, fun k e hk hek hs => ?_⟩⟩
      · rcases z with z | z | z
        · exact .inl (.inl (.inl z))
        · exact .inl (.inr z)
        · exact .inl (.inl (.inr z))
      · have q : k ≠ i := fun z => by rw [z, hm] at hk; cases hk
        rw [List.getElem?_set_ne (Ne.symm q)] at hek
        obtain ⟨z1, _⟩ := o2.cellAt hk hek (by rw [List.getElem?_set_ne (Ne.symm q)]; exact hs)
        exact np2 z1
theorem df_lc (i : Nat) {x : Str} {px pos : Pos} {iter elt : Expr} {ifs : List Expr} {scope : Scope} {fi : M (List D)} {gc : M Bool} {fe : M D} (hi : DI X Wx ms (.Name x px) iter fi) (ht : DTs X ms scope ifs gc)
    (he : ∀ (s : Shared) (H : Hp) (C : Addr) (cl : List (Str × Addr)) (fp : List Addr), DE (X.blk s H scope (compEnvC scope cl C X.env) fp) WF ms elt fe)
    (hc : X.calm = true) (hN : X.N.Nodup) (ok : BlkOk X.N X.env.scope scope [(x, i)])
    (hg : ∀ (s : Shared) (H : Hp) (C : Addr) (cl : List (Str × Addr)) (fp : List Addr), PG (X.blk s H scope (compEnvC scope cl C X.env) fp) (.Name x px) (gName i))
    (hm : ms.contains i = false := by rfl) (hio : ms.io.contains i = false := by rfl) (hs : ∀ x, foldedSetIterable iter X.env x = pure x := by intro _; rfl) : DF X Wx ms (.ListComp elt [⟨.Name x px, iter, ifs, 0⟩] scope pos) (lcM i fi gc fe) := fun B W env σ H Q o h => by
  obtain ⟨tt, ht1, ht2⟩ := ht
  exact PE.tm (pe_lc hc hN pi_tm ok hg ht1 (fun s H C cl fp => ⟨fun pins s1 σ H1 Q I q => pe_tm.run pins s1 σ H1 Q I (q s H C cl fp)⟩) hs) (tm_lc hc i hm hio hi ht2 he o h)
/-- y = [..] -/
theorem tmS_lcF {kr : Rk (tx X) D V} (k i : Nat) {x y : Str} {px py pos spos : Pos} {iter elt : Expr} {ifs : List Expr} {scope : Scope} {fi : M (List D)} {gc : M Bool} {fe : M D} (hi : DI X Wx ms (.Name x px) iter fi) (ht : DTs X ms scope ifs gc)
    (he : ∀ (s : Shared) (H : Hp) (C : Addr) (cl : List (Str × Addr)) (fp : List Addr), DE (X.blk s H scope (compEnvC scope cl C X.env) fp) WF ms elt fe)
    (hc : X.calm = true) (hN : X.N.Nodup) (ok : BlkOk X.N X.env.scope scope [(x, i)])
    (hg : ∀ (s : Shared) (H : Hp) (C : Addr) (cl : List (Str × Addr)) (fp : List Addr), PG (X.blk s H scope (compEnvC scope cl C X.env) fp) (.Name x px) (gName i))
    (hy : X.N[k]? = some y := by rfl) (hyl : X.env.scope.names.lookup y = some .local := by rfl) (hsw : swapsWith (.ListComp elt [⟨.Name x px, iter, ifs, 0⟩] scope pos) (some (.Name y py)) spos.line X.env = pure true := by exact sw_true rfl rfl rfl (by decide +kernel))
    (hm : ms.contains i = false := by rfl) (hio : ms.io.contains i = false := by rfl) (hk : ms.contains k = true := by rfl) (hkio : ms.io.contains k = false := by rfl) (hs : ∀ x, foldedSetIterable iter X.env x = pure x := by intro _; rfl) :
    DS X Wx ms kr (.Assign [.Name y py] (.ListComp elt [⟨.Name x px, iter, ifs, 0⟩] scope pos) spos) (sSet k (lcM i fi gc fe)) := fun B W env σ H Dn o h => by
  obtain ⟨tt, ht1, ht2⟩ := ht
  refine PS.tm (ps_setLc (i := k) hc hN hy hyl hsw pi_tm ok hg ht1 (fun s H C cl fp => ⟨fun pins s1 σ H1 Q I q => pe_tm.run pins s1 σ H1 Q I (q s H C cl fp)⟩) hs) (tm_lc hc i hm hio hi ht2 he o ?_)
  exact PoS.cont (k1 := rkF (tx X) ms) h fun d env1 W1 H1 v n1 o1 r1 h1 => h1 W1 H1 (σ.set k (some v)) (Nxt.refl W1 H1) (o1.setF hk hkio r1)
theorem tmS_lc {kr : Rk (tx X) D V} (k i : Nat) {x y : Str} {px py pos spos : Pos} {iter elt : Expr} {ifs : List Expr} {scope : Scope} {fi : M (List D)} {gc : M Bool} {fe : M D} (hi : DI X Wx ms (.Name x px) iter fi) (ht : DTs X ms scope ifs gc)
    (he : ∀ (s : Shared) (H : Hp) (C : Addr) (cl : List (Str × Addr)) (fp : List Addr), DE (X.blk s H scope (compEnvC scope cl C X.env) fp) WF ms elt fe)
    (hc : X.calm = true) (hN : X.N.Nodup) (ok : BlkOk X.N X.env.scope scope [(x, i)])
    (hg : ∀ (s : Shared) (H : Hp) (C : Addr) (cl : List (Str × Addr)) (fp : List Addr), PG (X.blk s H scope (compEnvC scope cl C X.env) fp) (.Name x px) (gName i))
    (hy : X.N[k]? = some y := by rfl) (hyl : X.env.scope.names.lookup y = some .local := by rfl) (hsw : swapsWith (.ListComp elt [⟨.Name x px, iter, ifs, 0⟩] scope pos) (some (.Name y py)) spos.line X.env = pure true := by exact sw_true rfl rfl rfl (by decide +kernel))
    (hm : ms.contains i = false := by rfl) (hio : ms.io.contains i = false := by rfl) (hk : ms.contains k = false := by rfl) (hkio : ms.io.contains k = false := by rfl) (hs : ∀ x, foldedSetIterable iter X.env x = pure x := by intro _; rfl) :
    DS X Wx ms kr (.Assign [.Name y py] (.ListComp elt [⟨.Name x px, iter, ifs, 0⟩] scope pos) spos) (sSet k (lcM i fi gc fe)) := fun B W env σ H Dn o h => by
  obtain ⟨tt, ht1, ht2⟩ := ht
  refine PS.tm (ps_setLc (i := k) hc hN hy hyl hsw pi_tm ok hg ht1 (fun s H C cl fp => ⟨fun pins s1 σ H1 Q I q => pe_tm.run pins s1 σ H1 Q I (q s H C cl fp)⟩) hs) (tm_lc hc i hm hio hi ht2 he o ?_)
  have key := PoS.cont (k1 := rkD (tx X)) (Q1 := fun v H1 => Dn.nx (σ.set k (some v)) H1) h fun d env1 W1 H1 v n1 o1 r1 h1 => h1 W1 H1 (σ.set k (some v)) (Nxt.refl W1 H1) (o1.set hk hkio r1)
  cases q : lcM i fi gc fe env with
  | ok a env' =>
    rw [q] at key
    intro W' H' v n o' z
    obtain ⟨c, vs, l, rfl, rfl, hw, h0, hl, rl, hf⟩ := z
    refine key (fun b => W' b ∧ b ≠ c) H' _ ⟨n.keep, fun b w => n.new b w.1, n.live⟩ (o'.less hf) ⟨c, vs, rfl, hl, fun b => ?_, RelL.ext ⟨fun b u h _ => h, fun b w => ?_⟩ l rl⟩
    · rcases b with b | b
      · obtain ⟨u, e⟩ := o.wf c (.inl b)
        rw [h0] at e; cases e
      · exact b.2 rfl
    · rcases w with w | w
      · exact .inl (.inl w)
      · exact .inl (.inr w.1)
  | err c ns ds env' =>
    rw [q] at key
    exact key
  | stuck =>
    rw [q] at key
    exact key
end
end DL

set_option Elab.async false
set_option linter.all false
set_option maxRecDepth 100000
set_option maxHeartbeats 4000000
namespace DL
open PySem PySem.Spec L2

/-! ### what a def does -/
inductive Rs where
  | ok (d : D) (io : Option D) | err (c : Nat) (ns : List Nat) (ds : List D) (io : Option D) | stuck
def ioOf (io : Option Nat) (env : En) : Option D := match io with
  | none => none
  | some i => env.getD i none
/-- a def's body run: n slots; io: the place of a list (or an instance) that is handed in and changed; fr: the answer is a new list -/
def runF (n : Nat) (io : Option Nat) (fr : Bool) (body : M Fl) (ds : List D) : Rs := match body (ds.map some ++ List.replicate (n - ds.length) none) with
  | .ok (.rt d) env => .ok d (ioOf io env)
  | .ok .nx env => if fr = true then .stuck else .ok .non (ioOf io env)
  | .err c ns es env => .err c ns es (ioOf io env)
  | _ => .stuck
def IoCell (T : Tx) (io : Option Nat) (vs : List V) (B W : Addr → Prop) (H : Hp) (iod : Option D) : Prop := ∀ i, io = some i → ∃ x dv, vs[i]? = some x ∧ iod = some dv ∧ Cell T (fun a => B a ∨ W a) W H dv x
def Ans (T : Tx) (fr : Bool) (B W W' : Addr → Prop) (H' : Hp) (d : D) (v : V) : Prop := if fr = true then ∃ a vs l, d = .lst l ∧ v = .ref a ∧ W' a ∧ ¬ W a ∧ H' a = some (.lst vs) ∧ RelL T (fun a => B a ∨ W' a) H' l vs else Rel T (fun a => B a ∨ W' a) H' d v
/-- the promise of a def that does m -/
def SpD (T : Tx) (np : Nat) (io : Option Nat) (fr : Bool) (m : List D → Rs) : Sp := fun vs H Q E => ∃ (B W : Addr → Prop) (ds : List D), vs.length = np ∧ ds.length = np ∧ (∀ a, B a ∨ W a → ∃ o, H a = some o) ∧
  (∀ i d v, ds[i]? = some d → vs[i]? = some v → (io ≠ some i → Rel T (fun a => B a ∨ W a) H d v) ∧ (io = some i → Cell T (fun a => B a ∨ W a) W H d v ∧ ∀ a, W a → v = .ref a)) ∧ (io = none → ∀ a, ¬ W a) ∧ (∀ i, io = some i → i < np) ∧
  match m ds with
  | .ok d iod => ∀ W' H' v, Nxt W H W' H' → IoCell T io vs B W' H' iod → Ans T fr B W W' H' d v → Q v H'
  | .err c ns es iod => ∀ W' H' dx ws, Nxt W H W' H' → IoCell T io vs B W' H' iod → H dx = none → H' dx = some (.xd ((nms ns).zip ws)) → ns.length = ws.length → RelL T (fun a => B a ∨ W' a) H' es ws → E (.ref (He.ga T.K (nm c))) (some dx) H'
  | .stuck => False

/-- the slots of a def: those of its parameters that are cells (io), its own cells -/
def MsOk (ms : Ms) (np : Nat) (io : Option Nat) : Prop := (∀ i, i < np → (ms.contains i = true ↔ io = some i)) ∧ ∀ i, io = some i → ms.io.contains i = true
theorem get_start {α : Type} {l : List α} {n i : Nat} {x : α} (h : (l.map some ++ List.replicate n none)[i]? = some (some x)) : l[i]? = some x := by
  by_cases hl : i < l.length
  · rw [List.getElem?_append_left (by rw [List.length_map]; exact hl), List.getElem?_map] at h
    cases q : l[i]? with
    | none => rw [q] at h; cases h
    | some y =>
      rw [q] at h
      have e : some y = some x := Option.some.inj h
      exact e
  · rw [List.getElem?_append_right (by rw [List.length_map]; omega), List.getElem?_replicate] at h
    split at h <;> cases h
theorem start_get {α : Type} {l : List α} {n i : Nat} {x : α} (h : l[i]? = some x) : (l.map some ++ List.replicate n none)[i]? = some (some x) := by
  rw [List.getElem?_append_left (by rw [List.length_map]; exact (List.getElem?_eq_some_iff.mp h).1), List.getElem?_map, h]
  rfl
section
variable {P : Program} {w : World} {K : PySem.W.Frag} {mg : Str → Option Value} {base : Heap} {x qual : Str} {params : Arguments} {body : List Stmt} {scope : Scope} {dvs : List V} {kws : List (Str × V)} {f : Addr} {fd : FuncData}
abbrev xof (P : Program) (w : World) (K : PySem.W.Frag) (mg : Str → Option Value) (base : Heap) (N : List Str) (qual : Str) (scope : Scope) (f : Addr) (cdv : Value) (A : Around) (outer : List Env) (s : Shared) (H : Hp) (E : XK) : Cx := cxOf (L2.CX P w) P w K mg base N qual scope f cdv A outer s H E
/-- a def's entry: its state, what is to be shown of its body -/
theorem sp_enter {N ps : List Str} {ms : Ms} {io : Option Nat} {fr : Bool} {g : M Fl} {vs : List V} {H : Hp} {Q : VK} {E : XK} (hms : MsOk ms ps.length io) (hN : ps.length ≤ N.length) (h : SpD ⟨K, P, w, []⟩ ps.length io fr (runF N.length io fr g) vs H Q E) :
    ∃ (Bx : Br) (W : Addr → Prop) (env : En), Ok ⟨K, P, w, []⟩ ms Bx W env (L2.start N vs) H ∧ PoS ⟨K, P, w, []⟩ (fun cls d _ H => E cls d H) ms (if fr = true then rkR ⟨K, P, w, []⟩ else rkD ⟨K, P, w, []⟩) Bx W H (g env) { nx := fun _ H' => Q .non H', rt := Q } := by
  obtain ⟨B, W, ds, hv, hd, wf, args, hw, hio, h⟩ := h
  have o : Ok ⟨K, P, w, []⟩ ms ⟨B, fun i => if io = some i then vs[i]? else none⟩ W (ds.map some ++ List.replicate (N.length - ds.length) none) (L2.start N vs) H := by
    refine ⟨?_, wf, fun i d hm he => ?_, fun i d hm he => ?_, fun i j d e a hi hj n he hf' s1 s2 => ?_, fun i v h => ?_⟩
    · unfold L2.start
      rw [List.length_append, List.length_append, List.length_map, List.length_map, List.length_replicate, List.length_replicate, hv, hd]
    · have e1 := get_start he
      have il : i < ps.length := by rw [← hd]; exact (List.getElem?_eq_some_iff.mp e1).1
      have iv : i < vs.length := by rw [hv]; exact il
      have e2 : vs[i]? = some vs[i] := List.getElem?_eq_getElem iv
      refine ⟨vs[i], start_get e2, (args i d _ e1 e2).1 fun z => ?_⟩
      rw [(hms.1 i il).mpr z] at hm
      cases hm
    · have e1 := get_start he
      have il : i < ps.length := by rw [← hd]; exact (List.getElem?_eq_some_iff.mp e1).1
      have iv : i < vs.length := by rw [hv]; exact il
      have e2 : vs[i]? = some vs[i] := List.getElem?_eq_getElem iv
      exact ⟨vs[i], start_get e2, ((args i d _ e1 e2).2 ((hms.1 i il).mp hm)).1⟩
    · have i1 : i < ps.length := by rw [← hd]; exact (List.getElem?_eq_some_iff.mp (get_start he)).1
      have j1 : j < ps.length := by rw [← hd]; exact (List.getElem?_eq_some_iff.mp (get_start hf')).1
      have z1 := (hms.1 i i1).mp hi
      have z2 := (hms.1 j j1).mp hj
      rw [z1] at z2
      exact n (Option.some.inj z2)
    · have h' : (if io = some i then vs[i]? else none) = some v := h
      by_cases q : io = some i
      · rw [if_pos q] at h'
        have il := hio i q
        have e1 : ds[i]? = some (ds[i]'(by rw [hd]; exact il)) := List.getElem?_eq_getElem _
        exact ⟨hms.2 i q, (hms.1 i il).mpr q, start_get h', _, start_get e1⟩
      · rw [if_neg q] at h'
        cases h'
  refine ⟨_, _, _, o, ?_⟩
  have cell : ∀ {W' : Addr → Prop} {env' : En} {σ' : L2.St} {H' : Hp}, Ok ⟨K, P, w, []⟩ ms ⟨B, fun i => if io = some i then vs[i]? else none⟩ W' env' σ' H' → IoCell ⟨K, P, w, []⟩ io vs B W' H' (ioOf io env') := fun {W' env' σ' H'} o' i hi => by
    have il := hio i hi
    have e2 : vs[i]? = some (vs[i]'(by rw [hv]; exact il)) := List.getElem?_eq_getElem _
    obtain ⟨f1, f2, f3, d, f4⟩ := o'.fx i _ (show (if io = some i then vs[i]? else none) = some _ by rw [if_pos hi]; exact e2)
    obtain ⟨v, g1, g2⟩ := o'.mu i d f2 f4
    rw [f3] at g1
    have g3 := Option.some.inj (Option.some.inj g1)
    subst g3
    refine ⟨_, d, e2, ?_, g2⟩
    rw [hi]
    show env'.getD i none = some d
    rw [List.getD_eq_getElem?_getD, f4]
    rfl
  have er : runF N.length io fr g ds = match g (ds.map some ++ List.replicate (N.length - ds.length) none) with
    | .ok (.rt d) env => .ok d (ioOf io env)
    | .ok .nx env => if fr = true then .stuck else .ok .non (ioOf io env)
    | .err c ns es env => .err c ns es (ioOf io env)
    | _ => .stuck := rfl
  rw [er] at h
  cases q : g (ds.map some ++ List.replicate (N.length - ds.length) none) with
  | stuck => rw [q] at h; exact h.elim
  | err c ns es env' =>
    rw [q] at h
    exact fun W' H' σ' dx ws n o' z1 z2 z3 z4 => h W' H' dx ws n (cell o') z1 z2 z3 z4
  | ok a env' =>
    rw [q] at h
    cases a with
    | bk => exact h.elim
    | ct => exact h.elim
    | nx =>
      cases fr with
      | true => exact h.elim
      | false => exact fun W' H' σ' n o' => h W' H' .non n (cell o') rfl
    | rt d =>
      cases fr with
      | false => exact fun W' H' σ' v n o' z => h W' H' v n (cell o') z
      | true =>
        intro W' H' σ' v n o' z
        obtain ⟨a, us, l, rfl, rfl, z1, z2, z3, z4⟩ := z
        refine h W' H' _ n (cell o') ⟨a, us, l, rfl, rfl, z1, fun wa => ?_, z2, z3⟩
        cases qi : io with
        | none => exact hw qi a wa
        | some i =>
          have il := hio i qi
          have e1 : ds[i]? = some (ds[i]'(by rw [hd]; exact il)) := List.getElem?_eq_getElem _
          have e2 : vs[i]? = some (vs[i]'(by rw [hv]; exact il)) := List.getElem?_eq_getElem _
          refine z4 i _ (show (if io = some i then vs[i]? else none) = some _ by rw [if_pos qi]; exact e2) (((args i _ _ e1 e2).2 qi).2 a wa)
/-- THE RULE for a def -/
theorem fnD {N ps : List Str} {k : Nat} {ms : Ms} {io : Option Nat} {fr : Bool} {g : M Fl} (F : FunD K x qual params body scope dvs kws f fd) (S : FnScope N ps scope) (hms : MsOk ms ps.length io) (hN : ps.length ≤ N.length)
    (hb : ∀ (cdv : Value) (A : Around) (outer : List Env) (s : Shared) (H : Hp) (E : XK), Room k (A.deeper (PyProof.Rows.envOfC qual scope s.heap.objs.size f cdv)) →
      DSs (xof P w K mg base N qual scope f cdv A outer s H E) (fun cls d _ H => E cls d H) ms (if fr = true then rkR ⟨K, P, w, []⟩ else rkD ⟨K, P, w, []⟩) body g) :
    FnOk P w K mg base (L2.CX P w) (k + 1) f fd ps (SpD ⟨K, P, w, []⟩ ps.length io fr (runF N.length io fr g)) := by
  refine F.ok S (fun vs H Q E h => ?_) (fun cdv A outer s H vs Q E hr h => ⟨_, pss_tm, ?_⟩)
  · obtain ⟨B, W, ds, h1, _⟩ := h
    exact h1
  · obtain ⟨Bx, W, env, o, p⟩ := sp_enter hms hN h
    exact hb cdv A outer s H E hr Bx W env _ _ _ o p
end

/-! ### calls -/
theorem Rel.anti {T : Tx} {B B' : Addr → Prop} {H : Hp} {d : D} {v : V} (h : ∀ a, B' a → B a) (r : Rel T B H d v) : Rel T B' H d v := Rel.ext ⟨fun _ _ e _ => e, fun a b => .inl (h a b)⟩ d r
theorem RelL.anti {T : Tx} {B B' : Addr → Prop} {H : Hp} {d : List D} {v : List V} (h : ∀ a, B' a → B a) (r : RelL T B H d v) : RelL T B' H d v := RelL.ext ⟨fun _ _ e _ => e, fun a b => .inl (h a b)⟩ d r
section
variable {T : Tx} {ms : Ms} {B : Br} {W : Addr → Prop} {env : En} {σ : L2.St} {H H' : Hp}
/-- behind a call that changed nothing of ours -/
theorem Ok.kept (o : Ok T ms B W env σ H) (k : ∀ a u, H a = some u → H' a = some u) : Ok T ms B W env σ H' := o.same k
/-- behind a call that changed our cell at a, slot j; some of its new things are ours now -/
theorem Ok.called {W' : Addr → Prop} {j : Nat} {a : Addr} {d d' : D} (o : Ok T ms B W env σ H) (hj : ms.contains j = true) (he : env[j]? = some (some d)) (hs : σ[j]? = some (some (.ref a))) (hW : ∀ c, W c → W' c) (hn : ∀ c, W' c → W c ∨ H c = none) (hl : ∀ c, W' c → ∃ u, H' c = some u)
    (k : ∀ c u, H c = some u → c ≠ a → H' c = some u) (lv : ∀ c u, H c = some u → ∃ u', H' c = some u') (c : Cell T (Bar B W') W' H' d' (.ref a)) : Ok T ms B W' (env.set j (some d')) σ H' := by
  obtain ⟨hw, u0, hu⟩ := o.cellAt hj he hs
  have ex : Ext (Bar B W) H (Bar B W') H' := ⟨fun c z h n => k c z h fun e => n (.inr (by rw [e]; exact hw)), fun c z => by
    rcases z with z | z
    · exact .inl (.inl z)
    · rcases hn c z with z | z
      · exact .inl (.inr z)
      · exact .inr z⟩
  have get : ∀ {i : Nat} {e : D}, (env.set j (some d'))[i]? = some (some e) → (i = j ∧ e = d') ∨ (i ≠ j ∧ env[i]? = some (some e)) := fun h => set_get h
  refine ⟨by rw [List.length_set, o.len], fun b z => ?_, fun i e hi h => ?_, fun i e hi h => ?_, fun i l e f b hi hl n h1 h2 s1 s2 => ?_, fun i w h => ?_⟩
  · rcases z with z | z
    · obtain ⟨q, hq⟩ := o.wf b (.inl z)
      exact lv b q hq
    · exact hl b z
  · rcases get h with ⟨rfl, rfl⟩ | ⟨n, h⟩
    · rw [hj] at hi; cases hi
    · obtain ⟨w, e1, e2⟩ := o.sl i e hi h
      exact ⟨w, e1, Rel.ext ex e e2⟩
  · rcases get h with ⟨rfl, rfl⟩ | ⟨n, h⟩
    · exact ⟨_, hs, c⟩
    · obtain ⟨w, e1, e2⟩ := o.mu i e hi h
      refine ⟨w, e1, ?_⟩
      have na : w ≠ .ref a := fun z => o.dj i j e d a hi hj n h he (by rw [e1, z]) hs
      cases e with
      | lst l =>
        obtain ⟨b, vs, rfl, e5, e6, e7⟩ := e2
        exact ⟨b, vs, rfl, hW _ e5, k _ _ e6 fun z => na (by rw [z]), RelL.ext ex _ e7⟩
      | obj c ns ds =>
        obtain ⟨b, dx, vs, rfl, e5, e6, e7, e8⟩ := e2
        exact ⟨b, dx, vs, rfl, hW _ e5, k _ _ e6 fun z => na (by rw [z]), e7, RelL.ext ex _ e8⟩
      | dic t ks ds =>
        obtain ⟨b, vs, rfl, e5, e6, e7, e8⟩ := e2
        exact ⟨b, vs, rfl, hW _ e5, k _ _ e6 fun z => na (by rw [z]), e7, RelL.ext ex _ e8⟩
      | _ => exact e2.elim
  · have g1 : ∃ e', env[i]? = some (some e') := by
      rcases get h1 with ⟨rfl, rfl⟩ | ⟨n, h⟩
      · exact ⟨d, he⟩
      · exact ⟨e, h⟩
    have g2 : ∃ e', env[l]? = some (some e') := by
      rcases get h2 with ⟨rfl, rfl⟩ | ⟨n, h⟩
      · exact ⟨d, he⟩
      · exact ⟨f, h⟩
    obtain ⟨e1, g1⟩ := g1
    obtain ⟨e2, g2⟩ := g2
    exact o.dj i l e1 e2 b hi hl n g1 g2 s1 s2
  · obtain ⟨e1, e2, e3, e, e4⟩ := o.fx i w h
    by_cases hi : i = j
    · exact ⟨e1, e2, e3, d', by rw [hi, List.getElem?_set_self (List.getElem?_eq_some_iff.mp he).1]⟩
    · exact ⟨e1, e2, e3, e, by rw [List.getElem?_set_ne (Ne.symm hi)]; exact e4⟩
end
section
variable {X : Cx} {Wx : WX} {ms : Ms} {m : List D → Rs} {ddl : List D} {dvs : List V} {np : Nat}
theorem RelL.nth {T : Tx} {B : Addr → Prop} {H : Hp} : ∀ {ds : List D} {vs : List V} {i : Nat} {d : D} {v : V}, RelL T B H ds vs → ds[i]? = some d → vs[i]? = some v → Rel T B H d v := fun r h1 h2 => by
  obtain ⟨v', e1, e2⟩ := r.get h1
  rw [h2] at e1
  cases e1
  exact e2
/-- the promise at a call without a cell; the answer known -/
theorem sp_call {B : Br} {W : Addr → Prop} {env : En} {σ : L2.St} {H : Hp} {Q : VK} {ds : List D} {vs : List V} (o : Ok (tx X) ms B W env σ H) (r : RelL (tx X) (Bar B W) H ds vs) (hdv : ∀ B H, RelL (tx X) B H ddl dvs) (hn : (ds ++ ddl).length = np)
    (h : Po (tx X) Wx ms B W σ H (rkD (tx X)) (match m (ds ++ ddl) with | .ok d _ => .ok d env | .err c ns es _ => .err c ns es env | .stuck => .stuck) Q) : SpD (tx X) np none false m (vs ++ dvs) H Q (WE Wx σ) := by
  have r2 : RelL (tx X) (Bar B W) H (ds ++ ddl) (vs ++ dvs) := r.append (hdv _ _)
  have an : ∀ a, Bar B W a ∨ False → Bar B W a := fun a z => z.elim id False.elim
  refine ⟨Bar B W, fun _ => False, ds ++ ddl, by rw [← r2.length]; exact hn, hn, fun a z => o.wf a (an a z), fun i d v e1 e2 => ⟨fun _ => Rel.anti an (r2.nth e1 e2), (fun z => by cases z)⟩, fun _ _ z => z, (fun i z => by cases z), ?_⟩
  cases q : m (ds ++ ddl) with
  | stuck => rw [q] at h; exact h
  | ok d iod =>
    rw [q] at h
    intro W' H' v n _ z
    have sm : Same H H' := fun a u e => n.keep a u e fun z => z
    exact h W H' v (Nxt.same sm) (o.same sm) (Rel.anti (fun a b => .inl b) z)
  | err c ns es iod =>
    rw [q] at h
    intro W' H' dx ws n _ z1 z2 z3 z4
    have sm : Same H H' := fun a u e => n.keep a u e fun z => z
    exact h W H' dx ws (Nxt.same sm) (o.same sm) z1 z2 z3 (RelL.anti (fun a b => .inl b) z4)
/-- .. the answer a new list -/
theorem sp_callF {B : Br} {W : Addr → Prop} {env : En} {σ : L2.St} {H : Hp} {Q : VK} {ds : List D} {vs : List V} (o : Ok (tx X) ms B W env σ H) (r : RelL (tx X) (Bar B W) H ds vs) (hdv : ∀ B H, RelL (tx X) B H ddl dvs) (hn : (ds ++ ddl).length = np)
    (h : Po (tx X) Wx ms B W σ H (rkF (tx X) ms) (match m (ds ++ ddl) with | .ok d _ => .ok d env | .err c ns es _ => .err c ns es env | .stuck => .stuck) Q) : SpD (tx X) np none true m (vs ++ dvs) H Q (WE Wx σ) := by
  have r2 : RelL (tx X) (Bar B W) H (ds ++ ddl) (vs ++ dvs) := r.append (hdv _ _)
  have an : ∀ a, Bar B W a ∨ False → Bar B W a := fun a z => z.elim id False.elim
  refine ⟨Bar B W, fun _ => False, ds ++ ddl, by rw [← r2.length]; exact hn, hn, fun a z => o.wf a (an a z), fun i d v e1 e2 => ⟨fun _ => Rel.anti an (r2.nth e1 e2), (fun z => by cases z)⟩, fun _ _ z => z, (fun i z => by cases z), ?_⟩
  cases q : m (ds ++ ddl) with
  | stuck => rw [q] at h; exact h
  | ok d iod =>
    rw [q] at h
    intro W' H' v n _ z
    have sm : Same H H' := fun a u e => n.keep a u e fun z => z
    obtain ⟨a, us, l, rfl, rfl, z1, z2, z3, z4⟩ := z
    have ha : H a = none := (n.new a z1).elim (fun z => z.elim) id
    have ex : Ext (Bar B W) H (Bar B fun c => W c ∨ c = a) H' := ⟨fun c u e _ => sm c u e, fun c z => by
      rcases z with z | z | z
      · exact .inl (.inl z)
      · exact .inl (.inr z)
      · exact .inr (by rw [z]; exact ha)⟩
    refine h (fun c => W c ∨ c = a) H' _ ⟨fun c u e _ => sm c u e, fun c z => ?_, fun c u e => ⟨u, sm c u e⟩⟩ ⟨o.len, fun c z => ?_, fun i d hi e => ?_, fun i d hi e => ?_, o.dj, o.fx⟩
      ⟨a, us, l, rfl, rfl, .inr rfl, ha, z3, RelL.anti (fun c b => ?_) z4, fun i e hi he hs => ?_⟩
    · rcases z with z | z
      · exact .inl z
      · exact .inr (by rw [z]; exact ha)
    · rcases z with z | z | z
      · obtain ⟨u, e⟩ := o.wf c (.inl z)
        exact ⟨u, sm c u e⟩
      · obtain ⟨u, e⟩ := o.wf c (.inr z)
        exact ⟨u, sm c u e⟩
      · exact ⟨_, by rw [z]; exact z3⟩
    · obtain ⟨v, e1, e2⟩ := o.sl i d hi e
      exact ⟨v, e1, Rel.ext ex d e2⟩
    · obtain ⟨v, e1, e2⟩ := o.mu i d hi e
      exact ⟨v, e1, e2.ext ex fun c u w e => ⟨.inl w, sm c u e⟩⟩
    · rcases b with b | b | b
      · exact .inl (.inl b)
      · exact .inl (.inr b)
      · exact .inr (by rw [b]; exact z1)
    · obtain ⟨_, u, hu⟩ := o.cellAt hi he hs
      rw [ha] at hu; cases hu
  | err c ns es iod =>
    rw [q] at h
    intro W' H' dx ws n _ z1 z2 z3 z4
    have sm : Same H H' := fun a u e => n.keep a u e fun z => z
    exact h W H' dx ws (Nxt.same sm) (o.same sm) z1 z2 z3 (RelL.anti (fun a b => .inl b) z4)
end
end DL

set_option Elab.async false
set_option linter.all false
set_option maxRecDepth 100000
set_option maxHeartbeats 4000000
namespace DL
open PySem PySem.Spec L2

/-- a def that is called by place -/
abbrev Fn (X : Cx) (k : Nat) (f : Addr) (np : Nat) (io : Option Nat) (fr : Bool) (m : List D → Rs) : Prop := FnR X.prog X.w X.K X.mg X.base (L2.CX X.prog X.w) k f (SpD (tx X) np io fr m)
section
variable {P : Program} {w : World} {K : PySem.W.Frag} {mg : Str → Option Value} {base : Heap} {k : Nat} {f : Addr} {fd : FuncData} {ps : List Str} {io : Option Nat} {fr : Bool} {m : List D → Rs}
/-- every parameter is given -/
theorem fnR_all (F : FnOk P w K mg base (L2.CX P w) k f fd ps (SpD ⟨K, P, w, []⟩ ps.length io fr m)) (hb : Binds K fd ps []) : FnR P w K mg base (L2.CX P w) k f (SpD ⟨K, P, w, []⟩ ps.length io fr m) :=
  (FnOk.raw F hb .nil).imp fun vs H Q E h => by rw [List.append_nil]; exact h
/-- the last ones are defaults -/
theorem fnR_dfl (n : Nat) (ddl : List D) {dvs : List V} {ds : List Value} (F : FnOk P w K mg base (L2.CX P w) k f fd ps (SpD ⟨K, P, w, []⟩ ps.length io fr m)) (hb : Binds K fd ps ds) (hd : Vals dvs ds) (hdv : ∀ B H, RelL ⟨K, P, w, []⟩ B H ddl dvs) (hn : n + ddl.length = ps.length) (hi : ∀ i, io = some i → i < n) :
    FnR P w K mg base (L2.CX P w) k f (SpD ⟨K, P, w, []⟩ n io fr fun l => m (l ++ ddl)) :=
  (FnOk.raw F hb hd).imp fun vs H Q E h => by
    obtain ⟨B, W, es, h1, h2, h3, h4, h5, h6, h7⟩ := h
    have hl : ddl.length = dvs.length := (hdv B H).length
    refine ⟨B, W, es ++ ddl, by rw [List.length_append, h1, ← hl, hn], by rw [List.length_append, h2, hn], h3, fun i d v e1 e2 => ?_, h5, fun i e => Nat.lt_of_lt_of_le (hi i e) (by omega), ?_⟩
    · by_cases q : i < n
      · rw [List.getElem?_append_left (by omega)] at e1 e2
        exact h4 i d v e1 e2
      · rw [List.getElem?_append_right (by omega)] at e1 e2
        rw [h2] at e1
        rw [h1] at e2
        exact ⟨fun _ => (hdv _ _).nth e1 e2, fun e => absurd (hi i e) q⟩
    · have io_lt : ∀ {W' : Addr → Prop} {H' : Hp} {iod : Option D}, IoCell ⟨K, P, w, []⟩ io (vs ++ dvs) B W' H' iod → IoCell ⟨K, P, w, []⟩ io vs B W' H' iod := fun {W' H' iod} z i e => by
        obtain ⟨x, dv, e1, e2, e3⟩ := z i e
        rw [List.getElem?_append_left (by rw [h1]; exact hi i e)] at e1
        exact ⟨x, dv, e1, e2, e3⟩
      cases q : m (es ++ ddl) with
      | ok d iod =>
        simp only [q] at h7 ⊢
        exact fun W' H' v n c => h7 W' H' v n (io_lt c)
      | err c ns gs iod =>
        simp only [q] at h7 ⊢
        exact fun W' H' dx ws n c => h7 W' H' dx ws n (io_lt c)
      | stuck =>
        simp only [q] at h7
end
section
variable {X : Cx} {k : Nat} {f : Addr} {sp : Sp} {E : St → XK} {x : Str} {p pos : Pos} {e : Expr} {es : List Expr}
theorem run_fnRS {pins : List (Addr × Obj)} {σ : St} {H : Hp} {s : Shared} {Q : VK} {us : List Value} {vs : List V} (F : FnR X.prog X.w X.K X.mg X.base (L2.CX X.prog X.w) k f sp) (hr : Room k X.A) (hx : PassesAt (L2.CX X.prog X.w) X σ (E σ)) (I : Inv X pins σ H s) (r : Vals vs us) (h : sp vs H Q (E σ)) :
    codeAny (model X.prog X.w) X.A (.call (.ref f) ⟨us, []⟩) (fun r s' => match r with | .ok (.ret v) => EP X pins σ Q v s' | .ok _ => False | .error e => X.xe e s') s := by
  refine codeAny_mono (F X.A X.stack s H us vs Q (E σ) hr I.env0 r h) fun r s' hq => ?_
  cases r with
  | error e => exact hx pins H s e s' I hq
  | ok fl =>
    cases fl with
    | ret u => exact I.after hq
    | next => exact False.elim hq
    | brk => exact False.elim hq
    | cont => exact False.elim hq
theorem tm_call (F : FnR X.prog X.w X.K X.mg X.base (L2.CX X.prog X.w) k f sp) (hr : Room k X.A) (hg : Gl X x) (hm : X.mg x = some (.ref f)) (hk : PySem.W.keepIn X.K (.ref f) = true) (hx : ∀ σ, PassesAt (L2.CX X.prog X.w) X σ (E σ)) {σ : St} {H : Hp} {Q : VK}
    (ha : tmA X (e :: es) σ H fun vs H1 => sp vs H1 Q (E σ)) (hdb : (x == ("__debug__" : Str)) = false := by decide) (he : starEach (e :: es) X.env = (false, eval e X.env) :: starEach es X.env := by rfl) (hpl : (backTo pos (starEach es X.env)).any (·.1) = false := by rfl) :
    tm X (.Call (.Name x p) (e :: es) [] pos) σ H Q := by
  unfold tm
  intro pins s I
  refine wpAny_Call_Name_kw (ld_glob I hg hm ?_ hdb)
  refine PySem.W.callWith_K (h₀ := X.base) I.ok.mod.kin hk (thn (pa_tm.run pos pins s _ _ _ I ha) fun us s1 ⟨vs, H1, I1, r, q⟩ => ⟨I1.kIn, ?_⟩) he hpl
  exact wpAny_call (run_fnRS F hr (hx σ) I1 r q)
theorem tm_call0 (F : FnR X.prog X.w X.K X.mg X.base (L2.CX X.prog X.w) k f sp) (hr : Room k X.A) (hg : Gl X x) (hm : X.mg x = some (.ref f)) (hk : PySem.W.keepIn X.K (.ref f) = true) (hx : ∀ σ, PassesAt (L2.CX X.prog X.w) X σ (E σ)) {σ : St} {H : Hp} {Q : VK}
    (ha : sp [] H Q (E σ)) (hdb : (x == ("__debug__" : Str)) = false := by decide) : tm X (.Call (.Name x p) [] [] pos) σ H Q := by
  unfold tm
  intro pins s I
  refine wpAny_Call_Name_kw (ld_glob I hg hm ?_ hdb)
  exact PySem.W.callWith_K0 I.kIn hk (wpAny_call (run_fnRS (us := []) F hr (hx σ) I .nil ha))
end

/-! ### mirrors of calls -/
def cCall (np : Nat) (m : List D → Rs) (fs : M (List D)) : M D := fun env => (fs env).bind fun ds env1 => if ds.length = np then (match m ds with
  | .ok d _ => .ok d env1
  | .err c ns es _ => .err c ns es env1
  | .stuck => .stuck) else .stuck
def ioRun (j : Nat) (r : Rs) (env : En) : R D := match r with
  | .ok d (some io) => .ok d (env.set j (some io))
  | .err c ns es (some io) => .err c ns es (env.set j (some io))
  | _ => .stuck
def cCallIo (np : Nat) (j : Nat) (m : List D → Rs) (fs : M (List D)) : M D := fun env => match env[j]? with
  | some (some _) => (fs env).bind fun ds env1 => (match env1[j]? with
    | some (some d0) => if ds.length + 1 = np then ioRun j (m (d0 :: ds)) env1 else .stuck
    | _ => .stuck)
  | _ => .stuck
section
variable {X : Cx} {Wx : WX} {ms : Ms} {m : List D → Rs} {np : Nat}
theorem sp_call' {B : Br} {W : Addr → Prop} {env : En} {σ : St} {H : Hp} {Q : VK} {ds : List D} {vs : List V} (o : Ok (tx X) ms B W env σ H) (r : RelL (tx X) (Bar B W) H ds vs)
    (h : Po (tx X) Wx ms B W σ H (rkD (tx X)) (if ds.length = np then (match m ds with | .ok d _ => .ok d env | .err c ns es _ => .err c ns es env | .stuck => .stuck) else .stuck) Q) : SpD (tx X) np none false m vs H Q (WE Wx σ) := by
  by_cases hn : ds.length = np
  · rw [if_pos hn] at h
    have q := sp_call (m := m) (ddl := []) (dvs := []) (np := np) o r (fun _ _ => trivial) (by rw [List.append_nil]; exact hn) (by rw [List.append_nil]; exact h)
    rw [List.append_nil] at q
    exact q
  · rw [if_neg hn] at h
    exact h.elim
theorem sp_callF' {B : Br} {W : Addr → Prop} {env : En} {σ : St} {H : Hp} {Q : VK} {ds : List D} {vs : List V} (o : Ok (tx X) ms B W env σ H) (r : RelL (tx X) (Bar B W) H ds vs)
    (h : Po (tx X) Wx ms B W σ H (rkF (tx X) ms) (if ds.length = np then (match m ds with | .ok d _ => .ok d env | .err c ns es _ => .err c ns es env | .stuck => .stuck) else .stuck) Q) : SpD (tx X) np none true m vs H Q (WE Wx σ) := by
  by_cases hn : ds.length = np
  · rw [if_pos hn] at h
    have q := sp_callF (m := m) (ddl := []) (dvs := []) (np := np) o r (fun _ _ => trivial) (by rw [List.append_nil]; exact hn) (by rw [List.append_nil]; exact h)
    rw [List.append_nil] at q
    exact q
  · rw [if_neg hn] at h
    exact h.elim
/-- our cell, seen by a callee alone -/
theorem Cell.lone {T : Tx} {B : Br} {W : Addr → Prop} {H : Hp} {d : D} {a : Addr} (c : Cell T (Bar B W) W H d (.ref a)) : Cell T (fun c => (Bar B W c ∧ c ≠ a) ∨ c = a) (fun c => c = a) H d (.ref a) ∧ W a := by
  have an : ∀ wa : W a, ∀ c, ((Bar B W c ∧ c ≠ a) ∨ c = a) → Bar B W c := fun wa c z => by
    rcases z with z | z
    · exact z.1
    · exact .inr (by rw [z]; exact wa)
  cases d with
  | lst l =>
    obtain ⟨b, vs, e1, e2, e3, e4⟩ := c
    cases e1
    exact ⟨⟨a, vs, rfl, rfl, e3, RelL.anti (an e2) e4⟩, e2⟩
  | obj c ns ds =>
    obtain ⟨b, dx, vs, e1, e2, e3, e4, e5⟩ := c
    cases e1
    exact ⟨⟨a, dx, vs, rfl, rfl, e3, e4, RelL.anti (an e2) e5⟩, e2⟩
  | dic t ks ds =>
    obtain ⟨b, vs, e1, e2, e3, e4, e5⟩ := c
    cases e1
    exact ⟨⟨a, vs, rfl, rfl, e3, e4, RelL.anti (an e2) e5⟩, e2⟩
  | _ => exact c.elim
theorem Cell.back {T : Tx} {B : Br} {W W1 W2 : Addr → Prop} {H : Hp} {d : D} {a : Addr} (wa : W2 a) (an : ∀ c, Bar B W2 c → (Bar B W c ∧ c ≠ a) ∨ W1 c) (c : Cell T (fun c => (Bar B W c ∧ c ≠ a) ∨ W1 c) W1 H d (.ref a)) : Cell T (Bar B W2) W2 H d (.ref a) := by
  cases d with
  | lst l =>
    obtain ⟨b, vs, e1, e2, e3, e4⟩ := c
    cases e1
    exact ⟨a, vs, rfl, wa, e3, RelL.anti an e4⟩
  | obj c ns ds =>
    obtain ⟨b, dx, vs, e1, e2, e3, e4, e5⟩ := c
    cases e1
    exact ⟨a, dx, vs, rfl, wa, e3, e4, RelL.anti an e5⟩
  | dic t ks ds =>
    obtain ⟨b, vs, e1, e2, e3, e4, e5⟩ := c
    cases e1
    exact ⟨a, vs, rfl, wa, e3, e4, RelL.anti an e5⟩
  | _ => exact c.elim
theorem Cell.own {T : Tx} {B W : Addr → Prop} {H : Hp} {d : D} {a : Addr} (c : Cell T B W H d (.ref a)) : W a := by
  cases d with
  | lst l =>
    obtain ⟨b, vs, e1, e2, e3, e4⟩ := c
    cases e1
    exact e2
  | obj c ns ds =>
    obtain ⟨b, dx, vs, e1, e2, e3, e4, e5⟩ := c
    cases e1
    exact e2
  | dic t ks ds =>
    obtain ⟨b, vs, e1, e2, e3, e4, e5⟩ := c
    cases e1
    exact e2
  | _ => exact c.elim
theorem sp_callIo {fr : Bool} {B : Br} {W : Addr → Prop} {env : En} {σ : St} {H : Hp} {Q : VK} {ds : List D} {vs : List V} {j : Nat} {d0 : D} {a : Addr} (o : Ok (tx X) ms B W env σ H) (hj : ms.contains j = true) (he : env[j]? = some (some d0)) (hs : σ[j]? = some (some (.ref a)))
    (r : RelL (tx X) (Bar B W) H ds vs) (hn : ds.length + 1 = np) (h : Po (tx X) Wx ms B W σ H (if fr = true then rkF (tx X) ms else rkD (tx X)) (ioRun j (m (d0 :: ds)) env) Q) : SpD (tx X) np (some 0) fr m (.ref a :: vs) H Q (WE Wx σ) := by
  obtain ⟨v0, e1, e2⟩ := o.mu j d0 hj he
  rw [hs] at e1
  have e3 := Option.some.inj (Option.some.inj e1)
  subst e3
  obtain ⟨c0, wa⟩ := e2.lone
  have an : ∀ c, ((Bar B W c ∧ c ≠ a) ∨ c = a) → Bar B W c := fun c z => by
    rcases z with z | z
    · exact z.1
    · exact .inr (by rw [z]; exact wa)
  have an2 : ∀ {W1 : Addr → Prop}, W1 a → ∀ c, Bar B W c → (Bar B W c ∧ c ≠ a) ∨ W1 c := fun {W1} w1 c z => by
    by_cases q : c = a
    · exact .inr (by rw [q]; exact w1)
    · exact .inl ⟨z, q⟩
  refine ⟨fun c => Bar B W c ∧ c ≠ a, fun c => c = a, d0 :: ds, by rw [← hn, r.length]; rfl, hn, fun c z => o.wf c (an c z), fun i d v f1 f2 => ?_, (fun z => by cases z), (fun i z => by cases z; omega), ?_⟩
  · cases i with
    | zero =>
      cases f1
      cases f2
      exact ⟨fun z => absurd rfl z, fun _ => ⟨c0, fun c z => by rw [z]⟩⟩
    | succ i => exact ⟨fun _ => Rel.anti an (r.nth (i := i) (by simpa using f1) (by simpa using f2)), (fun z => by cases z)⟩
  have hcell : ∀ {W1 : Addr → Prop} {H1 : Hp} {iod : Option D}, IoCell (tx X) (some 0) (.ref a :: vs) (fun c => Bar B W c ∧ c ≠ a) W1 H1 iod → ∃ dv, iod = some dv ∧ W1 a ∧ Cell (tx X) (fun c => (Bar B W c ∧ c ≠ a) ∨ W1 c) W1 H1 dv (.ref a) := fun {W1 H1 iod} z => by
    obtain ⟨x, dv, f1, f2, f3⟩ := z 0 rfl
    cases f1
    exact ⟨dv, f2, f3.own, f3⟩
  have nx : ∀ {W1 : Addr → Prop} {H1 : Hp}, Nxt (fun c => c = a) H W1 H1 → Nxt W H W H1 := fun {W1 H1} n => ⟨fun c u z nw => n.keep c u z fun e => nw (by rw [e]; exact wa), fun c z => .inl z, n.live⟩
  have ok1 : ∀ {W1 : Addr → Prop} {H1 : Hp} {dv : D}, Nxt (fun c => c = a) H W1 H1 → W1 a → Cell (tx X) (fun c => (Bar B W c ∧ c ≠ a) ∨ W1 c) W1 H1 dv (.ref a) → Ok (tx X) ms B W (env.set j (some dv)) σ H1 := fun {W1 H1 dv} n w1 c1 =>
    o.called hj he hs (fun _ z => z) (fun c z => .inl z) (fun c z => (o.wf c (.inr z)).elim fun u e => n.live c u e) (fun c u z nc => n.keep c u z nc) n.live (c1.back wa (an2 w1))
  cases q : m (d0 :: ds) with
  | stuck => rw [q] at h; exact h
  | ok d iod =>
    rw [q] at h
    intro W1 H1 v n io z
    obtain ⟨dv, rfl, w1, c1⟩ := hcell io
    cases fr with
    | false => exact h W H1 v (nx n) (ok1 n w1 c1) (Rel.anti (an2 w1) z)
    | true =>
      obtain ⟨b, us, l, rfl, rfl, z1, z2, z3, z4⟩ := z
      have hb : H b = none := (n.new b z1).elim (fun e => absurd e z2) id
      have an3 : ∀ c, Bar B (fun c => W c ∨ c = b) c → (Bar B W c ∧ c ≠ a) ∨ W1 c := fun c z => by
        rcases z with z | z | z
        · exact an2 w1 c (.inl z)
        · exact an2 w1 c (.inr z)
        · exact .inr (by rw [z]; exact z1)
      refine h (fun c => W c ∨ c = b) H1 _ ⟨fun c u e nw => n.keep c u e fun z => nw (by rw [z]; exact wa), fun c z => ?_, n.live⟩ (o.called hj he hs (fun _ z => .inl z) (fun c z => ?_) (fun c z => ?_) (fun c u z nc => n.keep c u z nc) n.live (c1.back (.inl wa) an3))
        ⟨b, us, l, rfl, rfl, .inr rfl, hb, z3, RelL.anti an3 z4, fun i e hi he' hs' => ?_⟩
      · exact z.elim .inl fun e => .inr (by rw [e]; exact hb)
      · exact z.elim .inl fun e => .inr (by rw [e]; exact hb)
      · rcases z with z | z
        · obtain ⟨u, e⟩ := o.wf c (.inr z)
          exact n.live c u e
        · exact ⟨_, by rw [z]; exact z3⟩
      · have g1 : ∃ e', env[i]? = some (some e') := by
          rcases set_get he' with ⟨rfl, rfl⟩ | ⟨n, h⟩
          · exact ⟨d0, he⟩
          · exact ⟨e, h⟩
        obtain ⟨e', g1⟩ := g1
        obtain ⟨_, u, hu⟩ := o.cellAt hi g1 hs'
        rw [hb] at hu; cases hu
  | err c ns es iod =>
    rw [q] at h
    intro W1 H1 dx ws n io z1 z2 z3 z4
    obtain ⟨dv, rfl, w1, c1⟩ := hcell io
    have h' : Po (tx X) Wx ms B W σ H (if fr = true then rkF (tx X) ms else rkD (tx X)) (.err c ns es (env.set j (some dv))) Q := h
    exact h' W H1 dx ws (nx n) (ok1 n w1 c1) z1 z2 z3 (RelL.anti (an2 w1) z4)
end

/-! ### rules of calls -/
section
variable {X : Cx} {Wx : WX} {ms : Ms} {m : List D → Rs} {np k : Nat} {f : Addr} {x y : Str} {p p' pos : Pos} {e : Expr} {es : List Expr} {fs : M (List D)}
theorem de_call (F : Fn X k f np none false m) (hr : Room k X.A) (hg : Gl X x) (hm : X.mg x = some (.ref f)) (hk : PySem.W.keepIn X.K (.ref f) = true) (tk : Takes X Wx) (ha : DA X Wx ms (e :: es) fs) (hdb : (x == ("__debug__" : Str)) = false := by decide)
    (he : starEach (e :: es) X.env = (false, eval e X.env) :: starEach es X.env := by rfl) (hpl : (backTo pos (starEach es X.env)).any (·.1) = false := by rfl) : DE X Wx ms (.Call (.Name x p) (e :: es) [] pos) (cCall np m fs) := fun B W env σ H Q o h =>
  tm_call F hr hg hm hk (E := WE Wx) (passAt tk) (ha _ _ _ _ _ _ o (h.cont (k1 := rkL (tx X)) fun ds env1 W1 H1 vs n1 o1 r1 h1 => sp_call' o1 r1 h1)) hdb he hpl
theorem df_call (F : Fn X k f np none true m) (hr : Room k X.A) (hg : Gl X x) (hm : X.mg x = some (.ref f)) (hk : PySem.W.keepIn X.K (.ref f) = true) (tk : Takes X Wx) (ha : DA X Wx ms (e :: es) fs) (hdb : (x == ("__debug__" : Str)) = false := by decide)
    (he : starEach (e :: es) X.env = (false, eval e X.env) :: starEach es X.env := by rfl) (hpl : (backTo pos (starEach es X.env)).any (·.1) = false := by rfl) : DF X Wx ms (.Call (.Name x p) (e :: es) [] pos) (cCall np m fs) := fun B W env σ H Q o h =>
  tm_call F hr hg hm hk (E := WE Wx) (passAt tk) (ha _ _ _ _ _ _ o (h.cont (k1 := rkL (tx X)) fun ds env1 W1 H1 vs n1 o1 r1 h1 => sp_callF' o1 r1 h1)) hdb he hpl
theorem de_call0 (F : Fn X k f np none false m) (hr : Room k X.A) (hg : Gl X x) (hm : X.mg x = some (.ref f)) (hk : PySem.W.keepIn X.K (.ref f) = true) (tk : Takes X Wx) (hdb : (x == ("__debug__" : Str)) = false := by decide) : DE X Wx ms (.Call (.Name x p) [] [] pos) (cCall np m aNil) := fun B W env σ H Q o h =>
  tm_call0 F hr hg hm hk (E := WE Wx) (passAt tk) (sp_call' (ds := []) (vs := []) o trivial h) hdb
theorem df_call0 (F : Fn X k f np none true m) (hr : Room k X.A) (hg : Gl X x) (hm : X.mg x = some (.ref f)) (hk : PySem.W.keepIn X.K (.ref f) = true) (tk : Takes X Wx) (hdb : (x == ("__debug__" : Str)) = false := by decide) : DF X Wx ms (.Call (.Name x p) [] [] pos) (cCall np m aNil) := fun B W env σ H Q o h =>
  tm_call0 F hr hg hm hk (E := WE Wx) (passAt tk) (sp_callF' (ds := []) (vs := []) o trivial h) hdb
/-- .. the first argument a cell of ours -/
theorem tm_callIo {fr : Bool} (j : Nat) (F : Fn X k f np (some 0) fr m) (hr : Room k X.A) (hg : Gl X x) (hm : X.mg x = some (.ref f)) (hk : PySem.W.keepIn X.K (.ref f) = true) (tk : Takes X Wx) (ha : DA X Wx ms es fs) {B : Br} {W : Addr → Prop} {env : En} {σ : St} {H : Hp} {Q : VK} (o : Ok (tx X) ms B W env σ H)
    (h : Po (tx X) Wx ms B W σ H (if fr = true then rkF (tx X) ms else rkD (tx X)) (cCallIo np j m fs env) Q) (hj : ms.contains j = true) (hN : X.N[j]? = some y) (hv : Vis X.env.scope y) (hdy : (y == ("__debug__" : Str)) = false) (hcd : (y == ("__classdict__" : Str)) = false) (hdb : (x == ("__debug__" : Str)) = false)
    (hs : starEach (.Name y p' :: es) X.env = (false, eval (.Name y p') X.env) :: starEach es X.env) (hpl : (backTo pos (starEach es X.env)).any (·.1) = false) : tm X (.Call (.Name x p) (.Name y p' :: es) [] pos) σ H Q := by
  refine tm_call F hr hg hm hk (E := WE Wx) (passAt tk) ?_ hdb hs hpl
  have key : ∀ v, σ[j]? = some (some v) → (tmA X es σ H fun vs H1 => SpD (tx X) np (some 0) fr m (v :: vs) H1 Q (WE Wx σ)) → tmA X (.Name y p' :: es) σ H fun vs H1 => SpD (tx X) np (some 0) fr m vs H1 Q (WE Wx σ) := fun v e1 q =>
    PA.tm (pa_cons (pe_var hN hv hdy hcd) pa_tm hs) ⟨v, e1, q⟩
  have hval : ∃ d, env[j]? = some (some d) := by
    unfold cCallIo at h
    cases q : env[j]? with
    | none =>
      rw [q] at h
      exact h.elim
    | some z =>
      cases z with
      | none =>
        rw [q] at h
        exact h.elim
      | some d => exact ⟨d, rfl⟩
  obtain ⟨d, hd⟩ := hval
  obtain ⟨v, e1, e2⟩ := o.mu j d hj hd
  have hv' : ∃ a, v = .ref a := by
    cases d with
    | lst l =>
      obtain ⟨b, vs, e1, _⟩ := e2
      exact ⟨b, e1⟩
    | obj c ns ds =>
      obtain ⟨b, dx, vs, e1, _⟩ := e2
      exact ⟨b, e1⟩
    | dic t ks ds =>
      obtain ⟨b, vs, e1, _⟩ := e2
      exact ⟨b, e1⟩
    | _ => exact e2.elim
  obtain ⟨a, rfl⟩ := hv'
  unfold cCallIo at h
  rw [hd] at h
  refine key _ e1 (ha _ _ _ _ _ _ o (h.cont (k1 := rkL (tx X)) fun ds env1 W1 H1 vs n1 o1 r1 h1 => ?_))
  cases q : env1[j]? with
  | none =>
    rw [q] at h1
    exact h1.elim
  | some z =>
    cases z with
    | none =>
      rw [q] at h1
      exact h1.elim
    | some d0 =>
      simp only [q] at h1
      by_cases hn : ds.length + 1 = np
      · rw [if_pos hn] at h1
        exact sp_callIo o1 hj q e1 r1 hn h1
      · rw [if_neg hn] at h1
        exact h1.elim
theorem de_callIo (j : Nat) (F : Fn X k f np (some 0) false m) (hr : Room k X.A) (hg : Gl X x) (hm : X.mg x = some (.ref f)) (hk : PySem.W.keepIn X.K (.ref f) = true) (tk : Takes X Wx) (ha : DA X Wx ms es fs) (hj : ms.contains j = true := by rfl) (hN : X.N[j]? = some y := by rfl)
    (hv : Vis X.env.scope y := by first | exact Or.inl rfl | exact Or.inr (Or.inl rfl) | exact Or.inr (Or.inr rfl)) (hdy : (y == ("__debug__" : Str)) = false := by decide) (hcd : (y == ("__classdict__" : Str)) = false := by decide) (hdb : (x == ("__debug__" : Str)) = false := by decide)
    (hs : starEach (.Name y p' :: es) X.env = (false, eval (.Name y p') X.env) :: starEach es X.env := by rfl) (hpl : (backTo pos (starEach es X.env)).any (·.1) = false := by rfl) : DE X Wx ms (.Call (.Name x p) (.Name y p' :: es) [] pos) (cCallIo np j m fs) := fun B W env σ H Q o h =>
  tm_callIo j F hr hg hm hk tk ha o h hj hN hv hdy hcd hdb hs hpl
theorem df_callIo (j : Nat) (F : Fn X k f np (some 0) true m) (hr : Room k X.A) (hg : Gl X x) (hm : X.mg x = some (.ref f)) (hk : PySem.W.keepIn X.K (.ref f) = true) (tk : Takes X Wx) (ha : DA X Wx ms es fs) (hj : ms.contains j = true := by rfl) (hN : X.N[j]? = some y := by rfl)
    (hv : Vis X.env.scope y := by first | exact Or.inl rfl | exact Or.inr (Or.inl rfl) | exact Or.inr (Or.inr rfl)) (hdy : (y == ("__debug__" : Str)) = false := by decide) (hcd : (y == ("__classdict__" : Str)) = false := by decide) (hdb : (x == ("__debug__" : Str)) = false := by decide)
    (hs : starEach (.Name y p' :: es) X.env = (false, eval (.Name y p') X.env) :: starEach es X.env := by rfl) (hpl : (backTo pos (starEach es X.env)).any (·.1) = false := by rfl) : DF X Wx ms (.Call (.Name x p) (.Name y p' :: es) [] pos) (cCallIo np j m fs) := fun B W env σ H Q o h =>
  tm_callIo j F hr hg hm hk tk ha o h hj hN hv hdy hcd hdb hs hpl
end
end DL

set_option Elab.async false
set_option linter.all false
set_option maxRecDepth 100000
set_option maxHeartbeats 4000000
namespace DL
open PySem PySem.Spec L2

/-! ### attributes -/
def getF (f : Nat) : List Nat → List D → Option D
  | n :: ns, d :: ds => if Nat.beq f n = true then some d else getF f ns ds
  | _, _ => none
def hasF (f : Nat) : List Nat → Bool
  | n :: ns => if Nat.beq f n = true then true else hasF f ns
  | [] => false
theorem nbeq {i j : Nat} (h : Nat.beq i j = true) : i = j := Nat.eq_of_beq_eq_true h
theorem nm_ne {i j : Nat} (h : ¬ Nat.beq i j = true) : (nm i == nm j) = false := beq_eq_false_iff_ne.mpr fun z => h (by rw [nm_inj z]; exact Nat.beq_refl j)
theorem getF_rel {T : Tx} {B : Addr → Prop} {H : Hp} {f : Nat} {z : D} : ∀ {ns : List Nat} {ds : List D} {vs : List V}, RelL T B H ds vs → ns.length = vs.length → getF f ns ds = some z → ∃ v, ((nms ns).zip vs).lookup (nm f) = some v ∧ Rel T B H z v
  | [], _, _, _, _, h => by unfold getF at h; cases h
  | _ :: _, [], _, _, _, h => by unfold getF at h; cases h
  | n :: ns, d :: ds, [], r, _, _ => r.elim
  | n :: ns, d :: ds, v :: vs, r, l, h => by
    have h' : (if Nat.beq f n = true then some d else getF f ns ds) = some z := h
    show ∃ w, List.lookup (nm f) ((nm n, v) :: (nms ns).zip vs) = some w ∧ _
    by_cases q : Nat.beq f n = true
    · rw [if_pos q] at h'
      have e := Option.some.inj h'
      subst e
      have e2 := nbeq q
      subst e2
      exact ⟨v, by simp only [List.lookup, beq_self_eq_true], r.1⟩
    · rw [if_neg q] at h'
      obtain ⟨w, e1, e2⟩ := getF_rel r.2 (Nat.succ.inj l) h'
      exact ⟨w, by simp only [List.lookup, nm_ne q]; exact e1, e2⟩
theorem noF {f : Nat} : ∀ {ns : List Nat} {vs : List V}, hasF f ns = false → ((nms ns).zip vs).lookup (nm f) = none
  | [], _, _ => rfl
  | n :: ns, [], _ => rfl
  | n :: ns, v :: vs, h => by
    have h' : (if Nat.beq f n = true then true else hasF f ns) = false := h
    show List.lookup (nm f) ((nm n, v) :: (nms ns).zip vs) = none
    by_cases q : Nat.beq f n = true
    · rw [if_pos q] at h'; cases h'
    · rw [if_neg q] at h'
      simp only [List.lookup, nm_ne q]
      exact noF h'
theorem putF_new {f : Nat} {v : V} : ∀ {ns : List Nat} {vs : List V}, ns.length = vs.length → hasF f ns = false → putF (nm f) v ((nms ns).zip vs) = (nms (ns ++ [f])).zip (vs ++ [v])
  | [], [], _, _ => rfl
  | [], _ :: _, l, _ => by cases l
  | _ :: _, [], l, _ => by cases l
  | n :: ns, u :: us, l, h => by
    have h' : (if Nat.beq f n = true then true else hasF f ns) = false := h
    by_cases q : Nat.beq f n = true
    · rw [if_pos q] at h'; cases h'
    · rw [if_neg q] at h'
      have e := putF_new (v := v) (Nat.succ.inj l) h'
      show (if nm n = nm f then _ else (nm n, u) :: putF (nm f) v ((nms ns).zip us)) = (nm n, u) :: ((nms (ns ++ [f])).zip (us ++ [v]))
      rw [if_neg (fun z => q (by rw [nm_inj z]; exact Nat.beq_refl f)), e]
/-- attribute f of an instance of one of the classes cs -/
def fldD (cs : List Nat) (f : Nat) (d : D) : Option D := match d with
  | .obj c ns ds => if cs.contains c = true then getF f ns ds else none
  | _ => none
def Fld (K : PySem.W.Frag) (cs : List Nat) (f : Nat) : Prop := ∀ c, cs.contains c = true → Cls K (He.ga K (nm c)) ∧ NoAttr K (He.ga K (nm c)) (nm f)
section
variable {X : Cx} {Wx : WX} {ms : Ms} {o value : Expr} {x : Str} {p p' pos pos' apos : Pos} {fa : M D}
theorem de_fld (cs : List Nat) (f : Nat) (hc : Fld X.K cs f) (ha : DK X Wx ms o fa) (hx : nm f = x := by rfl) (hb : attributeBase o x X.env (eval o X.env) = eval o X.env := by rfl) : DE X Wx ms (.Attribute o x pos) (op1 (fldD cs f) fa) := by
  subst hx
  exact fun B W env σ H Q ok h => PE.tm (pe_fld pe_tm hb) (ha _ _ _ _ _ _ ok (h.cont (k1 := rkW (tx X)) fun d env1 W1 H1 v n1 o1 r1 h1 => by
    obtain ⟨z, e1, h3⟩ := of_pos h1
    cases d with
    | obj c ns ds =>
      obtain ⟨e2, e3⟩ : cs.contains c = true ∧ getF f ns ds = some z := by
        have e1' : (if cs.contains c = true then getF f ns ds else none) = some z := e1
        by_cases q : cs.contains c = true
        · rw [if_pos q] at e1'
          exact ⟨q, e1'⟩
        · rw [if_neg q] at e1'; cases e1'
      obtain ⟨k1, k2⟩ := hc c e2
      obtain ⟨a, dx, vs, rfl, r2, r3, r4⟩ := r1
      obtain ⟨w, l1, l2⟩ := getF_rel r4 r3 e3
      exact ⟨a, _, dx, _, w, rfl, r2, k1, k2, l1, h3.done o1 l2⟩
    | _ => cases e1))
/-- self.f = value, self our own cell, the attribute new -/
def putD (cs : List Nat) (f : Nat) (d v : D) : Option D := match d with
  | .obj c ns ds => if (cs.contains c && (!hasF f ns && small1k ns.length)) = true then some (.obj c (ns ++ [f]) (ds ++ [v])) else none
  | _ => none
where small1k (n : Nat) : Bool := Nat.blt n 999
def sFld1 (i : Nat) (cs : List Nat) (f : Nat) (fv : M D) : M Fl := fun env => (fv env).bind fun v env1 => match env1[i]? with
  | some (some d) => (match putD cs f d v with
    | some d' => .ok .nx (env1.set i (some d'))
    | none => .stuck)
  | _ => .stuck
theorem ds_fld {kr : Rk (tx X) D V} (i : Nat) (cs : List Nat) (f : Nat) {y : Str} (hc : Fld X.K cs f) (hv : DE X Wx ms value fa) (hm : ms.contains i = true := by rfl) (hx : nm f = x := by rfl) (hN : X.N[i]? = some y := by rfl)
    (hvis : Vis X.env.scope y := by first | exact Or.inl rfl | exact Or.inr (Or.inl rfl) | exact Or.inr (Or.inr rfl)) (hd : (y == ("__debug__" : Str)) = false := by decide) (hcd : (y == ("__classdict__" : Str)) = false := by decide)
    (hs : swapsWith value (some (.Attribute (.Name y p) x pos')) pos.line X.env = pure false := by rfl) : DS X Wx ms kr (.Assign [.Attribute (.Name y p) x pos'] value pos) (sFld1 i cs f fa) := by
  subst hx
  exact fun B W env σ H Dn ok h => PS.tm (ps_fld (pe_var hN hvis hd hcd) pe_tm hs) (hv _ _ _ _ _ _ ok (PoS.cont (k1 := rkD (tx X)) h fun v env1 W1 H1 u n1 o1 r1 h1 => by
    cases q : env1[i]? with
    | none =>
      rw [q] at h1
      exact h1.elim
    | some z =>
      cases z with
      | none =>
        rw [q] at h1
        exact h1.elim
      | some d =>
        rw [q] at h1
        cases d with
        | obj c ns ds =>
          by_cases hq : (cs.contains c && (!hasF f ns && putD.small1k ns.length)) = true
          · obtain ⟨q1, q2⟩ := Bool.and_eq_true_iff.mp hq
            obtain ⟨q3, q4⟩ := Bool.and_eq_true_iff.mp q2
            have q5 : hasF f ns = false := by
              cases e : hasF f ns with
              | false => rfl
              | true => rw [e] at q3; cases q3
            have e1 : putD cs f (.obj c ns ds) v = some (.obj c (ns ++ [f]) (ds ++ [v])) := if_pos hq
            simp only [e1] at h1
            obtain ⟨k1, k2⟩ := hc c q1
            obtain ⟨w, g1, g2⟩ := o1.mu i _ hm q
            obtain ⟨a, dx, vs, rfl, g3, g4, g5, g6⟩ := g2
            have hl : ns.length < 999 := Nat.le_of_ble_eq_true q4
            have hz : ((nms ns).zip vs).length < 1000 := by
              rw [List.length_zip, List.length_map]
              omega
            have hput := putF_new (v := u) g5 q5
            refine ⟨_, g1, a, _, dx, _, rfl, g4, k1, k2, hz, ?_⟩
            rw [hput]
            have ex : Ext (Bar B W1) H1 (Bar B W1) (upd H1 a (.ins (He.ga X.K (nm c)) dx ((nms (ns ++ [f])).zip (vs ++ [u])))) := Ext.write g3
            refine h1 W1 _ _ (Nxt.write g3 ⟨_, g4⟩) (o1.write hm q g1 g3 ⟨_, g4⟩ ⟨a, dx, vs ++ [u], rfl, g3, upd_same, by rw [List.length_append, List.length_append, g5]; rfl, (RelL.ext ex _ g6).append ⟨Rel.ext ex _ r1, trivial⟩⟩)
          · have e1 : putD cs f (.obj c ns ds) v = none := if_neg hq
            simp only [e1] at h1
            exact h1.elim
        | _ => exact h1.elim))
end

/-! ### constants of a class -/
def conD (cs : List (Nat × D)) (f : Nat) (d : D) : Option D := match d with
  | .obj c ns _ => if hasF f ns = true then none else (cs.find? fun p => Nat.beq p.1 c).map (·.2)
  | _ => none
/-- every class of cs has f as that constant -/
def CCon (X : Cx) (cs : List (Nat × D)) (f : Nat) : Prop := ∀ p ∈ cs, Cls X.K (He.ga X.K (nm p.1)) ∧ ∃ v u, Con X.K (He.ga X.K (nm p.1)) (nm f) v u ∧ ∀ B H, Rel (tx X) B H p.2 v
section
variable {X : Cx} {Wx : WX} {ms : Ms} {o : Expr} {x : Str} {pos : Pos} {fa : M D}
theorem de_con (cs : List (Nat × D)) (f : Nat) (hc : CCon X cs f) (ha : DK X Wx ms o fa) (hx : nm f = x := by rfl) (hb : attributeBase o x X.env (eval o X.env) = eval o X.env := by rfl) : DE X Wx ms (.Attribute o x pos) (op1 (conD cs f) fa) := by
  subst hx
  exact fun B W env σ H Q ok h => PE.tm (pe_con pe_tm hb) (ha _ _ _ _ _ _ ok (h.cont (k1 := rkW (tx X)) fun d env1 W1 H1 v n1 o1 r1 h1 => by
    obtain ⟨z, e1, h3⟩ := of_pos h1
    cases d with
    | obj c ns ds =>
      have e1' : (if hasF f ns = true then none else (cs.find? fun p => Nat.beq p.1 c).map (·.2)) = some z := e1
      by_cases q : hasF f ns = true
      · rw [if_pos q] at e1'; cases e1'
      · rw [if_neg q] at e1'
        obtain ⟨p, e2, rfl⟩ := Option.map_eq_some_iff.mp e1'
        have e3 := nbeq (i := p.1) (j := c) (List.find?_some (p := fun p : Nat × D => Nat.beq p.1 c) e2)
        subst e3
        obtain ⟨k1, w, u, k2, k3⟩ := hc p (List.mem_of_find?_eq_some e2)
        obtain ⟨a, dx, vs, rfl, r2, r3, r4⟩ := r1
        exact ⟨a, _, dx, _, w, u, rfl, r2, k1, k2, noF (by cases e : hasF f ns with | false => rfl | true => exact absurd e q), h3.done o1 (k3 _ _)⟩
    | _ => cases e1))
end

/-! ### methods -/
/-- a table of methods by class -/
abbrev MT := List (Nat × (List D → Rs))
def mtGet (t : MT) (c : Nat) : Option (List D → Rs) := (t.find? fun p => Nat.beq p.1 c).map (·.2)
/-- o.m(..): o is read (fa), then the arguments, then the method of its class -/
def cMeth (np : Nat) (f : Nat) (t : MT) (fa : M D) (fs : M (List D)) : M D := fun env => (fa env).bind fun d env1 => match d with
  | .obj c ns ds => if hasF f ns = true then .stuck else (match mtGet t c with
    | some m => (fs env1).bind fun es env2 => if (d :: es).length = np then (match m (d :: es) with
      | .ok d _ => .ok d env2
      | .err c ns es _ => .err c ns es env2
      | .stuck => .stuck) else .stuck
    | none => .stuck)
  | _ => .stuck
/-- each class of the table has the method, which does as the table says -/
def MtOk (X : Cx) (k np : Nat) (f : Nat) (fr : Bool) (t : MT) : Prop := ∀ p ∈ t, Cls X.K (He.ga X.K (nm p.1)) ∧ ∃ g, Meth X.K (He.ga X.K (nm p.1)) (nm f) g ∧ Fn X k g np none fr p.2
theorem mtGet_some {X : Cx} {k np f : Nat} {fr : Bool} {t : MT} {c : Nat} {m : List D → Rs} (h : MtOk X k np f fr t) (e : mtGet t c = some m) : Cls X.K (He.ga X.K (nm c)) ∧ ∃ g, Meth X.K (He.ga X.K (nm c)) (nm f) g ∧ Fn X k g np none fr m := by
  obtain ⟨p, e2, rfl⟩ := Option.map_eq_some_iff.mp e
  have e3 := nbeq (i := p.1) (j := c) (List.find?_some (p := fun p : Nat × (List D → Rs) => Nat.beq p.1 c) e2)
  subst e3
  exact h p (List.mem_of_find?_eq_some e2)
section
variable {X : Cx} {Wx : WX} {ms : Ms} {np k : Nat} {o e : Expr} {es : List Expr} {x : Str} {p pos apos : Pos} {fa : M D} {fs : M (List D)} {pl : Sem Bool}
def tMth (X : Cx) (k : Nat) (m : Str) (Wx : WX) (ta : TE) (t : TA) : TE := fun σ H Q => ta σ H fun x H1 => ∃ a C dx fs g sp, x = .ref a ∧ H1 a = some (.ins C dx fs) ∧ fs.lookup m = none ∧ Cls X.K C ∧ Meth X.K C m g ∧ FnR X.prog X.w X.K X.mg X.base (L2.CX X.prog X.w) k g sp ∧ t σ H1 fun vs H2 => sp (x :: vs) H2 Q (WE Wx σ)
theorem pe_mth {m : Str} {ta : TE} {t : TA} (he : PE X o ta) (hr : Room k X.A) (tk : Takes X Wx) (ha : PA X (e :: es) t)
    (hst : starEach (e :: es) X.env = (false, eval e X.env) :: starEach es X.env) (hpl : (backTo pos (starEach es X.env)).any (·.1) = false)
    (ht : eval (.Call (.Attribute o m apos) (e :: es) [] pos) X.env = (do
      let ov ← eval o X.env
      standAt apos.atName
      let (f, first) ← holding [ov] (getMethod ov m pl)
      callWith pos f first (backTo pos (starEach (e :: es) X.env)) (backToKw pos (keywordEach [] X.env)))) :
    PE X (.Call (.Attribute o m apos) (e :: es) [] pos) (tMth X k m Wx ta t) := by
  refine ⟨fun pins s σ H Q I h => ?_⟩
  refine PySem.W.methodCall_KW (pl := pl) (thn (he.run pins s σ H _ I h) fun u s1 ⟨x, H1, I1, rx, a, C, dx, fs, g, sp, ex, ea, l, c, hm, F, q⟩ => ?_) ht
  subst ex
  obtain rfl : u = Value.ref a := rx
  refine getmeth_ok I1 ea c hm l ?_
  refine PySem.W.callWith_K (first := [.ref a]) (h₀ := X.base) I.ok.mod.kin hm.kp (thn (ha.run pos pins s1 σ H1 _ I1 q) fun us s2 ⟨vs, H2, I2, r, q2⟩ => ⟨I2.kIn, ?_⟩) hst hpl
  exact wpAny_call (run_fnRS (us := .ref a :: us) (vs := .ref a :: vs) (E := WE Wx) F hr (passAt tk σ) I2 (.cons rfl r) q2)
theorem pe_mth0 {m : Str} {ta : TE} (he : PE X o ta) (hr : Room k X.A) (tk : Takes X Wx)
    (ht : eval (.Call (.Attribute o m apos) [] [] pos) X.env = (do
      let ov ← eval o X.env
      standAt apos.atName
      let (f, first) ← holding [ov] (getMethod ov m pl)
      callWith pos f first (backTo pos (starEach [] X.env)) (backToKw pos (keywordEach [] X.env)))) :
    PE X (.Call (.Attribute o m apos) [] [] pos) (tMth X k m Wx ta tNil) := by
  refine ⟨fun pins s σ H Q I h => ?_⟩
  refine PySem.W.methodCall_KW (pl := pl) (thn (he.run pins s σ H _ I h) fun u s1 ⟨x, H1, I1, rx, a, C, dx, fs, g, sp, ex, ea, l, c, hm, F, q⟩ => ?_) ht
  subst ex
  obtain rfl : u = Value.ref a := rx
  refine getmeth_ok I1 ea c hm l ?_
  exact PySem.W.callWith_K0 (first := [.ref a]) I1.kIn hm.kp (wpAny_call (run_fnRS (us := [.ref a]) (vs := [.ref a]) (E := WE Wx) F hr (passAt tk σ) I1 (.cons rfl .nil) q))
/-- the receiver -/
theorem tm_mth_ {fr : Bool} {t : MT} {f : Nat} {m : Str} {t' : TA} (hx : nm f = m) (hT : MtOk X k np f fr t) (ha : DE X Wx ms o fa) (hb : ∀ B W env σ H Q, Ok (tx X) ms B W env σ H → Po (tx X) Wx ms B W σ H (rkL (tx X)) (fs env) Q → t' σ H Q) {B : Br} {W : Addr → Prop} {env : En} {σ : St} {H : Hp} {Q : VK} (ok : Ok (tx X) ms B W env σ H)
    (h : Po (tx X) Wx ms B W σ H (if fr = true then rkF (tx X) ms else rkD (tx X)) (cMeth np f t fa fs env) Q) : tMth X k m Wx (tm X o) t' σ H Q := by
  subst hx
  refine ha _ _ _ _ _ _ ok (h.cont (k1 := rkD (tx X)) fun d env1 W1 H1 v n1 o1 r1 h1 => ?_)
  cases d with
  | obj c ns ds =>
    by_cases q : hasF f ns = true
    · simp only [q, if_true] at h1
      exact h1.elim
    · have q' : hasF f ns = false := by cases e : hasF f ns with | false => rfl | true => exact absurd e q
      simp only [q', Bool.false_eq_true, if_false] at h1
      cases g : mtGet t c with
      | none =>
        rw [g] at h1
        exact h1.elim
      | some m =>
        simp only [g] at h1
        obtain ⟨k1, gf, k2, k3⟩ := mtGet_some hT g
        have r1' : Rel (tx X) (Bar B W1) H1 (.obj c ns ds) v := r1
        obtain ⟨a, dx, vs, rfl, r2, r3, r4, r5⟩ := r1
        refine ⟨a, _, dx, _, gf, _, rfl, r2, noF q', k1, k2, k3, hb _ _ _ _ _ _ o1 (h1.cont (k1 := rkL (tx X)) fun es env2 W2 H2 ws n2 o2 s1 h2 => ?_)⟩
        have rr : RelL (tx X) (Bar B W2) H2 (.obj c ns ds :: es) (.ref a :: ws) := ⟨Rel.ext n2.ext _ r1', s1⟩
        cases fr with
        | false => exact sp_call' o2 rr h2
        | true => exact sp_callF' o2 rr h2
  | _ => exact h1.elim
theorem tm_mth {fr : Bool} {t : MT} {f : Nat} {m : Str} {es : List Expr} (hx : nm f = m) (hT : MtOk X k np f fr t) (ha : DE X Wx ms o fa) (hb : DA X Wx ms es fs) {B : Br} {W : Addr → Prop} {env : En} {σ : St} {H : Hp} {Q : VK} (ok : Ok (tx X) ms B W env σ H)
    (h : Po (tx X) Wx ms B W σ H (if fr = true then rkF (tx X) ms else rkD (tx X)) (cMeth np f t fa fs env) Q) : tMth X k m Wx (tm X o) (tmA X es) σ H Q := tm_mth_ hx hT ha hb ok h
theorem de_mth {t : MT} (f : Nat) {m : Str} (hT : MtOk X k np f false t) (hr : Room k X.A) (tk : Takes X Wx) (ha : DE X Wx ms o fa) (hb : DA X Wx ms (e :: es) fs) (hx : nm f = m := by rfl)
    (hst : starEach (e :: es) X.env = (false, eval e X.env) :: starEach es X.env := by rfl) (hpl : (backTo pos (starEach es X.env)).any (·.1) = false := by rfl)
    (ht : eval (.Call (.Attribute o m apos) (e :: es) [] pos) X.env = (do
      let ov ← eval o X.env
      standAt apos.atName
      let (f, first) ← holding [ov] (getMethod ov m pl)
      callWith pos f first (backTo pos (starEach (e :: es) X.env)) (backToKw pos (keywordEach [] X.env))) := by rfl) : DE X Wx ms (.Call (.Attribute o m apos) (e :: es) [] pos) (cMeth np f t fa fs) := fun B W env σ H Q ok h =>
  PE.tm (pe_mth (pl := pl) pe_tm hr tk pa_tm hst hpl ht) (tm_mth hx hT ha hb ok h)
theorem df_mth {t : MT} (f : Nat) {m : Str} (hT : MtOk X k np f true t) (hr : Room k X.A) (tk : Takes X Wx) (ha : DE X Wx ms o fa) (hb : DA X Wx ms (e :: es) fs) (hx : nm f = m := by rfl)
    (hst : starEach (e :: es) X.env = (false, eval e X.env) :: starEach es X.env := by rfl) (hpl : (backTo pos (starEach es X.env)).any (·.1) = false := by rfl)
    (ht : eval (.Call (.Attribute o m apos) (e :: es) [] pos) X.env = (do
      let ov ← eval o X.env
      standAt apos.atName
      let (f, first) ← holding [ov] (getMethod ov m pl)
      callWith pos f first (backTo pos (starEach (e :: es) X.env)) (backToKw pos (keywordEach [] X.env))) := by rfl) : DF X Wx ms (.Call (.Attribute o m apos) (e :: es) [] pos) (cMeth np f t fa fs) := fun B W env σ H Q ok h =>
  PE.tm (pe_mth (pl := pl) pe_tm hr tk pa_tm hst hpl ht) (tm_mth hx hT ha hb ok h)
theorem de_mth0 {t : MT} (f : Nat) {m : Str} (hT : MtOk X k np f false t) (hr : Room k X.A) (tk : Takes X Wx) (ha : DE X Wx ms o fa) (hx : nm f = m := by rfl)
    (ht : eval (.Call (.Attribute o m apos) [] [] pos) X.env = (do
      let ov ← eval o X.env
      standAt apos.atName
      let (f, first) ← holding [ov] (getMethod ov m pl)
      callWith pos f first (backTo pos (starEach [] X.env)) (backToKw pos (keywordEach [] X.env))) := by rfl) : DE X Wx ms (.Call (.Attribute o m apos) [] [] pos) (cMeth np f t fa aNil) := fun B W env σ H Q ok h =>
  PE.tm (pe_mth0 (pl := pl) pe_tm hr tk ht) (tm_mth_ (fs := aNil) hx hT ha (t' := tNil) (fun B W env σ H Q ok h => h.done (v := []) ok trivial) ok h)
theorem df_mth0 {t : MT} (f : Nat) {m : Str} (hT : MtOk X k np f true t) (hr : Room k X.A) (tk : Takes X Wx) (ha : DE X Wx ms o fa) (hx : nm f = m := by rfl)
    (ht : eval (.Call (.Attribute o m apos) [] [] pos) X.env = (do
      let ov ← eval o X.env
      standAt apos.atName
      let (f, first) ← holding [ov] (getMethod ov m pl)
      callWith pos f first (backTo pos (starEach [] X.env)) (backToKw pos (keywordEach [] X.env))) := by rfl) : DF X Wx ms (.Call (.Attribute o m apos) [] [] pos) (cMeth np f t fa aNil) := fun B W env σ H Q ok h =>
  PE.tm (pe_mth0 (pl := pl) pe_tm hr tk ht) (tm_mth_ (fs := aNil) hx hT ha (t' := tNil) (fun B W env σ H Q ok h => h.done (v := []) ok trivial) ok h)
end

/-! ### new instances -/
def cMake (c : Nat) (np : Nat) (m : List D → Rs) (fs : M (List D)) : M D := fun env => (fs env).bind fun ds env1 => if ds.length + 1 = np then (match m (.obj c [] [] :: ds) with
  | .ok .non (some io) => .ok io env1
  | .err c ns es _ => .err c ns es env1
  | _ => .stuck) else .stuck
section
variable {X : Cx} {Wx : WX} {ms : Ms} {m : List D → Rs} {np k : Nat} {f C : Addr} {x : Str} {p pos : Pos} {e : Expr} {es : List Expr} {fs : M (List D)} {sp : Sp}
theorem run_makeRS {pins : List (Addr × Obj)} {σ : L2.St} {H : Hp} {s : Shared} {Q : VK} {us : List Value} {vs : List V} (M : Mk X.K C f) (F : FnR X.prog X.w X.K X.mg X.base (L2.CX X.prog X.w) k f sp) (hr : Room (k + 1) X.A) (tk : Takes X Wx) (I : Inv X pins σ H s) (r : Vals vs us)
    (h : ∀ x dx, H x = Option.none → H dx = Option.none → dx ≠ x → sp (V.ref x :: vs) (upd (upd H dx (.own x)) x (.ins C dx [])) (fun v H2 => v = .non ∧ Q (.ref x) H2) (WE Wx σ)) :
    wpAny (model X.prog X.w) X.A (call (.ref C) us) (EP X pins σ Q) X.xe s := by
  have hq := h (s.heap.objs.size + 1) s.heap.objs.size (I.hok.fresh (Nat.le_succ _)) (I.hok.fresh (Nat.le_refl _)) (Nat.ne_of_lt (Nat.lt_succ_self _))
  have I2 := Inv.made (C := C) I
  have r2 : Vals (V.ref (s.heap.objs.size + 1) :: vs) (Value.ref (s.heap.objs.size + 1) :: us) := .cons rfl r
  refine wpAny_call (make_map (f := f) I.kIn M.makes M.init (beq_iff_eq.mp M.fn) (codeAny_mono (F _ X.stack _ _ (Value.ref (s.heap.objs.size + 1) :: us) _ _ _ (hr.make C us []) (I2.env0.make C us []) r2 hq) fun r s' hq' => ?_))
  cases r with
  | error e => exact passAt tk σ pins _ _ e s' I2 hq'
  | ok fl =>
    cases fl with
    | ret u =>
      obtain ⟨v, H', I3, rv, ev, q3⟩ := I2.after hq'
      subst ev
      exact ⟨rv, ⟨V.ref (s.heap.objs.size + 1), H', I3, rfl, q3⟩⟩
    | next => exact False.elim hq'
    | brk => exact False.elim hq'
    | cont => exact False.elim hq'
/-- the promise at a new instance -/
theorem sp_make {c : Nat} {B : Br} {W : Addr → Prop} {env : En} {σ : St} {H : Hp} {Q : VK} {ds : List D} {vs : List V} (o : Ok (tx X) ms B W env σ H) (r : RelL (tx X) (Bar B W) H ds vs)
    (h : Po (tx X) Wx ms B W σ H (rkD (tx X)) (if ds.length + 1 = np then (match m (.obj c [] [] :: ds) with | .ok .non (some io) => .ok io env | .err c ns es _ => .err c ns es env | _ => .stuck) else .stuck) Q) :
    ∀ x dx, H x = none → H dx = none → dx ≠ x → SpD (tx X) np (some 0) false m (V.ref x :: vs) (upd (upd H dx (.own x)) x (.ins (He.ga X.K (nm c)) dx [])) (fun v H2 => v = .non ∧ Q (.ref x) H2) (WE Wx σ) := by
  intro x dx hx hd hne
  by_cases hn : ds.length + 1 = np
  · rw [if_pos hn] at h
    have sm0 : ∀ a u, H a = some u → (upd (upd H dx (.own x)) x (.ins (He.ga X.K (nm c)) dx [])) a = some u := fun a u z => by
      rw [upd_ne (ne_of_none z hx), upd_ne (ne_of_none z hd)]
      exact z
    have nb : ¬ Bar B W x := fun b => by
      obtain ⟨u, e⟩ := o.wf x b
      rw [hx] at e; cases e
    have ex : Ext (Bar B W) H (fun a => Bar B W a ∨ a = x) (upd (upd H dx (.own x)) x (.ins (He.ga X.K (nm c)) dx [])) := ⟨fun a u z _ => sm0 a u z, fun a z => z.elim .inl fun z => .inr (by rw [z]; exact hx)⟩
    refine ⟨Bar B W, fun a => a = x, .obj c [] [] :: ds, by rw [← hn, r.length]; rfl, hn, fun a z => ?_, fun i d v e1 e2 => ?_, (fun z => by cases z), (fun i z => by cases z; omega), ?_⟩
    · rcases z with z | z
      · obtain ⟨u, e⟩ := o.wf a z
        exact ⟨u, sm0 a u e⟩
      · exact ⟨_, by rw [z]; exact upd_same⟩
    · cases i with
      | zero =>
        cases e1
        cases e2
        exact ⟨fun z => absurd rfl z, fun _ => ⟨⟨x, dx, [], rfl, rfl, upd_same, rfl, trivial⟩, fun a z => by rw [z]⟩⟩
      | succ i =>
        have e3 : ds[i]? = some d := by simpa using e1
        have e4 : vs[i]? = some v := by simpa using e2
        exact ⟨fun _ => Rel.ext ex d (r.nth e3 e4), (fun z => by cases z)⟩
    have sm : ∀ {W1 : Addr → Prop} {H1 : Hp}, Nxt (fun a => a = x) (upd (upd H dx (.own x)) x (.ins (He.ga X.K (nm c)) dx [])) W1 H1 → Same H H1 := fun {W1 H1} n a u z => n.keep a u (sm0 a u z) (ne_of_none z hx)
    cases q : m (.obj c [] [] :: ds) with
    | stuck => rw [q] at h; exact h
    | ok d iod =>
      rw [q] at h
      cases d with
      | non =>
        cases iod with
        | none => exact h.elim
        | some io =>
          intro W1 H1 v n z1 z2
          refine ⟨z2, ?_⟩
          obtain ⟨y, dv, f1, f2, f3⟩ := z1 0 rfl
          cases f1
          cases f2
          refine h W H1 _ (Nxt.same (sm n)) (o.same (sm n)) ?_
          cases io with
          | lst l =>
            obtain ⟨b, us, g1, g2, g3, g4⟩ := f3
            cases g1
            exact ⟨x, us, rfl, g3, nb, RelL.anti (fun _ z => .inl z) g4⟩
          | obj c' ns' ds' =>
            obtain ⟨b, dx', us, g1, g2, g3, g4, g5⟩ := f3
            cases g1
            exact ⟨x, dx', us, rfl, g3, nb, g4, RelL.anti (fun _ z => .inl z) g5⟩
          | dic t' ks' ds' =>
            obtain ⟨b, us, g1, g2, g3, g4, g5⟩ := f3
            cases g1
            exact ⟨x, us, rfl, g3, nb, g4, RelL.anti (fun _ z => .inl z) g5⟩
          | _ => exact f3.elim
      | _ => exact h.elim
    | err c' ns es iod =>
      rw [q] at h
      intro W1 H1 dx' ws n _ z1 z2 z3 z4
      have z1' : H dx' = none := by
        cases e : H dx' with
        | none => rfl
        | some u =>
          rw [sm0 _ _ e] at z1
          cases z1
      exact h W H1 dx' ws (Nxt.same (sm n)) (o.same (sm n)) z1' z2 z3 (RelL.anti (fun _ b => .inl b) z4)
  · rw [if_neg hn] at h
    exact h.elim
/-- the class has this constructor -/
structure MkOk (X : Cx) (k np c : Nat) (m : List D → Rs) : Prop where
  ex : ∃ f, Mk X.K (He.ga X.K (nm c)) f ∧ Fn X k f np (some 0) false m
theorem de_make (c : Nat) (M : MkOk X k np c m) (hr : Room (k + 1) X.A) (hg : Gl X x) (hm : X.mg x = some (.ref (He.ga X.K x))) (tk : Takes X Wx) (ha : DA X Wx ms (e :: es) fs) (hx : nm c = x := by rfl) (hdb : (x == ("__debug__" : Str)) = false := by decide)
    (he : starEach (e :: es) X.env = (false, eval e X.env) :: starEach es X.env := by rfl) (hpl : (backTo pos (starEach es X.env)).any (·.1) = false := by rfl) : DE X Wx ms (.Call (.Name x p) (e :: es) [] pos) (cMake c np m fs) := by
  subst hx
  obtain ⟨f, hM, F⟩ := M.ex
  exact fun B W env σ H Q o h => by
    unfold tm
    intro pins s I
    refine wpAny_Call_Name_kw (ld_glob I hg hm ?_ hdb)
    refine PySem.W.callWith_K (h₀ := X.base) I.ok.mod.kin hM.kp (thn (pa_tm.run pos pins s _ _ _ I (ha _ _ _ _ _ (fun vs H1 => ∀ x dx, H1 x = Option.none → H1 dx = Option.none → dx ≠ x → SpD (tx X) np (some 0) false m (V.ref x :: vs) (upd (upd H1 dx (.own x)) x (.ins (He.ga X.K (nm c)) dx [])) (fun v H2 => v = .non ∧ Q (.ref x) H2) (WE Wx σ)) o
      (h.cont (k1 := rkL (tx X)) fun ds env1 W1 H1 vs n1 o1 r1 h1 => sp_make o1 r1 h1))) fun us s1 ⟨vs, H1, I1, r, q⟩ => ⟨I1.kIn, ?_⟩) he hpl
    exact run_makeRS hM F hr tk I1 r q
/-- a table of constructors; the class in a local name -/
def cMakeL (i : Nat) (np : Nat) (t : List (Nat × (List D → Rs))) (fs : M (List D)) : M D := fun env => match env[i]? with
  | some (some (.cls c)) => (match mtGet t c with
    | some m => cMake c np m fs env
    | none => .stuck)
  | _ => .stuck
theorem de_makeL {t : List (Nat × (List D → Rs))} (i : Nat) (hT : ∀ p ∈ t, MkOk X k np p.1 p.2) (hr : Room (k + 1) X.A) (tk : Takes X Wx) (ha : DA X Wx ms (e :: es) fs) (hmu : ms.contains i = false := by rfl) (hN : X.N[i]? = some x := by rfl)
    (hv : Vis X.env.scope x := by first | exact Or.inl rfl | exact Or.inr (Or.inl rfl) | exact Or.inr (Or.inr rfl)) (hdb : (x == ("__debug__" : Str)) = false := by decide) (hcd : (x == ("__classdict__" : Str)) = false := by decide)
    (he : starEach (e :: es) X.env = (false, eval e X.env) :: starEach es X.env := by rfl) (hpl : (backTo pos (starEach es X.env)).any (·.1) = false := by rfl) : DE X Wx ms (.Call (.Name x p) (e :: es) [] pos) (cMakeL i np t fs) := fun B W env σ H Q o h => by
  unfold cMakeL at h
  cases q : env[i]? with
  | none =>
    rw [q] at h
    exact h.elim
  | some z =>
    cases z with
    | none =>
      rw [q] at h
      exact h.elim
    | some d =>
      rw [q] at h
      cases d with
      | cls c =>
        cases g : mtGet t c with
        | none =>
          simp only [g] at h
          exact h.elim
        | some m =>
          simp only [g] at h
          obtain ⟨pr, e2, rfl⟩ := Option.map_eq_some_iff.mp g
          have e3 := nbeq (i := pr.1) (j := c) (List.find?_some (p := fun p : Nat × (List D → Rs) => Nat.beq p.1 c) e2)
          subst e3
          obtain ⟨f, hM, F⟩ := (hT pr (List.mem_of_find?_eq_some e2)).ex
          obtain ⟨v, s1, s2⟩ := o.sl i _ hmu q
          obtain rfl : v = V.ref (He.ga X.K (nm pr.1)) := s2
          unfold tm
          intro pins s I
          refine wpAny_Call_Name_kw (thn ((pe_var (pos := p) hN hv hdb hcd).run pins s σ H (fun v H1 => v = .ref (He.ga X.K (nm pr.1)) ∧ H1 = H) I ⟨_, s1, rfl, rfl⟩) fun u s1 ⟨v, H1, I1, r1, q1⟩ => ?_)
          obtain ⟨rfl, rfl⟩ := q1
          cases r1
          refine PySem.W.callWith_K (h₀ := X.base) I.ok.mod.kin hM.kp (thn (pa_tm.run pos pins _ _ _ _ I1 (ha _ _ _ _ _ (fun vs H1 => ∀ x dx, H1 x = Option.none → H1 dx = Option.none → dx ≠ x → SpD (tx X) np (some 0) false pr.2 (V.ref x :: vs) (upd (upd H1 dx (.own x)) x (.ins (He.ga X.K (nm pr.1)) dx [])) (fun v H2 => v = .non ∧ Q (.ref x) H2) (WE Wx σ)) o
            (Po.cont (k1 := rkL (tx X)) h fun ds env1 W1 H1 vs n1 o1 r1 h1 => sp_make o1 r1 h1))) fun us s1 ⟨vs, H1, I1, r, q⟩ => ⟨I1.kIn, ?_⟩) he hpl
          exact run_makeRS hM F hr tk I1 r q
      | _ => exact h.elim
end
end DL

set_option Elab.async false
set_option linter.all false
set_option maxRecDepth 100000
set_option maxHeartbeats 4000000
/-! own exceptions over Exception whose __init__ stores its parameters -/
namespace DL
open PySem PySem.Spec L2
open PySem.W PySem.Calls PyProof.Rows PySem.HandSPX Builtin Builtin.ObjectAttr

abbrev xTail : List Value := [.type "Exception", .type "BaseException", .type "object"]
def overX : List Value → Bool
  | .ref _ :: more => overX more
  | other => other == xTail
theorem overX_or (l : List Value) (h : overX l = true) : (∃ c more, l = .ref c :: more ∧ overX more = true) ∨ l = xTail := by
  cases l with
  | nil => exact .inr (beq_iff_eq.mp h)
  | cons v more =>
    cases v with
    | ref c => exact .inl ⟨c, more, rfl, h⟩
    | _ => exact .inr (beq_iff_eq.mp h)
theorem overX_pass (me : Value) (l : List Value) (h : overX l = true) : refuseLoop me "__setattr__" l = pure () := by
  induction l with
  | nil => exact absurd h (by decide)
  | cons v more ih =>
    rcases overX_or _ h with ⟨c, m2, e, h2⟩ | e
    · obtain ⟨e1, e2⟩ := List.cons.inj e
      rw [e1, e2, refuseLoop_ref]
      exact e2 ▸ ih (e2 ▸ h2)
    · rw [e]
      exact F.store_Exception.passes me
theorem overX_has (n : String) (l : List Value) (h : overX l = true) : l.contains (.type n) = xTail.contains (.type n) := by
  induction l with
  | nil => exact absurd h (by decide)
  | cons v more ih =>
    rcases overX_or _ h with ⟨c, m2, e, h2⟩ | e
    · obtain ⟨e1, e2⟩ := List.cons.inj e
      rw [List.contains_cons, ih (e2 ▸ h2), e1]
      rfl
    · rw [e]
theorem overX_some {l : List Value} (h : overX l = true) : l.isEmpty = false := by
  cases l with
  | nil => exact absurd h (by decide)
  | cons _ _ => rfl

section
variable {prog : Program} {w : World} {A : Around} {E : Value → Shared → Prop} {R : Result → Shared → Prop} {hp : Heap} {g : Array GenState} {dr : Drawn} {t : Nat} {os : OsState}
/-- a name goes into an exception's own dict -/
theorem putIn {M : Model} {dx : Addr} {name : Str} {tk : Tok} {v : Value} {m0 : Str → Option Value} {names : List Str} {Q : Fin → Shared → Prop} (hn : hp.Ns1 dx m0) (hw : Within m0 names) (hz : names.length ≤ 1000)
    (hq : ∀ h' tk', h'.Ns1 dx (fun y => if y = name then some v else m0 y) → Heap.SameBut dx hp h' → Q (.done (.ret .none)) ⟨h', g, dr, tk', os⟩) : wpAny M A (storeInDict dx (.str name tk) name v) Q E ⟨hp, g, dr, t, os⟩ := by
  unfold storeInDict newKeyGuard
  refine wpAny_bind (wpAny_pure (wpAny_bind (wpAny_nsSet1 hn fun h2 n2 sb => ?_)))
  have room : (name :: names).length ≤ sizeLine := by
    rw [List.length_cons, sizeLine_eq]
    omega
  obtain ⟨od, es, ep, g1, g2, g3⟩ := n2.count (Within.cons name v hw)
  refine wpAny_bind (wpAny_lookBehind g1 ?_ ?_)
  · rw [g2]
    exact pastItsLine_dict (Nat.le_trans g3 (Nat.le_succ_of_le room))
  · wp_walk
    exact hq h2 _ n2 sb
/-- the first attribute: the dict is made -/
theorem setFirst {K : W.Frag} {name : Str} {tk : Tok} {v : Value} {x C : Addr} {fv : Array Value} {cd : ClassData} (X : K.In hp) (hx : hp.get? x = some { cls := .ref C, data := .fields fv }) (hcd : W.clsIn K C = some cd) (hm : overX cd.mro = true) (hh : cd.hasDict = true)
    (ha : W.findIn K (.ref C) name = some none)
    (hq : ∀ h' tk' dx, (∀ b o, b ≠ x → hp.get? b = some o → h'.get? b = some o) → hp.objs.size ≤ dx → dx ≠ x → h'.get? x = some { cls := .ref C, dict := some dx, data := .fields fv } → h'.Ns1 dx (fun y => if y = name then some v else none) → R (.ok (.ret .none)) ⟨h', g, dr, tk', os⟩) :
    codeAny (model prog w) A (.call (.builtin "object.__setattr__") ⟨[.ref x, .str name tk, v], []⟩) R ⟨hp, g, dr, t, os⟩ := by
  have inst : W.InstAt hp x { cls := .ref C, data := .fields fv } C none := ⟨hx, rfl, rfl, trivial⟩
  have store := F.store_object
  have nonempty := overX_some hm
  have obj : cd.mro.contains (.type "object") = true := by
    rw [overX_has "object" _ hm]
    decide +kernel
  have apart : x ≠ hp.objs.size := Nat.ne_of_lt (Heap.lt_size hx)
  have isObj : W.Looks (model prog w) hp (isInstance (.ref x) (.type "object")) true := by
    refine inst.type.andThen (W.looks_mroIn X ?_)
    unfold W.mroIn
    rw [hcd, Option.bind_some, if_neg (by rw [nonempty]; decide), obj]
  refine codeAny_call_builtin store.slot.plain store.entry ?_
  refine @W.check_slot (model prog w) _ _ ⟨hp, g, dr, t, os⟩ "object.__setattr__" "object" "__setattr__" (.ref x) [.str name tk, v] [] _ store.kind store.split isObj (store.args (.ref x) (.str name tk) v) ?_
  have seeMro : W.Looks (model prog w) hp (mroOf (.ref C)) cd.mro := (W.looks_clsIn X hcd).andThen .now
  have seeTaker : W.Looks (model prog w) hp (storeTaker? none) none := .now
  have seeCls : W.Looks (model prog w) hp (classData C) cd := W.looks_clsIn X hcd
  rw [W.osa_eq, refuse_eq]
  refine wpAny_bind (wpAny_bind (inst.type.at (wpAny_bind (seeMro.at ?_))))
  rw [overX_pass _ _ hm]
  refine wpAny_pure (wpAny_bind (inst.type.at (wpAny_bind ((W.looks_findIn X ha).at (wpAny_bind (seeTaker.at ?_))))))
  show wpAny _ _ (storeInOwnDict (.ref x) (.ref C) (.str name tk) name v false) _ _ _
  obtain ⟨c1, c2, c3, c4, c5, c6, c7, c8, c9, c10, c11⟩ := cd
  dsimp only at hh
  subst hh
  unfold storeInOwnDict ownDictForStores
  repeat (first | with_reducible refine putIn (m0 := fun _ => none) (names := []) ?_ Within.nil (Nat.zero_le _) ?_ | with_reducible refine wpAny_loadPart_at hx ?_ | with_reducible refine seeCls.at ?_ | wp_step)
  · exact Heap.Ns1.of_empty ⟨_, #[], _, (Heap.get?_update_ne _ _ _ _ apart.symm).trans
      (Heap.get?_push_at rfl rfl), rfl, fun e he => absurd he (by simp), fun _ => rfl⟩
  · intro h2 tk2 n2 sb
    have there : (hp.push { cls := .type "dict", data := .dict #[] }).get? x = some { cls := .ref C, data := .fields fv } := Heap.get?_push_of_some _ hx
    refine hq h2 tk2 hp.objs.size (fun b o hb ho => ?_) (Nat.le_refl _) apart.symm ?_ n2
    · have k1 := sb.2 b (Nat.ne_of_lt (Heap.lt_size ho))
      exact k1.trans ((Heap.get?_update_ne _ _ _ _ hb).trans (Heap.get?_push_of_some _ ho))
    · exact (sb.2 x apart).trans (Heap.get?_update_self _ there rfl)
/-- a further attribute -/
theorem setMore {K : W.Frag} {name : Str} {tk : Tok} {v : Value} {x C dx : Addr} {fv : Array Value} {cd : ClassData} {m0 : Str → Option Value} {names : List Str} (X : K.In hp) (hx : hp.get? x = some { cls := .ref C, dict := some dx, data := .fields fv }) (hns : hp.Ns1 dx m0) (hw : Within m0 names)
    (hz : names.length ≤ 1000) (hcd : W.clsIn K C = some cd) (hm : overX cd.mro = true) (hh : cd.hasDict = true) (ha : W.findIn K (.ref C) name = some none)
    (hq : ∀ h' tk', (∀ b o, b ≠ dx → hp.get? b = some o → h'.get? b = some o) → h'.Ns1 dx (fun y => if y = name then some v else m0 y) → R (.ok (.ret .none)) ⟨h', g, dr, tk', os⟩) :
    codeAny (model prog w) A (.call (.builtin "object.__setattr__") ⟨[.ref x, .str name tk, v], []⟩) R ⟨hp, g, dr, t, os⟩ := by
  obtain ⟨od, es, ep, g1, g2, _⟩ := hns.count hw
  have inst : W.InstAt hp x { cls := .ref C, dict := some dx, data := .fields fv } C (some od) := ⟨hx, rfl, rfl, g1⟩
  have store := F.store_object
  have nonempty := overX_some hm
  have obj : cd.mro.contains (.type "object") = true := by
    rw [overX_has "object" _ hm]
    decide +kernel
  have isObj : W.Looks (model prog w) hp (isInstance (.ref x) (.type "object")) true := by
    refine inst.type.andThen (W.looks_mroIn X ?_)
    unfold W.mroIn
    rw [hcd, Option.bind_some, if_neg (by rw [nonempty]; decide), obj]
  refine codeAny_call_builtin store.slot.plain store.entry ?_
  refine @W.check_slot (model prog w) _ _ ⟨hp, g, dr, t, os⟩ "object.__setattr__" "object" "__setattr__" (.ref x) [.str name tk, v] [] _ store.kind store.split isObj (store.args (.ref x) (.str name tk) v) ?_
  have seeMro : W.Looks (model prog w) hp (mroOf (.ref C)) cd.mro := (W.looks_clsIn X hcd).andThen .now
  have seeTaker : W.Looks (model prog w) hp (storeTaker? none) none := .now
  have seeCls : W.Looks (model prog w) hp (classData C) cd := W.looks_clsIn X hcd
  rw [W.osa_eq, refuse_eq]
  refine wpAny_bind (wpAny_bind (inst.type.at (wpAny_bind (seeMro.at ?_))))
  rw [overX_pass _ _ hm]
  refine wpAny_pure (wpAny_bind (inst.type.at (wpAny_bind ((W.looks_findIn X ha).at (wpAny_bind (seeTaker.at ?_))))))
  show wpAny _ _ (storeInOwnDict (.ref x) (.ref C) (.str name tk) name v false) _ _ _
  obtain ⟨c1, c2, c3, c4, c5, c6, c7, c8, c9, c10, c11⟩ := cd
  dsimp only at hh
  subst hh
  unfold storeInOwnDict ownDictForStores
  repeat (first | with_reducible refine putIn hns hw hz ?_ | with_reducible refine wpAny_loadPart_at hx ?_ | with_reducible refine seeCls.at ?_ | wp_step)
  intro h2 tk2 n2 sb
  exact hq h2 tk2 (fun b o hb ho => (sb.2 b hb).trans ho) n2
end

/-! ### the text of such a class -/
/-- the statements self.f = f, one behind another -/
def Puts : List Str → List Stmt → Prop
  | [], b => b = []
  | f :: fs, b => ∃ (q1 q2 q3 q4 : Pos) (r : List Stmt), b = .Assign [.Attribute (.Name "self" q1) f q2] (.Name f q3) q4 :: r ∧ Puts fs r
/-- names of the parameters are found -/
structure Pars (qual : Str) (scope : Scope) (fs : List Str) : Prop where
  ld : ∀ (L a : Addr) (cd x : Value) (vs : List Value), vs.length = fs.length → ∀ p ∈ (("self" : Str), x) :: fs.zip vs, (bindL (envOfC qual scope L a cd).kindOf ((("self" : Str), x) :: fs.zip vs) fun _ => none) p.1 = some p.2
  kd : ∀ (L a : Addr) (cd : Value) (f : Str), f ∈ ("self" : Str) :: fs → (envOfC qual scope L a cd).kindOf f = some .local
  all : ∀ (x : Value) (vs : List Value), vs.length = fs.length → (((("self" : Str), x) :: fs.zip vs).all fun y => scope.names.lookup y.1 == some .local || scope.names.lookup y.1 == some .cell) = true
  co : scope.isCoroutine = false
  gen : scope.isGenerator = false
  fn : scope.kind = .function
  nd : fs.Nodup
  dbg : ∀ f ∈ ("self" : Str) :: fs, (f == ("__debug__" : Str)) = false
  few : fs.length ≤ 900
structure ExT (K : Frag) (C fI : Addr) (fs : List Str) : Prop where
  cls : ∃ nm q N bs bm sn sub ab col dd k0 k1 k2 k3 k5, K.lookup C = some (excClassObj nm q C N bs bm true sn sub ab col dd k0 k1 k2 k3 k5 "Exception.__new__") ∧ overX bm = true
  sa : findIn K (.ref C) "__setattr__" = some (some (.builtin "object.__setattr__"))
  noN : ∀ f ∈ fs, findIn K (.ref C) f = some none
  iC : findIn K (.ref C) "__init__" = some (some (.ref fI))
  tC : typeIn K (.ref fI) = some (.type "function")
  kC : keepIn K (.ref C) = true
  exC : subIn K (.ref C) (.type "BaseException") = some true
  tyC : typeIn K (.ref C) = some (.type "type")
  fn : ∃ (x qual : Str) (params : Arguments) (body : List Stmt) (scope : Scope) (fd : FuncData), FunD K x qual params body scope [] [] fI fd ∧ Puts fs body ∧ Pars qual scope fs ∧ ∀ (doc pm : Value) (an : Option Addr) (cdv ct kV : Value) (u : Value) (vs : List Value), vs.length = fs.length →
    bindArgs (fnOf x qual params body scope .none kV doc pm an cdv ct) ⟨u :: vs, []⟩ = pure ((("self" : Str), u) :: fs.zip vs)
/-- the exception at x while it is made: its dict holds what done says -/
def ExAt (h : Heap) (x C t1 : Addr) (least : Nat) (done : List (Str × Value)) : Prop := match done with
  | [] => h.get? x = some (excO C t1)
  | _ :: _ => ∃ dx m, least ≤ dx ∧ dx ≠ x ∧ h.get? x = some { cls := .ref C, dict := some dx, data := .fields #[.ref t1, .none, .none, .none, .bool false, .none] } ∧ h.Ns1 dx m ∧ Within m (done.map (·.1)) ∧ ∀ y, m y = done.lookup y
theorem lookup_snoc {done : List (Str × Value)} {f : Str} {v : Value} (hn : f ∉ done.map (·.1)) (y : Str) : (if y = f then some v else done.lookup y) = (done ++ [(f, v)]).lookup y := by
  induction done with
  | nil =>
    by_cases e : y = f
    · rw [if_pos e, e]
      simp [List.lookup]
    · rw [if_neg e]
      have e2 : (y == f) = false := beq_eq_false_iff_ne.mpr e
      simp [List.lookup, e2]
  | cons p r ih =>
    have h1 : f ≠ p.1 := fun e => hn (by rw [e]; exact List.mem_cons_self)
    have h2 : f ∉ r.map (·.1) := fun e => hn (List.mem_cons_of_mem _ e)
    have ih := ih h2
    by_cases e : y = p.1
    · have e2 : (y == p.1) = true := beq_iff_eq.mpr e
      have e3 : ¬ y = f := fun z => h1 (z ▸ e)
      rw [if_neg e3]
      simp [List.lookup, e2]
    · have e2 : (y == p.1) = false := beq_eq_false_iff_ne.mpr e
      simp only [List.cons_append, List.lookup, e2]
      exact ih
section
variable {prog : Program} {w : World} {A : Around} {s : Shared} {K : Frag} {C fI : Addr} {all : List Str}
/-- the body's walk -/
theorem puts_walk {E : Value → Shared → Prop} {Q : Flow → Shared → Prop} (T : ExT K C fI all) {qual : Str} {scope : Scope} (Ps : Pars qual scope all) {L : Addr} {a : Addr} {cd : Value} {x t1 : Addr} {s0 : Shared} {m : Str → Option Value} (hK : K.lookup x = none) (hmx : m ("self" : Str) = some (.ref x)) (hxL : x ≠ L)
    (hL : s0.heap.objs.size ≤ L) (X0 : K.In s0.heap) : ∀ (fs : List Str) (vs : List Value) (body : List Stmt) (done : List (Str × Value)) (h : Heap) (tk : Nat), Puts fs body → vs.length = fs.length → (∀ f ∈ fs, f ∈ all) → fs.Nodup → (∀ f ∈ fs, f ∉ done.map (·.1)) → done.length + fs.length ≤ 900 → (∀ p ∈ fs.zip vs, m p.1 = some p.2) →
      K.In h → h.Ns L m → ExAt h x C t1 (L + 1) done → (∀ b o, b ≠ x → s0.heap.get? b = some o → h.get? b = some o) →
      (∀ h' tk', ExAt h' x C t1 (L + 1) (done ++ fs.zip vs) → (∀ b o, b ≠ x → s0.heap.get? b = some o → h'.get? b = some o) → Q .next { s0 with heap := h', toks := tk' }) →
      wpAny (model prog w) A (execs body (envOfC qual scope L a cd)) Q E { s0 with heap := h, toks := tk }
  | [], vs, body, done, h, tk, hb, hl, _, _, _, _, _, X, hn, ex, kp, hq => by
    have eb : body = [] := hb
    subst eb
    have e : vs = [] := List.length_eq_zero_iff.mp hl
    subst e
    refine wpAny_execs_nil (hq h tk ?_ kp)
    rw [show ([] : List Str).zip ([] : List Value) = [] from rfl, List.append_nil]
    exact ex
  | f :: fs, [], _, _, _, _, _, hl, _, _, _, _, _, _, _, _, _, _ => by cases hl
  | f :: fs, v :: vs, body, done, h, tk, hb, hl, hall, nd, hnew, few, hm, X, hn, ex, kp, hq => by
    obtain ⟨q1, q2, q3, q4, r, rfl, hr⟩ := hb
    have fa : f ∈ all := hall f List.mem_cons_self
    obtain ⟨cnm, cq, cN, cbs, bm, csn, csub, cab, ccol, cdd, k0, k1, k2, k3, k5, hC, hbm⟩ := T.cls
    have hcl : clsIn K C = some { name := cnm, bases := cbs, mro := .ref C :: bm, ns := cN, qualname := cq, hasDict := true, slotNames := csn, subclasses := csub, abstract := cab, collection := ccol, hasDel := false } := by
      unfold clsIn
      rw [hC] <;> rfl
    have nf : f ∉ done.map (·.1) := hnew f List.mem_cons_self
    have next : ∀ h' tk', ExAt h' x C t1 (L + 1) (done ++ [(f, v)]) → (∀ b o, b ≠ x → s0.heap.get? b = some o → h'.get? b = some o) → K.In h' → h'.Ns L m → wpAny (model prog w) A (execs r (envOfC qual scope L a cd)) Q E { s0 with heap := h', toks := tk' } := fun h' tk' ex' kp' X' hn' =>
      puts_walk T Ps hK hmx hxL hL X0 fs vs r (done ++ [(f, v)]) h' tk' hr (Nat.succ.inj hl) (fun g hg => hall g (List.mem_cons_of_mem _ hg)) (List.nodup_cons.mp nd).2 (fun g hg z => by
        rw [List.map_append] at z
        rcases List.mem_append.mp z with z | z
        · exact hnew g (List.mem_cons_of_mem _ hg) z
        · have e : g = f := List.mem_singleton.mp z
          exact (List.nodup_cons.mp nd).1 (e ▸ hg)) (by rw [List.length_append]; simp only [List.length_cons, List.length_nil] at few ⊢; omega) (fun p hp => hm p (List.mem_cons_of_mem _ hp)) X' hn' ex' kp' (fun h2 tk2 e2 k2 => hq h2 tk2 (by
          rw [List.append_assoc] at e2
          exact e2) k2)
    refine wpAny_execs_cons (plainObj_wpAny_Assign_Attribute ?_)
    have ld : ∀ {n : Str} {pos : Pos} {u : Value} {s : Shared} {Q' : Value → Shared → Prop} (_ : s.heap.Ns L m) (_ : n ∈ ("self" : Str) :: all) (_ : m n = some u) (_ : Q' u s), wpAny (model prog w) A (eval (.Name n pos) (envOfC qual scope L a cd)) Q' E s := fun {n pos u s Q'} z1 z2 z3 z4 => wpAny_Name (wpAny_loadName_local Ps.fn (Ps.kd L a cd n z2) z1 z3 z4) (Ps.dbg n z2)
    refine ld hn (List.mem_cons_of_mem _ fa) (hm (f, v) List.mem_cons_self) (ld hn List.mem_cons_self hmx ?_)
    have back : ∀ {h' : Heap} {tk' : Nat} {ex' : Prop}, True := fun {_ _ _} => trivial
    have kin : ∀ {h' : Heap}, (∀ b o, b ≠ x → h.get? b = some o → h'.get? b = some o) → K.In h' := fun {h'} k b o e => k b o (fun z => by rw [z, hK] at e; cases e) (X b o e)
    cases done with
    | nil =>
      have hx : h.get? x = some (excO C t1) := ex
      refine set_plain X (ox := excO C t1) (od := none) ⟨hx, rfl, rfl, trivial⟩ T.sa ?_
      refine setFirst X hx hcl (show overX (.ref C :: bm) = true from hbm) rfl (T.noN f fa) (fun h3 tk3 dx k3 dn dne hx3 hn3 => ?_)
      have k3' : ∀ b o, b ≠ x → h.get? b = some o → h3.get? b = some o := k3
      have big : L + 1 ≤ dx := by
        have z : L < h.objs.size := hn.lt
        exact Nat.le_trans z dn
      exact next h3 tk3 ⟨dx, _, big, dne, hx3, hn3, Within.cons f v Within.nil, fun y => by
        by_cases e : y = f
        · rw [if_pos e, e]; simp [List.lookup]
        · rw [if_neg e]
          have e2 : (y == f) = false := beq_eq_false_iff_ne.mpr e
          simp [List.lookup, e2]⟩ (fun b o hb e => k3 b o hb (kp b o hb e)) (kin k3) (hn.at fun o q => k3 L o (Ne.symm hxL) q)
    | cons p done =>
      obtain ⟨dx, md, g1, g2, hx, g3, g4, g5⟩ := ex
      obtain ⟨od, es, ep, c1, c2, _⟩ := g3.count g4
      refine set_plain X (od := some od) ⟨hx, rfl, rfl, c1⟩ T.sa ?_
      have sz : ((p :: done).map (·.1)).length ≤ 1000 := by
        rw [List.length_map]
        simp only [List.length_cons] at few ⊢
        omega
      refine setMore X hx g3 g4 sz hcl (show overX (.ref C :: bm) = true from hbm) rfl (T.noN f fa) (fun h3 tk3 k3 hn3 => ?_)
      have old : ∀ b o, s0.heap.get? b = some o → b ≠ dx := fun b o e z => by
        have z1 := Heap.lt_size e
        rw [z] at z1
        exact absurd z1 (Nat.not_lt.mpr (Nat.le_trans hL (Nat.le_trans (Nat.le_succ L) g1)))
      have k3' : ∀ b o, b ≠ dx → h.get? b = some o → h3.get? b = some o := k3
      have xdx : x ≠ dx := fun z => g2 z.symm
      have ldx : L ≠ dx := fun z => Nat.not_succ_le_self L (by rw [← z] at g1; exact g1)
      refine next h3 tk3 ⟨dx, _, g1, g2, k3' _ _ xdx hx, hn3, ?_, fun y => ?_⟩ (fun b o hb e => k3' b o (old b o e) (kp b o hb e)) (fun b o e => k3' b o (old b o (X0 b o e)) (X b o e)) (hn.at fun o q => k3' L o ldx q)
      · intro y hy
        have wi := Within.cons f v g4 y hy
        rw [List.map_append]
        rcases List.mem_cons.mp wi with e | e
        · exact List.mem_append_right _ (by rw [e]; exact List.mem_cons_self)
        · exact List.mem_append_left _ e
      · show (if y = f then some v else md y) = _
        rw [g5 y]
        exact lookup_snoc nf y
/-- __init__ at a new exception -/
theorem ex_init {R : Result → Shared → Prop} (T : ExT K C fI all) {x t0 : Addr} {vs : List Value} (hl : vs.length = all.length) (X : K.In s.heap) (hlim : s.heap.NoLimit) (hx : s.heap.get? x = some (excO C t0)) (hnx : K.lookup x = none) (hroom : A.depth < recursionLimit)
    (hq : ∀ h' tk, ExAt h' x C t0 s.heap.objs.size (all.zip vs) → (∀ b o, b ≠ x → s.heap.get? b = some o → h'.get? b = some o) → R (.ok (.ret .none)) { s with heap := h', toks := tk }) :
    codeAny (model prog w) A (.call (.ref fI) ⟨.ref x :: vs, []⟩) R s := by
  obtain ⟨nme, qual, params, body, scope, fd, F, hp, Ps, hb⟩ := T.fn
  obtain ⟨oc, od, dV, kV, doc, pm, an, cdv, ct, osl, rfl, ho, hcd, hD, _⟩ := F.ex
  obtain rfl : dV = .none := by
    rcases hD with ⟨_, z⟩ | ⟨z, _⟩
    · exact z
    · exact absurd rfl z
  refine Att.call_fn (binds := (("self" : Str), .ref x) :: all.zip vs) X hlim ho hcd hroom (BindsTo.of_eq (hb doc pm an cdv ct kV (.ref x) vs hl)) (Ps.all _ vs hl) (fun s₁ IC => ?_) Ps.co Ps.gen Ps.fn
  obtain ⟨h₁, tk₁, rfl⟩ := IC.toInCall.same
  have k : ∀ b o, s.heap.get? b = some o → h₁.get? b = some o := IC.toInCall.keep
  have lds := Ps.ld s.heap.objs.size fI cdv (.ref x) vs hl
  have apart : x ≠ s.heap.objs.size := Nat.ne_of_lt (Heap.lt_size hx)
  refine puts_walk (t1 := t0) (s0 := s) T Ps hnx (lds _ List.mem_cons_self) apart (Nat.le_refl _) X all vs body [] h₁ tk₁ hp hl (fun f hf => hf) Ps.nd (fun f _ z => by cases z) (by have := Ps.few; simp only [List.length_nil]; omega)
    (fun p hp => lds p (List.mem_cons_of_mem _ hp)) (X.keeps k) IC.toInCall.ns (k _ _ hx) (fun b o _ e => k b o e) fun h' tk' ex kp => ?_
  refine hq h' tk' ?_ kp
  rw [List.nil_append] at ex
  cases e : all.zip vs with
  | nil =>
    rw [e] at ex
    exact ex
  | cons p r =>
    rw [e] at ex
    obtain ⟨dx, m, g1, g2⟩ := ex
    exact ⟨dx, m, Nat.le_trans (Nat.le_succ _) g1, g2⟩
end
end DL

set_option Elab.async false
set_option linter.all false
set_option maxRecDepth 100000
set_option maxHeartbeats 4000000
/-! raising such an exception -/
namespace DL
open PySem PySem.Spec L2
open PySem.W PySem.Calls PyProof.Rows PySem.HandSPX Builtin Builtin.ObjectAttr
section
variable {prog : Program} {w : World} {A : Around} {s : Shared} {K : Frag} {C fI : Addr} {all : List Str} {R : Result → Shared → Prop}
/-- an exception that was made: e, apart from all else; its dict -/
structure ExMade (h h' : Heap) (e C : Addr) (kvs : List (Str × Value)) (d : Addr) : Prop where
  keep : ∀ b o, h.get? b = some o → h'.get? b = some o
  new : h.objs.size ≤ e
  obj : ∃ oe vs, h'.get? e = some oe ∧ oe.cls = .ref C ∧ oe.dict = some d ∧ oe.data = .fields vs ∧ vs[1]? = some .none
  dbig : h.objs.size ≤ d
  dne : d ≠ e
  ns : ∃ m, h'.Ns1 d m ∧ ∀ y, m y = kvs.lookup y
theorem ex_made (T : ExT K C fI all) {vs : List Value} (hl : vs.length = all.length) (hne : all ≠ []) (hz : vs.length ≤ sizeLine) (X : K.In s.heap) (hlim : s.heap.NoLimit) (hroom : A.depth + 1 < recursionLimit)
    (hq : ∀ h' tk e d, ExMade s.heap h' e C (all.zip vs) d → R (.ok (.ret (.ref e))) { s with heap := h', toks := tk }) : codeAny (model prog w) A (.call (.ref C) ⟨vs, []⟩) R s := by
  obtain ⟨cnm, cq, cN, cbs, bm, csn, csub, cab, ccol, cdd, k0, k1, k2, k3, k5, hC, hbm⟩ := T.cls
  obtain ⟨hp, g, dr, tk, os⟩ := s
  let h2 : Heap := (hp.push (kdv_tup vs)).push (excO C hp.objs.size)
  have k : ∀ b o, hp.get? b = some o → h2.get? b = some o := fun b o e => Heap.get?_push_of_some _ (Heap.get?_push_of_some _ e)
  have at_ : h2.get? (hp.objs.size + 1) = some (excO C hp.objs.size) := by
    show ((hp.push (kdv_tup vs)).push (excO C hp.objs.size)).get? (hp.objs.size + 1) = _
    heap_get
  have notK : K.lookup (hp.objs.size + 1) = none := by
    cases e : K.lookup (hp.objs.size + 1) with
    | none => rfl
    | some o =>
      have z : hp.get? (hp.objs.size + 1) = some o := X _ _ e
      exact absurd (Nat.lt_of_succ_lt (Heap.lt_size z)) (Nat.lt_irrefl _)
  refine call_own F.excBase_Exception (fun n => overX_has n bm hbm) (X _ _ hC) (looks_findIn X T.iC) (fun me => bind_fn X me T.tC) hz ?_
  refine ex_init (s := ⟨h2, g, dr, tk, os⟩) T hl (X.keeps k) (hlim.keeps k) at_ notK (show A.depth + 1 < recursionLimit from hroom) fun h' tk' ex kp => ?_
  have sz : h2.objs.size = hp.objs.size + 1 + 1 := by
    show ((hp.push (kdv_tup vs)).push (excO C hp.objs.size)).objs.size = _
    rw [Heap.size_push, Heap.size_push]
  cases e : all.zip vs with
  | nil =>
    exfalso
    cases all with
    | nil => exact hne rfl
    | cons f r =>
      cases vs with
      | nil => cases hl
      | cons v r2 => cases e
  | cons p r =>
    rw [e] at ex
    obtain ⟨dx, m, g1, g2, g3, g4, _, g5⟩ := ex
    have old : ∀ b o, hp.get? b = some o → h'.get? b = some o := fun b o z => kp b o (Nat.ne_of_lt (Nat.lt_succ_of_lt (Heap.lt_size z))) (k b o z)
    refine ⟨rfl, hq h' tk' (hp.objs.size + 1) dx ⟨old, Nat.le_succ _, ⟨_, _, g3, rfl, rfl, rfl, rfl⟩, ?_, g2, m, g4, fun y => by rw [g5 y, e]⟩⟩
    have g1' : h2.objs.size ≤ dx := g1
    rw [sz] at g1'
    exact Nat.le_trans (Nat.le_trans (Nat.le_succ _) (Nat.le_succ _)) g1'
end
theorem relO_zip : ∀ {fs : List Str} {vs : List V} {us : List Value}, vs.length = fs.length → Vals vs us → ∀ y, RelO ((fs.zip vs).lookup y) ((fs.zip us).lookup y)
  | [], [], _, _, .nil, y => trivial
  | [], _ :: _, _, h, _, _ => by cases h
  | _ :: _, [], _, h, _, _ => by cases h
  | f :: fs, v :: vs, u :: us, h, .cons r1 r2, y => by
    show RelO (List.lookup y ((f, v) :: fs.zip vs)) (List.lookup y ((f, u) :: fs.zip us))
    by_cases e : y = f
    · have e2 : (y == f) = true := beq_iff_eq.mpr e
      simp only [List.lookup, e2]
      exact r1
    · have e2 : (y == f) = false := beq_eq_false_iff_ne.mpr e
      simp only [List.lookup, e2]
      exact relO_zip (Nat.succ.inj h) r2 y
section
variable {X : Cx} {C fI : Addr} {all : List Str} {x : Str} {a : Expr} {as : List Expr} {p pos pos2 : Pos} {k : Nat}
/-- C(e, ..) of such a class, to be raised -/
def tMkX (C : Addr) (all : List Str) (ta : TA) : L2.St → Hp → XK → Prop := fun σ H Q => ta σ H fun vs H1 => vs.length = all.length ∧ ∀ d, H1 d = none → Q (.ref C) (some d) (upd H1 d (.xd (all.zip vs)))
theorem pmk_own {ta : TA} (T : ExT X.K C fI all) (hne : all ≠ []) (hfew : all.length ≤ 900) (hr : Room k X.A) (ha : PA X (a :: as) ta) (hg : Gl X x) (hm : X.mg x = some (.ref C)) (hdb : (x == ("__debug__" : Str)) = false)
    (he : starEach (a :: as) X.env = (false, eval a X.env) :: starEach as X.env) (hpl : (backTo pos (starEach as X.env)).any (·.1) = false) : PMk X (.Call (.Name x p) (a :: as) [] pos) (tMkX C all ta) := by
  intro pins s σ H Q I h
  refine wpAny_Call_Name_kw (ld_glob I hg hm ?_ hdb)
  refine PySem.W.callWith_K (h₀ := X.base) I.ok.mod.kin T.kC (thn (ha.run pos pins s σ H _ I h) fun us s1 hh => ?_) he hpl
  obtain ⟨vs, H1, I1, r1, ev, q1⟩ := hh
  refine ⟨I1.kIn, ?_⟩
  show wpAny _ _ (call (.ref C) us) _ _ _
  have ul : us.length = all.length := by rw [← ev, r1.length]
  have hlim := I1.nolimit
  obtain ⟨hp, g, dr, tk, os⟩ := s1
  have room : X.A.depth + 1 < recursionLimit := by
    have z := hr.dp
    omega
  have fits : us.length ≤ sizeLine := by
    rw [sizeLine_eq, ul]
    omega
  refine wpAny_call (ex_made T ul hne fits I1.kIn hlim room fun h' tk' e d M => ?_)
  show MkP X pins σ Q (.ref e) ⟨h', g, dr, tk', os⟩
  obtain ⟨oe, fv, hoe, hc, hd, hdat, h1⟩ := M.obj
  obtain ⟨m, hns, hm2⟩ := M.ns
  obtain ⟨G', g1, g2⟩ := restrict h' fun b => decide (b ≠ e)
  have same : ∀ b, b ≠ e → G'.get? b = h'.get? b := fun b hb => g1 b (decide_eq_true hb)
  have gone : G'.get? e = none := g2 e (by simp)
  have old : ∀ b o, hp.get? b = some o → G'.get? b = some o := fun b o q => by
    rw [same b (Nat.ne_of_lt (Nat.lt_of_lt_of_le (Heap.lt_size q) M.new))]
    exact M.keep b o q
  have ob : ObjOk X.prog X.w (upd H1 d (.xd (all.zip vs))) G' d (.xd (all.zip vs)) := by
    refine ⟨m, hns.at (fun o q => (same d M.dne).trans q), fun y => ?_⟩
    rw [hm2 y]
    exact relO_zip ev r1 y
  have J : Inv X pins σ (upd H1 d (.xd (all.zip vs))) ⟨G', g, dr, tk', os⟩ := I1.laid (t' := tk') old M.dbig ob
  have sub : ∀ b o, G'.get? b = some o → h'.get? b = some o := fun b o q => by
    by_cases hb : b = e
    · rw [hb, gone] at q; cases q
    · rw [← same b hb]
      exact q
  refine ⟨e, oe, fv, ⟨G', g, dr, tk', os⟩, _, .ref C, some d, rfl, J, sub, gone, hoe, ⟨hc, hd⟩, hdat, h1, ?_, rfl, I1.bare, raises_own T.exC T.tyC, q1 d (I1.hok.fresh M.dbig)⟩
  rw [upd_ne (Ne.symm M.dne)]
  exact I1.hok.fresh M.new
end
/-- the class c is such a one, with the attributes ns -/
structure ExOk (X : Cx) (c : Nat) (ns : List Nat) : Prop where
  ex : ∃ fI, ExT X.K (He.ga X.K (nm c)) fI (nms ns)
def sRaise (c : Nat) (ns : List Nat) (fs : M (List D)) : M Fl := fun env => (fs env).bind fun ds env1 => if ds.length = ns.length then .err c ns ds env1 else .stuck
section
variable {X : Cx} {Wx : WX} {ms : Ms} {kr : Rk (tx X) D V} {x : Str} {a : Expr} {as : List Expr} {p pos pos2 : Pos} {k : Nat} {fs : M (List D)}
theorem ds_raise (c : Nat) (ns : List Nat) (hc : X.calm = true) (T : ExOk X c ns) (hr : Room k X.A) (hg : Gl X x) (hm : X.mg x = some (.ref (He.ga X.K x))) (tk : Takes X Wx) (ha : DA X Wx ms (a :: as) fs) (hx : nm c = x := by rfl) (hne : (!ns.isEmpty && Nat.ble ns.length 900) = true := by rfl)
    (hdb : (x == ("__debug__" : Str)) = false := by decide) (he : starEach (a :: as) X.env = (false, eval a X.env) :: starEach as X.env := by rfl) (hpl : (backTo pos (starEach as X.env)).any (·.1) = false := by rfl) :
    DS X Wx ms kr (.Raise (some (.Call (.Name x p) (a :: as) [] pos)) none pos2) (sRaise c ns fs) := by
  subst hx
  obtain ⟨fI, T⟩ := T.ex
  obtain ⟨n1, n2⟩ := Bool.and_eq_true_iff.mp hne
  have ne : nms ns ≠ [] := fun z => by
    cases ns with
    | nil => cases n1
    | cons _ _ => cases z
  have few : (nms ns).length ≤ 900 := by
    rw [List.length_map]
    exact Nat.le_of_ble_eq_true n2
  exact fun B W env σ H Dn o h => PS.tm (ps_raise hc tk (pmk_own T ne few hr pa_tm hg hm hdb he hpl)) (ha _ _ _ _ _ _ o (PoS.cont (k1 := rkL (tx X)) h fun ds env1 W1 H1 vs n1 o1 r1 h1 => by
    by_cases hl : ds.length = ns.length
    · rw [if_pos hl] at h1
      refine ⟨by rw [List.length_map, ← hl]; exact r1.length.symm, fun d hd => ?_⟩
      exact h1 W1 _ σ d vs (Nxt.same (Same.upd hd)) (o1.same (Same.upd hd)) hd upd_same (by rw [← hl]; exact r1.length) (RelL.ext (.same (Same.upd hd)) ds r1)
    · rw [if_neg hl] at h1
      exact h1.elim))
end
end DL

set_option Elab.async false
set_option linter.all false
set_option maxRecDepth 100000
set_option maxHeartbeats 4000000
/-! try: clauses with names and without -/
namespace DL
open PySem PySem.Spec L2
open PyProof.Rows

abbrev SuiteT := Addr → Value → Option Addr → Obj → TS
/-- the ends of a suite whose clause has a name in slot i -/
def goneAt (i : Nat) (D : Ends) : Ends := { nx := fun σ H => D.nx (σ.set i none) H, rt := D.rt, bk := fun σ H => D.bk (σ.set i none) H, ct := fun σ H => D.ct (σ.set i none) H }
def suiteWish (o : Option Nat) (ts : SuiteT) (a : Addr) (cls : Value) (d : Option Addr) (oe : Obj) (D : Ends) (σ : L2.St) (H : Hp) : Prop := match o with
  | none => ts a cls d oe D σ H
  | some i => ts a cls d oe (goneAt i D) (σ.set i (some (.ref a))) H
def wG (K : PySem.W.Frag) (Wout : WX) (D : Ends) : List (Value × Option Nat × SuiteT) → WX
  | [] => Wout
  | q :: more => fun cls d σ H => ∃ b, PySem.W.exmOne K cls q.1 = some b ∧ (b = true → ∀ a oe, H a = none → Zc cls d oe → (∃ us, oe.data = .fields us) → suiteWish q.2.1 q.2.2 a cls d oe D σ H) ∧ (b = false → wG K Wout D more cls d σ H)
inductive HdsG (X : Cx) : List ExceptHandler → List (Value × Option Nat × SuiteT) → Prop
  | nil : HdsG X [] []
  | bare {x : Str} {c : Value} {ts : SuiteT} {b₀ : Stmt} {suite : List Stmt} {np hp : Pos} {hds : List ExceptHandler} {l : List (Value × Option Nat × SuiteT)} (hc : Names X x c)
      (hsu : ∀ (a : Addr) (oe : Obj) (cls : Value) (d : Option Addr) (pn : List (Addr × Obj)), Zc cls d oe → (∃ us, oe.data = .fields us) → PSs (X.suite a ((a, oe) :: pn)) (b₀ :: suite) (ts a cls d oe)) (r : HdsG X hds l) :
      HdsG X (.ExceptHandler (some (.Name x np)) none (b₀ :: suite) hp :: hds) ((c, none, ts) :: l)
  | named {x n : Str} {i : Nat} {c : Value} {ts : SuiteT} {b₀ : Stmt} {suite : List Stmt} {np hp : Pos} {hds : List ExceptHandler} {l : List (Value × Option Nat × SuiteT)} (hc : Names X x c) (hi : X.N[i]? = some n) (hln : X.env.kindOf n = some .local)
      (hsu : ∀ (a : Addr) (oe : Obj) (cls : Value) (d : Option Addr) (pn : List (Addr × Obj)), Zc cls d oe → (∃ us, oe.data = .fields us) → PSs (X.suite a ((a, oe) :: pn)) (b₀ :: suite) (ts a cls d oe)) (r : HdsG X hds l) :
      HdsG X (.ExceptHandler (some (.Name x np)) (some n) (b₀ :: suite) hp :: hds) ((c, some i, ts) :: l)
section
variable {X : Cx} {body : List Stmt} {h₀ : ExceptHandler} {hds : List ExceptHandler} {l : List (Value × Option Nat × SuiteT)} {pos : Pos} {tb : WX → TS} {Wout : WX}
theorem ps_tryG (hs : X.stack = X.env :: X.outer) (hf : X.env.frame = some X.env.locals) (hN : X.N.Nodup) (tk : Takes X Wout)
    (hb : ∀ (W : WX) (pn : List (Addr × Obj)) (xe : Value → Shared → Prop), Takes (X.tr pn xe) W → PassesOwn (model X.prog X.w) X.A X.env xe → PSs (X.tr pn xe) body (tb W))
    (hh : HdsG X (h₀ :: hds) l) : PS X (.Try body (h₀ :: hds) [] [] pos) (fun D σ H => tb (wG X.K Wout D l) D σ H) := by
  refine ⟨fun pins s σ H D I h => ?_⟩
  have good := I.ok
  have frames : X.A.frames = some (X.env :: X.outer) := by
    rw [good.frames, hs]
  refine wpAny_Try_except ?_
  refine wpAny_mono ((hb (wG X.K Wout D l) (X.pn ++ pins) (fun e s₁ => wpAny (model X.prog X.w) X.A (noteFrame e X.env)
    (fun _ s₂ => wpAny (model X.prog X.w) X.A (setFlight e none) (fun _ s₃ => wpAny (model X.prog X.w) X.A (handleBy e X.env (h₀ :: hds)) (SP X pins D) X.xe s₃) X.xe s₂) X.xe s₁)
    (fun u s' air => ?_) PassesOwn.looking).run [] s σ H D (I.toTry _) h) (fun f s1 done => ?_) (fun e s1 he => he)
  · obtain ⟨a, Gd, sI, pins2, σ2, H2, cls, d, rfl, In, keepB, slots, sky, na, sameOs, bare, wish⟩ := air
    have Ja : Inv X pins σ2 H2 sI := In.ofTry good
    have skyHere : Sky Gd (X.env :: X.outer) a (Zc cls d) X.env.locals s'.heap := by
      rw [← hs]
      exact sky
    show wpAny (model X.prog X.w) X.A (noteFrame (.ref a) X.env) _ _ _
    refine Sky.land Zc.steady frames hf skyHere fun h3 fly3 up3 => ?_
    have Jb : Inv X pins σ2 H2 { s' with heap := h3 } := Ja.landed keepB fly3.1 (slots.trans up3) sameOs bare
    obtain ⟨oe3, vs3, at3, zc3, fields3⟩ := fly3.there
    have noFrame : a ∉ frs (X.env :: X.outer) := fun hm => by
      obtain ⟨_, o2, e2, hnf⟩ := fly3.2.2.1.mem hm
      rw [at3] at e2
      cases e2
      exact hnf _ fields3
    have notL : a ≠ X.env.locals := fun z => noFrame (List.mem_filterMap.mpr ⟨X.env, List.mem_cons_self, by rw [hf, z]⟩)
    have notF : a ∉ X.fs := fun hm => by
      obtain ⟨e, he, q⟩ := List.mem_filterMap.mp hm
      exact noFrame (List.mem_filterMap.mpr ⟨e, List.mem_cons_of_mem _ he, q⟩)
    have Sa := Jb.suite at3 fields3 na notL notF
    have looksT : PySem.W.Looks (model X.prog X.w) h3 (typeOf (.ref a)) cls := fun A Q E s k q => wpAny_typeOf_ref (k _ _ at3) (by rw [zc3.1]; exact q)
    have named : ∀ {x : Str} {c : Value} {np : Pos} {Q : Value → Shared → Prop} {E : Value → Shared → Prop}, Names X x c → Q c { s' with heap := h3 } → wpAny (model X.prog X.w) (X.A.mark (some (.ref a))) (eval (.Name x np) X.env) Q E { s' with heap := h3 } := fun {x c np Q E} hc q => by
      obtain ⟨g1, g2, g3 | ⟨g4, g5, g6⟩⟩ := hc
      · exact ld_glob (X := X.suite a ((a, oe3) :: (X.pn ++ pins))) Sa g1 g3 q g2
      · exact ld_blt (X := X.suite a ((a, oe3) :: (X.pn ++ pins))) Sa g1 g4 g5 q g6 g2
    have walk : ∀ {hs' : List ExceptHandler} {l' : List (Value × Option Nat × SuiteT)}, HdsG X hs' l' → wG X.K Wout D l' cls d σ2 H2 → wpAny (model X.prog X.w) X.A (handleBy (.ref a) X.env hs') (SP X pins D) X.xe { s' with heap := h3 } := by
      intro hs' l' hk
      induction hk with
      | nil =>
        intro w
        refine wpAny_handleBy_nil ?_
        obtain ⟨_, _, _, oe, vs, T, oT, ts2, m1, m2, m3, m4, _⟩ := id fly3
        unfold PySem.passOn
        refine wpAny_bind (wpAny_field m1 m3 m4 ?_)
        rw [if_neg (show ¬ ((Value.ref T == Value.none) = true) from by simp)]
        have last : wpAny (model X.prog X.w) X.A (setFlight (.ref a) X.env.frame) (fun _ s4 => wpAny (model X.prog X.w) X.A (throw (.ref a) : Sem Flow) (SP X pins D) X.xe s4) X.xe { s' with heap := h3 } := by
          rw [hf]
          refine HandSPX.setFlight_upZ fly3 fun h4 held4 up4 => wpAny_throw (tk _ _ ?_)
          exact ⟨a, Gd, sI, pins, σ2, H2, cls, d, rfl, Ja, keepB, (slots.trans up3).trans up4, .inr (.inr (by rw [hs]; exact held4)), na, sameOs, bare, w⟩
        first
          | exact wpAny_bind (wpAny_pure (wpAny_bind last))
          | exact wpAny_bind last
      | @bare x c ts b₀ suite np hp hds2 l2 hc hsu r ih =>
        intro w
        obtain ⟨b, isIt, hyes, hno⟩ := w
        refine wpAny_handleBy_cons (codeAny_handlers_test ?_) (by intro q; cases q)
        have looksM := PySem.W.exm_one (M := model X.prog X.w) (Jb.kIn) looksT isIt
        refine named hc (looksM.here ?_)
        cases b with
        | true =>
          refine codeAny_handlers_suite ?_
          refine HandSPX.lands_againZ fly3 fun h4 fly4 up4 => ?_
          have Jc : Inv X pins σ2 H2 { s' with heap := h4 } := Ja.landed keepB fly4.1 ((slots.trans up3).trans up4) sameOs bare
          obtain ⟨oe4, vs4, at4, zc4, fields4⟩ := fly4.there
          have Sb := Jc.suite at4 fields4 na notL notF
          refine wpAny_mono ((hsu a oe4 cls d (X.pn ++ pins) zc4 ⟨_, fields4⟩).run [] _ _ H2 _ Sb (hyes rfl a oe4 na zc4 ⟨_, fields4⟩)) (fun f s6 done => ?_) (fun _ _ z => False.elim z)
          cases f with
          | ret u =>
            obtain ⟨v6, σ6, H6, Sc, r6, q6⟩ := done
            exact ⟨_, _, _, Sc.unsuite good, r6, q6⟩
          | _ =>
            obtain ⟨σ6, H6, Sc, q6⟩ := done
            exact ⟨_, _, Sc.unsuite good, q6⟩
        | false =>
          show wpAny _ X.A (handleBy (.ref a) X.env hds2) _ _ _
          exact ih (hno rfl)
      | @named x n i c ts b₀ suite np hp hds2 l2 hc hi hln hsu r ih =>
        intro w
        obtain ⟨b, isIt, hyes, hno⟩ := w
        refine wpAny_handleBy_cons (codeAny_handlers_test ?_) (by intro q; cases q)
        have looksM := PySem.W.exm_one (M := model X.prog X.w) (Jb.kIn) looksT isIt
        refine named hc (looksM.here ?_)
        cases b with
        | true =>
          have loc : Loc X.env.scope n := .inl hln
          refine codeAny_handlers_suite_as ?_
          refine HandSPX.lands_againZ fly3 fun h4 fly4 up4 => ?_
          have Jc : Inv X pins σ2 H2 { s' with heap := h4 } := Ja.landed keepB fly4.1 ((slots.trans up3).trans up4) sameOs bare
          obtain ⟨oe4, vs4, at4, zc4, fields4⟩ := fly4.there
          have Sb := Jc.suite at4 fields4 na notL notF
          refine store_ok (X := X.suite a ((a, oe4) :: (X.pn ++ pins))) (v := .ref a) Sb hN hi loc rfl (fun s5 Sd => ?_) (.inr hln)
          refine wpAny_mono ((hsu a oe4 cls d (X.pn ++ pins) zc4 ⟨_, fields4⟩).run [] s5 _ H2 _ Sd (hyes rfl a oe4 na zc4 ⟨_, fields4⟩)) (fun f s6 done => ?_) (fun _ _ z => False.elim z)
          have fin : ∀ {σ6 : L2.St} {H6 : Hp} {Q : Shared → Prop}, Inv (X.suite a ((a, oe4) :: (X.pn ++ pins))) [] σ6 H6 s6 → (∀ s7, Inv X pins (σ6.set i none) H6 s7 → Q s7) →
            wpAny (model X.prog X.w) X.A (do bindName X.env n .none; unbindBehindTheSuite X.env n hp) (fun _ s7 => Q s7) X.xe s6 := fun {σ6 H6 Q} Sc hq => gone_ok (Sc.unsuite good) hN hi hln hq
          cases f with
          | ret u =>
            obtain ⟨v6, σ6, H6, Sc, r6, q6⟩ := done
            exact fin Sc fun s7 J7 => ⟨_, _, _, J7, r6, q6⟩
          | _ =>
            obtain ⟨σ6, H6, Sc, q6⟩ := done
            exact fin Sc fun s7 J7 => ⟨_, _, J7, q6⟩
        | false =>
          show wpAny _ X.A (handleBy (.ref a) X.env hds2) _ _ _
          exact ih (hno rfl)
    exact walk hh wish
  · cases f with
    | next =>
      obtain ⟨σ3, H3, J3, q⟩ := done
      exact wpAny_execs_nil ⟨σ3, H3, J3.ofTry good, q⟩
    | ret u =>
      obtain ⟨v, σ3, H3, J3, r, q⟩ := done
      exact ⟨v, σ3, H3, J3.ofTry good, r, q⟩
    | _ =>
      obtain ⟨σ3, H3, J3, q⟩ := done
      exact ⟨σ3, H3, J3.ofTry good, q⟩
end

/-! ### the same, of data -/
mutual
/-- no caught exception in it -/
def noX : D → Bool
  | .tup l => noXL l
  | .lst l => noXL l
  | .obj _ _ ds => noXL ds
  | .xc _ _ _ => false
  | .dic _ _ ds => noXL ds
  | _ => true
def noXL : List D → Bool
  | [] => true
  | d :: ds => noX d && noXL ds
end
def cleanE : En → Bool
  | [] => true
  | none :: r => cleanE r
  | some d :: r => noX d && cleanE r
theorem cleanE_at : ∀ {env : En} {i : Nat} {d : D}, cleanE env = true → env[i]? = some (some d) → noX d = true
  | [], _, _, _, h => by simp at h
  | none :: r, 0, _, _, h => by simp at h
  | none :: r, i + 1, d, c, h => cleanE_at (env := r) (i := i) c (by simpa using h)
  | some e :: r, 0, d, c, h => by
    have e1 : e = d := by simpa using h
    rw [← e1]
    exact (Bool.and_eq_true_iff.mp c).1
  | some e :: r, i + 1, d, c, h => cleanE_at (env := r) (i := i) (Bool.and_eq_true_iff.mp c).2 (by simpa using h)
/-- the same but for the pins -/
structure TxEq (T T' : Tx) : Prop where
  K : T.K = T'.K
  P : T.P = T'.P
  w : T.w = T'.w
section
variable {T T' : Tx} {B W : Addr → Prop} {H : Hp}
mutual
theorem Rel.toT (e : TxEq T T') : ∀ (d : D) {v : V}, (noX d = true ∨ T'.pn = []) → Rel T' B H d v → Rel T B H d v
  | .non, _, _, h => h
  | .bl _, _, _, h => h
  | .int _, _, _, h => h
  | .str _, _, _, h => h
  | .tup l, _, c, h => by
    obtain ⟨a, vs, e1, e2, e3⟩ := h
    exact ⟨a, vs, e1, by rw [e.K]; exact e2, RelL.toT e l c e3⟩
  | .lst l, _, c, h => by
    obtain ⟨a, vs, e1, e2, e3, e4⟩ := h
    exact ⟨a, vs, e1, e2, e3, RelL.toT e l c e4⟩
  | .obj _ _ ds, _, c, h => by
    obtain ⟨a, dx, vs, e1, e2, e3, e4, e5⟩ := h
    exact ⟨a, dx, vs, e1, by rw [e.K]; exact e2, e3, e4, RelL.toT e ds c e5⟩
  | .dic _ _ ds, _, c, h => by
    obtain ⟨a, vs, e1, e2, e3, e4, e5⟩ := h
    exact ⟨a, vs, e1, e2, e3, e4, RelL.toT e ds c e5⟩
  | .set l, _, _, h => by
    obtain ⟨a, L, e1, e2, e3, e4, e5⟩ := h
    exact ⟨a, L, e1, by rw [e.P, e.w]; exact e2, e3, fun p hp => by rw [e.K]; exact e4 p hp, e5⟩
  | .cls _, _, _, h => by
    show _ = _
    rw [e.K]
    exact h
  | .scr _, _, _, h => by
    obtain ⟨a, e1, e2⟩ := h
    exact ⟨a, e1, by rw [e.K]; exact e2⟩
  | .xc _ _ _, _, c, h => by
    obtain ⟨a, oe, dx, vs, _, e2, _⟩ := h
    rcases c with c | c
    · cases c
    · rw [c] at e2
      cases e2
theorem RelL.toT (e : TxEq T T') : ∀ (ds : List D) {vs : List V}, (noXL ds = true ∨ T'.pn = []) → RelL T' B H ds vs → RelL T B H ds vs
  | [], [], _, _ => trivial
  | [], _ :: _, _, h => h.elim
  | _ :: _, [], _, h => h.elim
  | d :: ds, v :: vs, c, h => ⟨Rel.toT e d (c.elim (fun c => .inl (Bool.and_eq_true_iff.mp c).1) .inr) h.1, RelL.toT e ds (c.elim (fun c => .inl (Bool.and_eq_true_iff.mp c).2) .inr) h.2⟩
end
theorem Cell.toT (e : TxEq T T') {d : D} {v : V} (c : noX d = true ∨ T'.pn = []) (h : Cell T' B W H d v) : Cell T B W H d v := by
  cases d with
  | lst l =>
    obtain ⟨a, vs, e1, e2, e3, e4⟩ := h
    exact ⟨a, vs, e1, e2, e3, RelL.toT e l c e4⟩
  | obj k ns ds =>
    obtain ⟨a, dx, vs, e1, e2, e3, e4, e5⟩ := h
    exact ⟨a, dx, vs, e1, e2, by rw [e.K]; exact e3, e4, RelL.toT e ds c e5⟩
  | dic t ks ds =>
    obtain ⟨a, vs, e1, e2, e3, e4, e5⟩ := h
    exact ⟨a, vs, e1, e2, e3, e4, RelL.toT e ds c e5⟩
  | _ => exact h.elim
theorem Ok.toT {ms : Ms} {B : Br} {W : Addr → Prop} {env : En} {σ : L2.St} (e : TxEq T T') (c : cleanE env = true ∨ T'.pn = []) (o : Ok T' ms B W env σ H) : Ok T ms B W env σ H :=
  ⟨o.len, o.wf, fun i d h1 h2 => by
      obtain ⟨v, e1, e2⟩ := o.sl i d h1 h2
      exact ⟨v, e1, Rel.toT e d (c.elim (fun c => .inl (cleanE_at c h2)) .inr) e2⟩,
    fun i d h1 h2 => by
      obtain ⟨v, e1, e2⟩ := o.mu i d h1 h2
      exact ⟨v, e1, e2.toT e (c.elim (fun c => .inl (cleanE_at c h2)) .inr)⟩, o.dj, o.fx⟩
end
/-- answers that bear the change -/
def KrT (krf : (T : Tx) → Rk T D V) : Prop := ∀ {T T' : Tx} {σ σ' : L2.St} {env env' : En} {H0 : Hp} {B : Br} {W : Addr → Prop} {H : Hp} {d : D} {v : V}, TxEq T T' → (noX d = true ∨ T'.pn = []) → (krf T').r σ env H0 B W H d v → (krf T).r σ' env' H0 B W H d v
theorem krt_D : KrT rkD := fun {T T' σ σ' env env' H0 B W H d v} e c h => Rel.toT e d c h
theorem krt_R : KrT rkR := fun {T T' σ σ' env env' H0 B W H d v} e c h => by
  obtain ⟨a, vs, l, rfl, e2, e3, e4, e5, e6⟩ := h
  exact ⟨a, vs, l, rfl, e2, e3, e4, RelL.toT e l c e5, e6⟩
structure Hd where
  cls : Nat
  yes : List Nat
  no : List Nat
  slot : Option Nat
  suite : M Fl
def cleanF : Fl → Bool
  | .rt d => noX d
  | _ => true
def wipeE (o : Option Nat) (env : En) : En := match o with
  | none => env
  | some i => env.set i none
def giveE (o : Option Nat) (x : D) (env : En) : En := match o with
  | none => env
  | some i => env.set i (some x)
def runHd (h : Hd) (c : Nat) (ns : List Nat) (ds : List D) (env : En) : R Fl := match h.suite (giveE h.slot (.xc c ns ds) env) with
  | .ok fl env2 => if (cleanE (wipeE h.slot env2) && cleanF fl) = true then .ok fl (wipeE h.slot env2) else .stuck
  | _ => .stuck
def catchM : List Hd → Nat → List Nat → List D → En → R Fl
  | [], c, ns, ds, env => .err c ns ds env
  | h :: r, c, ns, ds, env => if h.yes.contains c = true then runHd h c ns ds env else if h.no.contains c = true then catchM r c ns ds env else .stuck
def sTry (fb : M Fl) (hs : List Hd) : M Fl := fun env => match fb env with
  | .err c ns ds env1 => catchM hs c ns ds env1
  | .ok fl env1 => .ok fl env1
  | .stuck => .stuck
/-- a clause -/
structure HdOk1 (X : Cx) (ms : Ms) (krf : (T : Tx) → Rk T D V) (x : Str) (o : Option Str) (b : List Stmt) (h : Hd) : Prop where
  nme : nm h.cls = x
  cls : Names X x (.ref (He.ga X.K x))
  yes : ∀ c, h.yes.contains c = true → PySem.W.exmOne X.K (.ref (He.ga X.K (nm c))) (.ref (He.ga X.K x)) = some true
  no : ∀ c, h.no.contains c = true → PySem.W.exmOne X.K (.ref (He.ga X.K (nm c))) (.ref (He.ga X.K x)) = some false
  slot : match o, h.slot with
    | none, none => True
    | some n, some i => X.N[i]? = some n ∧ X.env.kindOf n = some .local ∧ ms.contains i = false ∧ ms.io.contains i = false
    | _, _ => False
  run : ∀ (a : Addr) (oe : Obj) (pn : List (Addr × Obj)), DSs (X.suite a ((a, oe) :: pn)) (fun _ _ _ _ => False) ms (krf _) b h.suite
inductive HdsOkD (X : Cx) (ms : Ms) (krf : (T : Tx) → Rk T D V) : List ExceptHandler → List Hd → Prop
  | nil : HdsOkD X ms krf [] []
  | cons {x : Str} {o : Option Str} {b₀ : Stmt} {suite : List Stmt} {np hp : Pos} {h : Hd} {hds : List ExceptHandler} {hs : List Hd} (h1 : HdOk1 X ms krf x o (b₀ :: suite) h) (r : HdsOkD X ms krf hds hs) : HdsOkD X ms krf (.ExceptHandler (some (.Name x np)) o (b₀ :: suite) hp :: hds) (h :: hs)
section
variable {X : Cx} {Wx : WX} {ms : Ms} {krf : (T : Tx) → Rk T D V}
theorem suite_tx {a : Addr} {pn : List (Addr × Obj)} : tx (X.suite a pn) = ⟨X.K, X.prog, X.w, pn.take 1⟩ := rfl
theorem calm_tx (hc : X.calm = true) : tx X = ⟨X.K, X.prog, X.w, []⟩ := by
  show Tx.mk _ _ _ (match X.calm with | true => [] | false => _) = _
  rw [hc]
theorem tr_tx (hc : X.calm = true) {pn : List (Addr × Obj)} {xe : Value → Shared → Prop} : tx (X.tr pn xe) = tx X := by
  show Tx.mk _ _ _ (match X.calm with | true => [] | false => _) = Tx.mk _ _ _ (match X.calm with | true => [] | false => _)
  rw [hc]
abbrev tsOf (X : Cx) (b : List Stmt) : SuiteT := fun a _ _ oe D σ H => ∀ pn, tmSs (X.suite a ((a, oe) :: pn)) b D σ H
/-- the wishes of the clauses -/
def wishOf (X : Cx) : List ExceptHandler → List Hd → List (Value × Option Nat × SuiteT)
  | .ExceptHandler (some (.Name x _)) _ b _ :: hds, h :: hs => (.ref (He.ga X.K x), h.slot, tsOf X b) :: wishOf X hds hs
  | _, _ => []
theorem hdsG_of {hds : List ExceptHandler} {hs : List Hd} (h : HdsOkD X ms krf hds hs) : HdsG X hds (wishOf X hds hs) := by
  induction h with
  | nil => exact .nil
  | @cons x o b₀ suite np hp h hds hs h1 r ih =>
    have sl := h1.slot
    cases o with
    | none =>
      cases q : h.slot with
      | none =>
        show HdsG X _ ((.ref (He.ga X.K x), h.slot, tsOf X (b₀ :: suite)) :: wishOf X hds hs)
        rw [q]
        exact .bare h1.cls (fun a oe cls d pn _ _ => ⟨fun pins s σ H D I z => pss_tm.run pins s σ H D I (z pn)⟩) ih
      | some i =>
        rw [q] at sl
        exact sl.elim
    | some n =>
      cases q : h.slot with
      | none =>
        rw [q] at sl
        exact sl.elim
      | some i =>
        rw [q] at sl
        show HdsG X _ ((.ref (He.ga X.K x), h.slot, tsOf X (b₀ :: suite)) :: wishOf X hds hs)
        rw [q]
        exact .named h1.cls sl.1 sl.2.1 (fun a oe cls d pn _ _ => ⟨fun pins s σ H D I z => pss_tm.run pins s σ H D I (z pn)⟩) ih
def wipeS (o : Option Nat) (σ : L2.St) : L2.St := match o with
  | none => σ
  | some i => σ.set i none
def endsOf (o : Option Nat) (Dn : Ends) : Ends := match o with
  | none => Dn
  | some i => goneAt i Dn
theorem ends_nx (o : Option Nat) (Dn : Ends) (σ : L2.St) (H : Hp) : (endsOf o Dn).nx σ H = Dn.nx (wipeS o σ) H := by cases o <;> rfl
theorem ends_bk (o : Option Nat) (Dn : Ends) (σ : L2.St) (H : Hp) : (endsOf o Dn).bk σ H = Dn.bk (wipeS o σ) H := by cases o <;> rfl
theorem ends_ct (o : Option Nat) (Dn : Ends) (σ : L2.St) (H : Hp) : (endsOf o Dn).ct σ H = Dn.ct (wipeS o σ) H := by cases o <;> rfl
theorem ends_rt (o : Option Nat) (Dn : Ends) (v : V) (H : Hp) : (endsOf o Dn).rt v H = Dn.rt v H := by cases o <;> rfl
/-- what a suite's ends want -/
theorem suite_pos {T' : Tx} {Wy : WX} (e : TxEq (tx X) T') (hkr : KrT krf) {B : Br} {Dn : Ends} {W W' : Addr → Prop} {H H' : Hp} (h : Hd) {c : Nat} {ns : List Nat} {ds : List D} {env1 : En} (n : Nxt W H W' H')
    (hw : ∀ {W2 : Addr → Prop} {env2 : En} {σ2 : L2.St} {H2 : Hp}, Ok T' ms B W2 env2 σ2 H2 → Ok T' ms B W2 (wipeE h.slot env2) (wipeS h.slot σ2) H2)
    (p : PoS (tx X) Wx ms (krf (tx X)) B W H (runHd h c ns ds env1) Dn) : PoS T' Wy ms (krf T') B W' H' (h.suite (giveE h.slot (.xc c ns ds) env1)) (endsOf h.slot Dn) := by
  unfold runHd at p
  cases q : h.suite (giveE h.slot (.xc c ns ds) env1) with
  | stuck =>
    rw [q] at p
    exact p.elim
  | err c2 ns2 ds2 env2 =>
    rw [q] at p
    exact p.elim
  | ok fl env2 =>
    rw [q] at p
    have p' : PoS (tx X) Wx ms (krf (tx X)) B W H (if (cleanE (wipeE h.slot env2) && cleanF fl) = true then .ok fl (wipeE h.slot env2) else .stuck) Dn := p
    by_cases z : (cleanE (wipeE h.slot env2) && cleanF fl) = true
    · rw [if_pos z] at p'
      obtain ⟨z1, z2⟩ := Bool.and_eq_true_iff.mp z
      cases fl with
      | nx => exact fun W2 H2 σ2 n2 o2 => (ends_nx h.slot Dn σ2 H2).mpr (p' W2 H2 _ (n.trans n2) (Ok.toT e (.inl z1) (hw o2)))
      | bk => exact fun W2 H2 σ2 n2 o2 => (ends_bk h.slot Dn σ2 H2).mpr (p' W2 H2 _ (n.trans n2) (Ok.toT e (.inl z1) (hw o2)))
      | ct => exact fun W2 H2 σ2 n2 o2 => (ends_ct h.slot Dn σ2 H2).mpr (p' W2 H2 _ (n.trans n2) (Ok.toT e (.inl z1) (hw o2)))
      | rt d => exact fun W2 H2 σ2 v n2 o2 k2 => (ends_rt h.slot Dn v H2).mpr (p' W2 H2 _ v (n.trans n2) (Ok.toT e (.inl z1) (hw o2)) (hkr e (.inl z2) ((krf T').mono n.back k2)))
    · rw [if_neg z] at p'
      exact p'.elim
/-- an exception that the clauses get -/
theorem catch_wish (hcalm : X.calm = true) (hkr : KrT krf) {B : Br} {Dn : Ends} {W W' : Addr → Prop} {H H' : Hp} {σ' : L2.St} {env1 : En} {c : Nat} {dx : Addr} {ns : List Nat} {ds : List D} {vs : List V} (n : Nxt W H W' H') (o : Ok (tx X) ms B W' env1 σ' H') (nd : ¬ Bar B W' dx) (hd : H' dx = some (.xd ((nms ns).zip vs)))
    (hl : ns.length = vs.length) (r : RelL (tx X) (Bar B W') H' ds vs) (hH : H dx = none) {hds : List ExceptHandler} {hs : List Hd} (h : HdsOkD X ms krf hds hs) : PoS (tx X) Wx ms (krf (tx X)) B W H (catchM hs c ns ds env1) Dn → wG X.K Wx Dn (wishOf X hds hs) (.ref (He.ga X.K (nm c))) (some dx) σ' H' := by
  induction h with
  | nil => exact fun p => p W' H' σ' dx vs n o hH hd hl r
  | @cons x ox b₀ suite np hp h hds hs h1 rest ih =>
    intro p
    have p' : PoS (tx X) Wx ms (krf (tx X)) B W H (if h.yes.contains c = true then runHd h c ns ds env1 else if h.no.contains c = true then catchM hs c ns ds env1 else .stuck) Dn := p
    by_cases qy : h.yes.contains c = true
    · rw [if_pos qy] at p'
      refine ⟨true, h1.yes c qy, fun _ a oe na zc us => ?_, (fun z => by cases z)⟩
      have e0 : (tx X).pn = [] := by rw [calm_tx hcalm]
      have sl := h1.slot
      have run := h1.run a oe
      obtain ⟨cl, ye, no, slot, su⟩ := h
      cases slot with
      | none =>
        intro pn
        have e1 : TxEq (tx (X.suite a ((a, oe) :: pn))) (tx X) := ⟨rfl, rfl, rfl⟩
        refine run pn B W' _ _ _ _ (Ok.toT e1 (.inr e0) o) ?_
        exact suite_pos (X := X) (T' := tx (X.suite a ((a, oe) :: pn))) (Wy := fun _ _ _ _ => False) ⟨rfl, rfl, rfl⟩ hkr ⟨cl, ye, no, none, su⟩ n (fun z => z) p'
      | some i =>
        cases ox with
        | none => exact sl.elim
        | some nn =>
          intro pn
          have e1 : TxEq (tx (X.suite a ((a, oe) :: pn))) (tx X) := ⟨rfl, rfl, rfl⟩
          have o1 : Ok (tx (X.suite a ((a, oe) :: pn))) ms B W' env1 σ' H' := Ok.toT e1 (.inr e0) o
          have rx : Rel (tx (X.suite a ((a, oe) :: pn))) (Bar B W') H' (.xc c ns ds) (.ref a) := ⟨a, oe, dx, vs, rfl, List.mem_cons_self, zc.1, zc.2, us, hd, nd, hl, RelL.toT e1 ds (.inr e0) r⟩
          refine run pn B W' _ _ _ _ (o1.set sl.2.2.1 sl.2.2.2 rx) ?_
          exact suite_pos (X := X) (T' := tx (X.suite a ((a, oe) :: pn))) (Wy := fun _ _ _ _ => False) ⟨rfl, rfl, rfl⟩ hkr ⟨cl, ye, no, some i, su⟩ n (fun z => z.wipe sl.2.2.1 sl.2.2.2) p'
    · rw [if_neg qy] at p'
      by_cases qn : h.no.contains c = true
      · rw [if_pos qn] at p'
        exact ⟨false, h1.no c qn, (fun z => by cases z), fun _ => ih p'⟩
      · rw [if_neg qn] at p'
        exact p'.elim
/-- a heap's dict is no cell of ours -/
theorem Ok.noXd {T : Tx} {B : Br} {W : Addr → Prop} {env : En} {σ : L2.St} {H : Hp} {dx : Addr} {fs : List (Str × V)} (o : Ok T ms B W env σ H) (hd : H dx = some (.xd fs)) : ∀ i e, ms.contains i = true → env[i]? = some (some e) → σ[i]? ≠ some (some (.ref dx)) := fun i e hi he hs => by
  obtain ⟨v, e1, e2⟩ := o.mu i e hi he
  rw [hs] at e1
  have e3 := Option.some.inj (Option.some.inj e1)
  subst e3
  cases e with
  | lst l =>
    obtain ⟨b, vs, f1, f2, f3, _⟩ := e2
    cases f1
    rw [hd] at f3
    cases f3
  | obj c ns ds =>
    obtain ⟨b, dy, vs, f1, f2, f3, _⟩ := e2
    cases f1
    rw [hd] at f3
    cases f3
  | dic t ks ds =>
    obtain ⟨b, vs, f1, f2, f3, _⟩ := e2
    cases f1
    rw [hd] at f3
    cases t <;> cases f3
  | _ => exact e2.elim
theorem ds_try {body : List Stmt} {fb : M Fl} {h₀ : ExceptHandler} {hds : List ExceptHandler} {hs : List Hd} {pos : Pos} (hcalm : X.calm = true) (hst : X.stack = X.env :: X.outer) (hf : X.env.frame = some X.env.locals) (hN : X.N.Nodup) (tk : Takes X Wx) (hkr : KrT krf)
    (hb : ∀ (Wy : WX) (pn : List (Addr × Obj)) (xe : Value → Shared → Prop), Takes (X.tr pn xe) Wy → PassesOwn (model X.prog X.w) X.A X.env xe → DSs (X.tr pn xe) Wy ms (krf _) body fb) (hh : HdsOkD X ms krf (h₀ :: hds) hs) :
    DS X Wx ms (krf (tx X)) (.Try body (h₀ :: hds) [] [] pos) (sTry fb hs) := fun B W env σ H Dn o h => by
  refine PS.tm (ps_tryG (tb := fun Wy D σ H => ∀ pn xe, Takes (X.tr pn xe) Wy → PassesOwn (model X.prog X.w) X.A X.env xe → tmSs (X.tr pn xe) body D σ H) hst hf hN tk
    (fun Wy pn xe t po => ⟨fun pins s σ H D I z => pss_tm.run pins s σ H D I (z pn xe t po)⟩) (hdsG_of hh)) ?_
  intro pn xe t po
  have hb' := hb _ pn xe t po
  unfold DSs at hb'
  rw [tr_tx hcalm] at hb'
  refine hb' B W env σ H Dn o ?_
  unfold sTry at h
  cases q : fb env with
  | stuck =>
    rw [q] at h
    exact h.elim
  | ok fl env1 =>
    rw [q] at h
    cases fl <;> exact h
  | err c ns ds env1 =>
    rw [q] at h
    intro W1 H1 σ1 dx vs n1 o1 z1 z2 z3 z4
    have nb : ¬ Bar B (fun b => W1 b ∧ b ≠ dx) dx := fun z => by
      rcases z with z | z
      · obtain ⟨u, e⟩ := o.wf dx (.inl z)
        rw [z1] at e
        cases e
      · exact z.2 rfl
    have n2 : Nxt W H (fun b => W1 b ∧ b ≠ dx) H1 := ⟨n1.keep, fun b z => n1.new b z.1, n1.live⟩
    have ex : Ext (Bar B W1) H1 (Bar B fun b => W1 b ∧ b ≠ dx) H1 := ⟨fun b u e _ => e, fun b z => by
      rcases z with z | z
      · exact .inl (.inl z)
      · exact .inl (.inr z.1)⟩
    exact catch_wish hcalm hkr n2 (o1.less (o1.noXd z2)) nb z2 z3 (RelL.ext ex ds z4) z1 hh h
end
end DL

set_option Elab.async false
set_option linter.all false
set_option maxRecDepth 100000
set_option maxHeartbeats 4000000
namespace DL
open PySem PySem.Spec L2

/-! ### the caught exception's attributes -/
def XfOk (X : Cx) (cs : List Nat) (f : Nat) : Prop := ∀ c, cs.contains c = true → XfC X.K (He.ga X.K (nm c)) ∧ PySem.W.findIn X.K (.ref (He.ga X.K (nm c))) (nm f) = some none
def vXf (i : Nat) (cs : List Nat) (f : Nat) : M D := fun env => match env[i]? with
  | some (some (.xc c ns ds)) => if cs.contains c = true then M.of (getF f ns ds) env else .stuck
  | _ => .stuck
section
variable {X : Cx} {Wx : WX} {ms : Ms} {a : Addr} {oe : Obj} {pn : List (Addr × Obj)} {x n : Str} {p pos : Pos}
theorem de_xf (i : Nat) (cs : List Nat) (f : Nat) (hc : XfOk X cs f) (hx : nm f = n := by rfl) (hm : ms.contains i = false := by rfl) (hN : X.N[i]? = some x := by rfl) (hv : Vis X.env.scope x := by first | exact Or.inl rfl | exact Or.inr (Or.inl rfl) | exact Or.inr (Or.inr rfl))
    (hd : (x == ("__debug__" : Str)) = false := by decide) (hcd : (x == ("__classdict__" : Str)) = false := by decide) (hb : attributeBase (.Name x p) n X.env (eval (.Name x p) X.env) = eval (.Name x p) X.env := by rfl) : DE (X.suite a ((a, oe) :: pn)) Wx ms (.Attribute (.Name x p) n pos) (vXf i cs f) := by
  subst hx
  intro B W env σ H Q o h
  unfold vXf at h
  cases q : env[i]? with
  | none =>
    rw [q] at h
    exact h.elim
  | some z =>
    cases z with
    | none =>
      rw [q] at h
      exact h.elim
    | some d =>
      rw [q] at h
      cases d with
      | xc c ns ds =>
        by_cases hcs : cs.contains c = true
        · simp only [hcs, if_true] at h
          obtain ⟨z, e1, h3⟩ := of_pos h
          obtain ⟨v, s1, s2⟩ := o.sl i _ hm q
          have s2' := s2
          obtain ⟨a', oe', dx, vs, rfl, e2, e3, e4, e5, e6, e7, e8, e9⟩ := s2
          have e2' : (a', oe') ∈ [(a, oe)] := e2
          obtain ⟨rfl, rfl⟩ := Prod.mk.inj (List.mem_singleton.mp e2')
          obtain ⟨T, hno⟩ := hc c hcs
          obtain ⟨w, l1, l2⟩ := getF_rel e9 e8 e1
          exact PE.tm (pe_xf (cls := oe'.cls) (d := oe'.dict) T hno ⟨rfl, rfl⟩ e5 (pe_var (X := X.suite a' ((a', oe') :: pn)) hN hv hd hcd) hb) ⟨_, s1, rfl, e3, dx, _, w, e4, e6, l1, h3.done o l2⟩
        · have hcs' : cs.contains c = false := Bool.not_eq_true _ ▸ hcs
          simp only [hcs', Bool.false_eq_true, if_false] at h
          exact h.elim
      | _ => exact h.elim
end
end DL

set_option Elab.async false
set_option linter.all false
set_option maxRecDepth 100000
set_option maxHeartbeats 4000000
/-! sets of tuples: set(a tuple), in -/
namespace DL
open PySem PySem.Spec L2 PyProof.Rows
section
variable {P : Program} {w : World} {A : Around} {E : Value → Shared → Prop} {s : Shared}
abbrev bareSet (w : World) : Obj := { cls := .type "set", dict := none, data := .set #[] 0 (.fresh 0 0 (!w.params.followText "set-order")) }
abbrev withSet (w : World) (s : Shared) : Heap := s.heap.push (bareSet w)
/-- set(xs), xs a tuple of tuples of ints -/
theorem call_set_of_tuple {l : Addr} {items : Array Value} (ks : List (Addr × List Int)) {Q : Value → Shared → Prop} (calm : A.handled = none) (tup : s.heap.IsTuple l items) (refs : items.toList = ks.map fun p => Value.ref p.1) (keys : ∀ p ∈ ks, IsT P w s.heap p.2 p.1) (few : ks.length < 64) (room : A.units + 3 < cLine)
    (out : ∀ (h' : Heap) (tk : Nat) L es ep t, SetTR P w h' s.heap.objs.size L es ep t → Got ks ks.length L → (∀ b o, s.heap.get? b = some o → h'.get? b = some o) → Q (.ref s.heap.objs.size) { s with heap := h', toks := tk }) : wpAny (model P w) A (call (.type "set") [.ref l]) Q E s := by
  have count : items.size = ks.length := by
    have q := congrArg List.length refs
    rw [Array.length_toList, List.length_map] at q
    exact q
  obtain ⟨c1, c2, c3⟩ := F.called_set.mro
  have made := F.called_set.made
  have subs := F.called_set.sub
  refine wpAny_call (codeAny_of_tree ?_)
  show wpAny _ _ (callAny (.type "set") _) _ _ _
  refine wpAny_pure ⟨Code.quiet_builtin _ (by decide +kernel), ?_⟩
  refine codeAny_builtin F.entry_type_call ?_
  rw [Around.under_plain (weight_type_call_type "set" [.ref l] []) rfl]
  have k1 := F.called_set.notType
  have k2 := F.called_set.canCreate
  have k3 := F.typeCall_set_1 (.ref l)
  repeat (any_goals (first | assumption | wp_step))
  refine codeAny_mono (code_set_led1 (.ref l) (E := E) (Q₁ := fun obj s₁ => obj = .ref s.heap.objs.size ∧ s₁ = { s with heap := withSet w s }) ⟨rfl, rfl⟩) fun r s₁ hr => ?_
  cases r with
  | error e => exact hr
  | ok fl =>
    cases fl with
    | ret obj =>
      obtain ⟨rfl, rfl⟩ := hr
      have atS : (withSet w s).get? s.heap.objs.size = some (bareSet w) := Heap.get?_push_size _ rfl
      have isS : Shared.TypeIs { s with heap := withSet w s } (.ref s.heap.objs.size) "set" := ⟨_, atS, rfl⟩
      have i1 := F.called_set.init.lookup
      have i2 := F.called_set.init.bind (.ref s.heap.objs.size)
      repeat (any_goals (first | assumption | wp_step))
      refine codeAny_mono (codeAny_call_builtin (R := wants (fun r s₂ => r = .none ∧ ∃ h' tk L es ep t, s₂ = { s with heap := h', toks := tk } ∧ SetTR P w h' s.heap.objs.size L es ep t ∧ Got ks ks.length L ∧ (∀ b o, s.heap.get? b = some o → h'.get? b = some o)) E)
        F.called_set.init.plain F.entry_set_init (check_set_init_1 isS ?_)) fun r₂ s₂ hr₂ => ?_
      · obtain ⟨ot, hot, hct, nt, hdt⟩ := tup
        obtain ⟨ocls, odict, odata, oslots⟩ := ot
        simp only at hct hdt
        subst hct
        subst hdt
        have hot' : (withSet w s).get? l = some { cls := .type "tuple", dict := odict, data := .seq items nt, slots := oslots } := Heap.get?_push_of_some _ hot
        have t1 := F.sub_tuple_set
        have t2 := F.sub_tuple_frozenset
        have t3 : (Value.type "tuple" == Value.type "dict") = false := by decide
        have tupS : (withSet w s).IsTuple l items := ⟨_, hot', rfl, nt, rfl⟩
        unfold Builtin.«set.__init__» noKeywords Builtin.Frozenset.updateFrom
        generalize hPI : pyIter = PI
        wp_walk
        subst hPI
        refine wpAny_pyIter_tuple tupS ?_
        refine wpAny_bind (wpAny_runValue ?_)
        have below : l < s.heap.objs.size := Heap.lt_size hot
        have calm3 : A.in1.in1.in1.handled = none := by simp [calm]
        have sizeS : (withSet w s).objs.size = s.heap.objs.size + 1 := Heap.size_push ..
        have apart : l ≠ (withSet w s).objs.size := by
          rw [sizeS]
          exact Nat.ne_of_lt (Nat.lt_succ_of_lt below)
        have notIn : s.heap.objs.size ∉ [(withSet w s).objs.size, l] := by
          rw [sizeS]
          simp only [List.mem_cons, List.mem_singleton, List.not_mem_nil, or_false, not_or]
          exact ⟨Nat.ne_of_lt (Nat.lt_succ_self _), Nat.ne_of_gt below⟩
        have which : ∀ (i : Nat) (v : Value), items[i]? = some v → ∃ p, ks[i]? = some p ∧ v = .ref p.1 := fun i v hv => by
          have q : items.toList[i]? = some v := by
            rw [Array.getElem?_toList]
            exact hv
          rw [refs, List.getElem?_map] at q
          cases hq : ks[i]? with
          | none =>
            rw [hq] at q
            cases q
          | some p =>
            rw [hq] at q
            exact ⟨p, rfl, (Option.some.inj q).symm⟩
        have nothing : ∀ b, s.heap.objs.size ≤ b → s.heap.get? b = none := fun b hb => by
          cases q : s.heap.get? b with
          | none => rfl
          | some o => exact absurd (Nat.lt_of_lt_of_le (Heap.lt_size q) hb) (Nat.lt_irrefl _)
        refine set_update_tups ((Walks.tuple calm3 _ l apart items).toS) s.heap.objs.size notIn ks count few which s.heap keys (nothing _ (Nat.le_refl _)) (fun b hb => nothing b ?_) room (items.size - 0) 0 _ (by omega) (Nat.zero_le _)
          ⟨⟨_, Heap.get?_push_size _ rfl, rfl, rfl⟩, (tupS.push _)⟩ (fun b o e => Heap.get?_push_of_some _ (Heap.get?_push_of_some _ e)) ?start ?ends
        · rw [List.mem_singleton.mp hb, sizeS]
          exact Nat.le_succ _
        case start =>
          have atS2 := Heap.get?_push_of_some { cls := .type "tuple_iterator", data := .fields #[.ref l, .int 0 0] } atS
          exact ⟨[], #[], 0, _, setTR_fresh atS2, Got.zero ks⟩
        case ends =>
          intro s' L es ep t moved isSet got keep
          obtain ⟨h', g2, d2, tk2, os2⟩ := s'
          have eg : g2 = s.gens := moved.gens
          have ed : d2 = s.drawn := moved.drawn
          have eo : os2 = s.os := moved.os
          subst eg
          subst ed
          subst eo
          show wpAny _ _ _ _ _ _
          refine wpAny_pure ?_
          show wpAny _ _ (ret Value.none) _ _ _
          rw [count] at got
          exact wpAny_pure ⟨rfl, h', tk2, L, es, ep, t, rfl, isSet, got, keep⟩
      · cases r₂ with
        | error e => exact hr₂
        | ok fl₂ =>
          cases fl₂ with
          | ret r =>
            obtain ⟨rfl, h', tk2, L, es, ep, t, rfl, isSet, got, keep⟩ := hr₂
            repeat (any_goals (first | assumption | wp_step))
            exact out _ _ _ _ _ _ isSet got keep
          | _ => exact hr₂.elim
    | _ => exact hr.elim
end
end DL

set_option Elab.async false
set_option linter.all false
set_option maxRecDepth 100000
set_option maxHeartbeats 4000000
/-! x in a set of tuples -/
namespace DL
open PySem PySem.Spec L2 PyProof.Rows
section
variable {P : Program} {w : World} {A : Around} {E : Value → Shared → Prop} {s : Shared} {a : Addr} {L : List (Addr × List Int)} {es : Array (Int × Value)} {ep : Nat} {t : SetTable}
abbrev begin0 (t : SetTable) (z : Int) : SetTable.Probe := runAt t.mask (SetTable.bits z % (t.mask + 1)) (SetTable.bits z)
abbrev hashOf (es : Array (Int × Value)) : Nat → Int := fun i => (es[i]?.map (·.1)).getD 0
theorem no_dummy (m : Nat) : ∀ (n : Nat) (p : SetTable.Probe), p.dummy = none → (nth m p n).dummy = none := by
  intro n
  induction n with
  | zero => exact fun p h => h
  | succ n ih =>
    refine fun p h => ih (adv m p) ?_
    unfold adv
    split <;> exact h
/-- the search as finding asks for it, from the c-th step on -/
theorem find_from (R : SetTR P w s.heap a L es ep t) {x : Addr} {k : List Int} (hx : IsT P w s.heap k x) (hu : A.units < cLine) {last : Nat} (small : last < 10 * SetTable.turns t.mask) (stop : way t.mask (thash P w k) last ∉ t.place.toList)
    (full : ∀ c, c < last → way t.mask (thash P w k) c ∈ t.place.toList) {Q : SetFound → Shared → Prop} (yes : k ∈ L.map (·.2) → ∀ i, Q (.there (some i)) s) (no : k ∉ L.map (·.2) → Q (.free (way t.mask (thash P w k) last) false) s) :
    ∀ (f c : Nat) (stand : Option SetTable.Probe), stand.getD (t.probeStart (thash P w k)) = nth t.mask (begin0 t (thash P w k)) c → c ≤ last → last - c < f →
      (∀ (i : Nat) p, L[i]? = some p → p.2 = k → ∃ c', c ≤ c' ∧ c' < last ∧ t.place.toList[i]? = some (way t.mask (thash P w k) c')) → wpAny (model P w) A (setSearchFrom a (.ref x) (thash P w k) false f stand) Q E s
  | 0, c, stand, _, _, hf, _ => absurd hf (Nat.not_lt_zero _)
  | f + 1, c, stand, at_, le, hf, ahead => by
    obtain ⟨o, ho, exact_, hd⟩ := R.ob
    rw [setSearchFrom_succ]
    refine wpAny_bind (wpAny_setState_of ho hd R.fits ?_)
    dsimp only
    refine wp_if_neg R.gw ?_
    try refine wpAny_bind (wpAny_pure ?_)
    generalize hz : thash P w k = z at *
    have nd := no_dummy t.mask c (begin0 t z) rfl
    have shift : ∀ q, nth t.mask (nth t.mask (begin0 t z) c) q = nth t.mask (begin0 t z) (c + q) := fun q => (nth_add t.mask c _ q).symm
    have step : ∀ q, (nth t.mask (nth t.mask (begin0 t z) c) q).j = way t.mask z (c + q) := fun q => congrArg SetTable.Probe.j (shift q)
    have lastIs : c + (last - c) = last := by omega
    have probe := go_spec t R.tab.ris R.tab.dm (hashOf es) z (10 * SetTable.turns t.mask) (last - c) _ nd (by omega) (fun q hq => by
      rw [step]
      exact full (c + q) (by omega)) (by
      rw [step, lastIs]
      exact stop)
    have hashAt : ∀ (i : Nat) p, L[i]? = some p → hashOf es i = thash P w p.2 := fun i p hp => by
      show (es[i]?.map (·.1)).getD 0 = _
      rw [R.entry hp] <;> rfl
    rcases probe with ⟨q, i, hq, hi, same, before, met⟩ | ⟨before, met⟩
    · have met' : t.probe (hashOf es) z (stand.getD (t.probeStart z)) = some (.candidate (way t.mask z (c + q)) i (nth t.mask (begin0 t z) (c + (q + 1)))) := by
        rw [at_, ← step, ← shift]
        exact met
      rw [met']
      dsimp only
      rw [step] at hi
      have il : i < L.length := by
        have l1 : i < t.place.toList.length := (List.getElem?_eq_some_iff.mp hi).1
        have l2 := R.tab.sz
        rw [List.length_map] at l2
        rw [Array.length_toList] at l1
        omega
      have hp : L[i]? = some L[i] := List.getElem?_eq_getElem il
      generalize hpe : L[i] = p at hp
      have mem : p ∈ L := List.mem_of_getElem? hp
      have isTup := R.tup p mem
      have go : wpAny (model P w) A (searchRest a (.ref x) z false f es t (way t.mask z (c + q)) i (nth t.mask (begin0 t z) (c + (q + 1)))) Q E s := by
        unfold searchRest
        rw [R.entry hp]
        dsimp only
        refine wpAny_bind (wpAny_holding (wpAny_eqBool_tuple hu isTup hx ?_))
        refine wpAny_bind (wpAny_setState_of ho hd R.fits ?_)
        dsimp only
        refine wp_if_neg (by simp) ?_
        try refine wpAny_bind (wpAny_pure ?_)
        rw [sameMem]
        dsimp only
        have live : t.slot (way t.mask z (c + q)) = .live i := slot_live R.tab.ris hi
        simp only [if_true, live, R.entry hp]
        refine wpAny_bind (wpAny_isSame_ref_self (wpAny_bind (wpAny_pure ?_)))
        simp only [if_true]
        by_cases eq : p.2 = k
        · refine wp_if_pos (by simp [eq]) ?_
          exact wpAny_pure (yes (List.mem_map.mpr ⟨p, mem, eq⟩) i)
        · refine wp_if_neg (by simp [eq]) ?_
          rw [← hz]
          refine find_from R hx hu small (by rw [hz]; exact stop) (fun c hc => by rw [hz]; exact full c hc) yes (fun nk => by rw [hz]; exact no nk) f (c + (q + 1)) _ (by rw [hz] <;> rfl) (by omega) (by omega) fun i0 p0 h0 hk0 => ?_
          obtain ⟨c', a1, a2, a3⟩ := ahead i0 p0 h0 hk0
          rw [hz]
          refine ⟨c', ?_, a2, a3⟩
          rcases Nat.lt_trichotomy c' (c + q) with y | y | y
          · exfalso
            refine before (c' - c) i0 (by omega) ?_ ?_
            · rw [step, show c + (c' - c) = c' by omega]
              exact a3
            · rw [hashAt i0 p0 h0, hk0, hz]
          · exfalso
            rw [y] at a3
            have s0 := slot_live R.tab.ris a3
            rw [live] at s0
            injection s0 with s0
            rw [← s0, hp] at h0
            have e0 := Option.some.inj h0
            rw [e0] at eq
            exact eq hk0
          · omega
      by_cases hl : t.led = true
      · refine wp_if_neg (by simp [hl]) ?_
        try refine wpAny_bind (wpAny_pure ?_)
        exact go
      · refine wp_if_pos (by simp [hl]) ?_
        refine wpAny_bind (seen_tup hx (fun y hy => ?_) ?_)
        · obtain ⟨e, he, ee⟩ := List.mem_map.mp hy
          have e1 : e ∈ es ∧ e.1 = z := by simpa using he
          have e2 : e ∈ es.toList := by simpa using e1.1
          rw [R.rows] at e2
          obtain ⟨p2, hp2, e3⟩ := List.mem_map.mp e2
          exact ⟨p2.2, p2.1, by rw [← ee, ← e3], R.tup p2 hp2⟩
        · refine wp_if_neg (by decide) ?_
          try refine wpAny_bind (wpAny_pure ?_)
          exact go
    · have met' : t.probe (hashOf es) z (stand.getD (t.probeStart z)) = some (.empty (way t.mask z last) none) := by
        have e2 : way t.mask z last = (nth t.mask (nth t.mask (begin0 t z) c) (last - c)).j := by
          rw [step, lastIs]
        rw [at_, e2]
        exact met
      rw [met']
      dsimp only
      refine wpAny_pure (no fun hm => ?_)
      obtain ⟨p0, h0, hk0⟩ := List.mem_map.mp hm
      obtain ⟨i0, hi0, e0⟩ := List.getElem_of_mem h0
      have h00 : L[i0]? = some p0 := by rw [List.getElem?_eq_getElem hi0, e0]
      obtain ⟨c', a1, a2, a3⟩ := ahead i0 p0 h00 hk0
      refine before (c' - c) i0 (by omega) ?_ ?_
      · rw [step, show c + (c' - c) = c' by omega]
        exact a3
      · rw [hashAt i0 p0 h00, hk0, hz]
theorem find_at (R : SetTR P w s.heap a L es ep t) {x : Addr} {k : List Int} (hx : IsT P w s.heap k x) (hu : A.units < cLine) {Q : Option Nat → Shared → Prop} (hQ : ∀ r : Option Nat, r.isSome = decide (k ∈ L.map (·.2)) → Q r s) :
    wpAny (model P w) A (setFind a (.ref x) (thash P w k)) Q E s := by
  obtain ⟨o, ho, _, hd⟩ := R.ob
  have room := R.room
  unfold setFind
  rw [show (100000 : Nat) = 99999 + 1 from rfl]
  unfold setFindIn
  refine wpAny_bind (wpAny_setState_of ho hd R.fits ?_)
  dsimp only
  refine wp_if_neg (by simp [byScan, Value.scannable]) ?_
  try refine wpAny_bind (wpAny_pure ?_)
  have below : L.length < t.mask + 1 := by omega
  obtain ⟨K, f1, f2, f3⟩ := R.tab.first (by rw [List.length_map]; omega) (thash P w k)
  have big : K < 100000 := by
    have turns : 10 * SetTable.turns t.mask ≤ 1420 := by
      unfold SetTable.turns
      rcases R.tab.mok with e | e | e <;> omega
    omega
  refine wpAny_bind ?_
  unfold setSearch
  refine find_from R hx hu f1 f2 f3 (fun hm i => ?_) (fun hn => ?_) 100000 0 none rfl (Nat.zero_le _) (by omega) fun i p hp hk => ?_
  · exact wpAny_pure (hQ (some i) (by rw [decide_eq_true hm] <;> rfl))
  · exact wpAny_pure (hQ none (by rw [decide_eq_false hn] <;> rfl))
  · have hi : (L.map fun p => thash P w p.2)[i]? = some (thash P w k) := by
      rw [List.getElem?_map, hp, ← hk] <;> rfl
    have il : i < t.place.toList.length := by
      have l1 : i < L.length := (List.getElem?_eq_some_iff.mp hp).1
      have l2 := R.tab.sz
      rw [List.length_map] at l2
      rw [Array.length_toList]
      omega
    have hj := List.getElem?_eq_getElem il
    obtain ⟨c, hc, e⟩ := R.tab.before f2 hi hj
    exact ⟨c, Nat.zero_le _, hc, by rw [hj, e]⟩
theorem has_at (R : SetTR P w s.heap a L es ep t) {x : Addr} {k : List Int} (hx : IsT P w s.heap k x) (hu : A.units < cLine) {Q : Bool → Shared → Prop} (hQ : ∀ tk, Q (decide (k ∈ L.map (·.2))) { s with toks := tk }) : wpAny (model P w) A (setContains a (.ref x)) Q E s := by
  unfold setContains
  refine wpAny_holding (wpAny_bind (wpAny_pyHash_tuple hu hx ?_))
  refine wpAny_bind (find_at (s := { s with toks := s.toks + (k.length + 1) }) R hx hu fun r hr => ?_)
  refine wpAny_pure ?_
  rw [hr]
  exact hQ _
theorem isSet_of (R : SetTR P w s.heap a L es ep t) : s.TypeIs (.ref a) "set" := by
  obtain ⟨o, ho, ex, _⟩ := R.ob
  exact ⟨o, ho, ex.1⟩
theorem contains_set (R : SetTR P w s.heap a L es ep t) {x : Addr} {k : List Int} (hx : IsT P w s.heap k x) (hu : A.units + 64 < cLine) {Q : Bool → Shared → Prop} (hQ : ∀ tk, Q (decide (k ∈ L.map (·.2))) { s with toks := tk }) : wpAny (model P w) A (contains (.ref a) (.ref x)) Q E s := by
  have isS := isSet_of R
  unfold contains
  try with_reducible refine wpAny_holding ?_
  refine wpAny_bind (wpAny_specialOf isS F.slot_set_contains.lookup ?_)
  show wpAny _ _ (if (some (Value.builtin "set.__contains__") == some Value.none) = true then _ else _) _ E s
  rw [if_neg (by rw [beq_builtin_none]; exact Bool.false_ne_true)]
  refine wpAny_bind (wpAny_callSpecialUnlessNone?_slot (name := Str.ofString "__contains__") isS F.slot_set_contains ?_)
  refine wpAny_call_entry F.slot_set_contains isS entry_set_contains ?_ (F.args_set_contains_2 _ _)
  unfold Builtin.«frozenset.__contains__» Builtin.Frozenset.oneOther
  simp only [List.isEmpty_nil, bind_assoc]
  unfold Builtin.Frozenset.addrOf Builtin.Frozenset.withSetAsKey
  refine wpAny_bind (wpAny_pure ?_)
  try dsimp only
  refine wpAny_bind (wpAny_pure ?_)
  try dsimp only
  refine wpAny_bind (wpAny_tryCatch ?_)
  refine has_at R hx ?_ fun tk => ?_
  · have e : A.in1.units = A.units + 1 := rfl
    omega
  · exact wpAny_pure ⟨_, rfl, wpAny_truthy_bool (hQ tk)⟩
end
end DL

set_option Elab.async false
set_option linter.all false
set_option maxRecDepth 100000
set_option maxHeartbeats 4000000
/-! order: ints, tuples of ints, tuples of tuples of ints ..; sorted -/
namespace DL
open PySem PySem.Spec L2

/-- n levels of tuples over ints -/
def isLv : Nat → D → Bool
  | 0, .int _ => true
  | n + 1, .tup l => l.all (isLv n)
  | _, _ => false
def eqLv : Nat → D → D → Bool
  | 0, .int i, .int j => i == j
  | n + 1, .tup l, .tup m => allF (eqLv n) l m
  | _, _, _ => false
def lexF (e lt : D → D → Bool) : List D → List D → Bool
  | [], [] => false
  | [], _ :: _ => true
  | _ :: _, [] => false
  | x :: xs, y :: ys => if e x y = true then lexF e lt xs ys else lt x y
def ltLv : Nat → D → D → Bool
  | 0, .int i, .int j => decide (i < j)
  | n + 1, .tup l, .tup m => lexF (eqLv n) (ltLv n) l m
  | _, _, _ => false
theorem lv0 {d : D} (h : isLv 0 d = true) : ∃ i, d = .int i := by
  cases d with
  | int i => exact ⟨i, rfl⟩
  | _ => cases h
theorem lvS {n : Nat} {d : D} (h : isLv (n + 1) d = true) : ∃ l, d = .tup l ∧ l.all (isLv n) = true := by
  cases d with
  | tup l => exact ⟨l, rfl, h⟩
  | _ => cases h
theorem all_cons {p : D → Bool} {d : D} {l : List D} (h : (d :: l).all p = true) : p d = true ∧ l.all p = true := Bool.and_eq_true_iff.mp h
/-- what the order's proofs lean on -/
structure Ord1 (p : D → Bool) (e lt : D → D → Bool) : Prop where
  eq : ∀ x y, p x = true → p y = true → (e x y = true ↔ x = y)
  irr : ∀ x, p x = true → lt x x = false
  asym : ∀ x y, p x = true → p y = true → lt x y = true → lt y x = false
  tri : ∀ x y, p x = true → p y = true → lt x y = false → lt y x = false → x = y
  tr : ∀ x y z, p x = true → p y = true → p z = true → lt x y = true → lt y z = true → lt x z = true
section
variable {p : D → Bool} {e lt : D → D → Bool}
theorem allF_eq (O : Ord1 p e lt) : ∀ l m : List D, l.all p = true → m.all p = true → (allF e l m = true ↔ l = m)
  | [], [], _, _ => ⟨fun _ => rfl, fun _ => rfl⟩
  | [], _ :: _, _, _ => ⟨(fun h => by cases h), (fun h => by cases h)⟩
  | _ :: _, [], _, _ => ⟨(fun h => by cases h), (fun h => by cases h)⟩
  | x :: l, y :: m, h1, h2 => by
    obtain ⟨a1, a2⟩ := all_cons h1
    obtain ⟨b1, b2⟩ := all_cons h2
    show (e x y && allF e l m) = true ↔ _
    rw [Bool.and_eq_true_iff, O.eq x y a1 b1, allF_eq O l m a2 b2]
    exact ⟨fun ⟨z1, z2⟩ => by rw [z1, z2], fun z => List.cons.inj z⟩
theorem lex_cons {x y : D} {l m : List D} : lexF e lt (x :: l) (y :: m) = if e x y = true then lexF e lt l m else lt x y := rfl
theorem lex_eq (O : Ord1 p e lt) {x : D} {l m : List D} (h : p x = true) : lexF e lt (x :: l) (x :: m) = lexF e lt l m := by rw [lex_cons, if_pos ((O.eq x x h h).mpr rfl)]
theorem lex_ne (O : Ord1 p e lt) {x y : D} {l m : List D} (h : p x = true) (h' : p y = true) (n : x ≠ y) : lexF e lt (x :: l) (y :: m) = lt x y := by rw [lex_cons, if_neg (fun z => n ((O.eq x y h h').mp z))]
theorem lex_irr (O : Ord1 p e lt) : ∀ l : List D, l.all p = true → lexF e lt l l = false
  | [], _ => rfl
  | x :: l, h => by
    obtain ⟨a1, a2⟩ := all_cons h
    rw [lex_eq O a1]
    exact lex_irr O l a2
theorem lex_asym (O : Ord1 p e lt) : ∀ l m : List D, l.all p = true → m.all p = true → lexF e lt l m = true → lexF e lt m l = false
  | [], [], _, _, h => by cases h
  | [], _ :: _, _, _, _ => rfl
  | _ :: _, [], _, _, h => by cases h
  | x :: l, y :: m, h1, h2, h => by
    obtain ⟨a1, a2⟩ := all_cons h1
    obtain ⟨b1, b2⟩ := all_cons h2
    by_cases q : x = y
    · subst q
      rw [lex_eq O a1] at h ⊢
      exact lex_asym O l m a2 b2 h
    · rw [lex_ne O a1 b1 q] at h
      rw [lex_ne O b1 a1 (Ne.symm q)]
      exact O.asym x y a1 b1 h
theorem lex_tri (O : Ord1 p e lt) : ∀ l m : List D, l.all p = true → m.all p = true → lexF e lt l m = false → lexF e lt m l = false → l = m
  | [], [], _, _, _, _ => rfl
  | [], _ :: _, _, _, h, _ => by cases h
  | _ :: _, [], _, _, _, h => by cases h
  | x :: l, y :: m, h1, h2, h, h' => by
    obtain ⟨a1, a2⟩ := all_cons h1
    obtain ⟨b1, b2⟩ := all_cons h2
    by_cases q : x = y
    · subst q
      rw [lex_eq O a1] at h h'
      rw [lex_tri O l m a2 b2 h h']
    · rw [lex_ne O a1 b1 q] at h
      rw [lex_ne O b1 a1 (Ne.symm q)] at h'
      exact absurd (O.tri x y a1 b1 h h') q
theorem lex_tr (O : Ord1 p e lt) : ∀ l m k : List D, l.all p = true → m.all p = true → k.all p = true → lexF e lt l m = true → lexF e lt m k = true → lexF e lt l k = true
  | [], [], _, _, _, _, h, _ => by cases h
  | _ :: _, [], _, _, _, _, h, _ => by cases h
  | _, _ :: _, [], _, _, _, _, h => by cases h
  | [], _ :: _, _ :: _, _, _, _, _, _ => rfl
  | x :: l, y :: m, z :: k, h1, h2, h3, h, h' => by
    obtain ⟨a1, a2⟩ := all_cons h1
    obtain ⟨b1, b2⟩ := all_cons h2
    obtain ⟨c1, c2⟩ := all_cons h3
    by_cases q : x = y
    · subst q
      by_cases r : x = z
      · subst r
        rw [lex_eq O a1] at h h' ⊢
        exact lex_tr O l m k a2 b2 c2 h h'
      · rw [lex_ne O a1 c1 r] at h' ⊢
        exact h'
    · rw [lex_ne O a1 b1 q] at h
      by_cases r : y = z
      · subst r
        rw [lex_ne O a1 b1 q]
        exact h
      · rw [lex_ne O b1 c1 r] at h'
        have t := O.tr x y z a1 b1 c1 h h'
        have n : x ≠ z := fun u => by
          subst u
          have := O.asym x y a1 b1 h
          rw [h'] at this
          cases this
        rw [lex_ne O a1 c1 n]
        exact t
end
theorem ordLv : ∀ n : Nat, Ord1 (isLv n) (eqLv n) (ltLv n)
  | 0 => by
    refine ⟨fun x y a b => ?_, fun x a => ?_, fun x y a b h => ?_, fun x y a b h h' => ?_, fun x y z a b c h h' => ?_⟩
    · obtain ⟨i, rfl⟩ := lv0 a
      obtain ⟨j, rfl⟩ := lv0 b
      show (i == j) = true ↔ _
      rw [beq_iff_eq]
      exact ⟨fun z => by rw [z], fun z => D.int.inj z⟩
    · obtain ⟨i, rfl⟩ := lv0 a
      exact decide_eq_false (p := i < i) (by omega)
    · obtain ⟨i, rfl⟩ := lv0 a
      obtain ⟨j, rfl⟩ := lv0 b
      have := of_decide_eq_true (p := i < j) h
      exact decide_eq_false (p := j < i) (by omega)
    · obtain ⟨i, rfl⟩ := lv0 a
      obtain ⟨j, rfl⟩ := lv0 b
      have := of_decide_eq_false (p := i < j) h
      have := of_decide_eq_false (p := j < i) h'
      have e : i = j := by omega
      rw [e]
    · obtain ⟨i, rfl⟩ := lv0 a
      obtain ⟨j, rfl⟩ := lv0 b
      obtain ⟨k, rfl⟩ := lv0 c
      have := of_decide_eq_true (p := i < j) h
      have := of_decide_eq_true (p := j < k) h'
      exact decide_eq_true (p := i < k) (by omega)
  | n + 1 => by
    have O := ordLv n
    refine ⟨fun x y a b => ?_, fun x a => ?_, fun x y a b h => ?_, fun x y a b h h' => ?_, fun x y z a b c h h' => ?_⟩
    · obtain ⟨l, rfl, hl⟩ := lvS a
      obtain ⟨m, rfl, hm⟩ := lvS b
      show allF (eqLv n) l m = true ↔ _
      rw [allF_eq O l m hl hm]
      exact ⟨fun z => by rw [z], fun z => D.tup.inj z⟩
    · obtain ⟨l, rfl, hl⟩ := lvS a
      exact lex_irr O l hl
    · obtain ⟨l, rfl, hl⟩ := lvS a
      obtain ⟨m, rfl, hm⟩ := lvS b
      exact lex_asym O l m hl hm h
    · obtain ⟨l, rfl, hl⟩ := lvS a
      obtain ⟨m, rfl, hm⟩ := lvS b
      rw [lex_tri O l m hl hm h h']
    · obtain ⟨l, rfl, hl⟩ := lvS a
      obtain ⟨m, rfl, hm⟩ := lvS b
      obtain ⟨k, rfl, hk⟩ := lvS c
      exact lex_tr O l m k hl hm hk h h'

/-! ### sorting lists of data -/
def insD (lt : D → D → Bool) (x : D) : List D → List D
  | [] => [x]
  | y :: l => if lt y x = true then y :: insD lt x l else x :: y :: l
def isort (lt : D → D → Bool) : List D → List D
  | [] => []
  | x :: l => insD lt x (isort lt l)
theorem insD_perm (lt : D → D → Bool) (x : D) : ∀ l : List D, (insD lt x l).Perm (x :: l)
  | [] => List.Perm.refl _
  | y :: l => by
    unfold insD
    split
    · exact ((insD_perm lt x l).cons y).trans (List.Perm.swap x y l)
    · exact List.Perm.refl _
theorem isort_perm (lt : D → D → Bool) : ∀ l : List D, (isort lt l).Perm l
  | [] => List.Perm.refl _
  | x :: l => (insD_perm lt x _).trans ((isort_perm lt l).cons x)
section
variable {p : D → Bool} {e lt : D → D → Bool}
theorem ntr (O : Ord1 p e lt) {x y z : D} (a : p x = true) (b : p y = true) (c : p z = true) (h : lt y x = false) (h' : lt z y = false) : lt z x = false := by
  cases q : lt z x with
  | false => rfl
  | true =>
    exfalso
    by_cases r : lt x y = true
    · rw [O.tr z x y c a b q r] at h'
      cases h'
    · have e := O.tri x y a b (by cases s : lt x y with | false => rfl | true => exact absurd s r) h
      rw [e] at q
      rw [q] at h'
      cases h'
theorem insD_sorted (O : Ord1 p e lt) {x : D} (hx : p x = true) : ∀ l : List D, l.all p = true → l.Pairwise (fun a b => lt b a = false) → (insD lt x l).Pairwise fun a b => lt b a = false
  | [], _, _ => List.pairwise_singleton _ _
  | y :: l, h, s => by
    obtain ⟨a1, a2⟩ := all_cons h
    obtain ⟨s1, s2⟩ := List.pairwise_cons.mp s
    unfold insD
    split
    · rename_i hyx
      refine List.pairwise_cons.mpr ⟨fun z hz => ?_, insD_sorted O hx l a2 s2⟩
      rcases List.mem_cons.mp ((insD_perm lt x l).mem_iff.mp hz) with q | q
      · rw [q]
        exact O.asym y x a1 hx hyx
      · exact s1 z q
    · rename_i hyx
      have hyx' : lt y x = false := by cases q : lt y x with | false => rfl | true => exact absurd q hyx
      refine List.pairwise_cons.mpr ⟨fun z hz => ?_, s⟩
      rcases List.mem_cons.mp hz with q | q
      · rw [q]
        exact hyx'
      · exact ntr O hx a1 (List.all_eq_true.mp a2 z q) hyx' (s1 z q)
theorem all_perm {l m : List D} (h : l.Perm m) (a : m.all p = true) : l.all p = true := List.all_eq_true.mpr fun x hx => List.all_eq_true.mp a x (h.mem_iff.mp hx)
theorem isort_sorted (O : Ord1 p e lt) : ∀ l : List D, l.all p = true → (isort lt l).Pairwise fun a b => lt b a = false
  | [], _ => List.Pairwise.nil
  | x :: l, h => by
    obtain ⟨a1, a2⟩ := all_cons h
    exact insD_sorted O a1 _ (all_perm (isort_perm lt l) a2) (isort_sorted O l a2)
theorem sorted_uniq (O : Ord1 p e lt) : ∀ l m : List D, l.all p = true → l.Perm m → l.Pairwise (fun a b => lt b a = false) → m.Pairwise (fun a b => lt b a = false) → l = m
  | [], m, _, h, _, _ => h.nil_eq
  | x :: l, [], _, h, _, _ => absurd h.symm.nil_eq (by simp)
  | x :: l, y :: m, a, h, s, s' => by
    have a' : (y :: m).all p = true := all_perm h.symm a
    obtain ⟨a1, a2⟩ := all_cons a
    obtain ⟨b1, b2⟩ := all_cons a'
    obtain ⟨s1, s2⟩ := List.pairwise_cons.mp s
    obtain ⟨t1, t2⟩ := List.pairwise_cons.mp s'
    have exy : x = y := by
      rcases List.mem_cons.mp (h.mem_iff.mp List.mem_cons_self) with q | q
      · exact q
      · rcases List.mem_cons.mp (h.mem_iff.mpr List.mem_cons_self) with r | r
        · exact r.symm
        · exact O.tri x y a1 b1 (t1 x q) (s1 y r)
    subst exy
    rw [sorted_uniq O l m a2 (List.Perm.cons_inv h) s2 t2]
theorem isort_uniq (O : Ord1 p e lt) {l m : List D} (a : m.all p = true) (h : l.Perm m) (s : l.Pairwise fun a b => lt b a = false) : l = isort lt m :=
  sorted_uniq O l _ (all_perm h a) (h.trans (isort_perm lt m).symm) s (isort_sorted O m a)
end
end DL

set_option Elab.async false
set_option linter.all false
set_option maxRecDepth 100000
set_option maxHeartbeats 4000000
/-! sorted, on the heap -/
namespace DL
open PySem PySem.Spec L2 PySem.SeqAt Ob
def pick (l : List D) (j : Nat) : D := l[j]?.getD .non
theorem pick_at {l : List D} {j : Nat} (h : j < l.length) : pick l j = l[j] := by
  unfold pick
  rw [List.getElem?_eq_getElem h]
  rfl
def All2 (R : D → Value → Prop) : List D → List Value → Prop
  | [], [] => True
  | d :: ds, v :: vs => R d v ∧ All2 R ds vs
  | _, _ => False
/-- the value stands for a datum of level n -/
def Rv (h : Heap) : Nat → D → Value → Prop
  | 0, .int i, v => ∃ t, v = .int i t
  | n + 1, .tup l, v => ∃ a items, v = .ref a ∧ h.IsTuple a items ∧ All2 (Rv h n) l items.toList
  | _, _, _ => False
theorem All2.len {R : D → Value → Prop} : ∀ {ds : List D} {vs : List Value}, All2 R ds vs → ds.length = vs.length
  | [], [], _ => rfl
  | [], _ :: _, h => h.elim
  | _ :: _, [], h => h.elim
  | _ :: _, _ :: _, h => congrArg Nat.succ (All2.len h.2)
theorem All2.at {R : D → Value → Prop} : ∀ {ds : List D} {vs : List Value} {j : Nat} (h1 : j < ds.length) (h2 : j < vs.length), All2 R ds vs → R ds[j] vs[j]
  | [], _, _, h, _, _ => absurd h (Nat.not_lt_zero _)
  | _ :: _, [], _, _, h, _ => absurd h (Nat.not_lt_zero _)
  | _ :: _, _ :: _, 0, _, _, r => r.1
  | _ :: ds, _ :: vs, j + 1, h1, h2, r => All2.at (ds := ds) (vs := vs) (Nat.lt_of_succ_lt_succ h1) (Nat.lt_of_succ_lt_succ h2) r.2
theorem rv0 {h : Heap} {d : D} {v : Value} (r : Rv h 0 d v) : ∃ i t, d = .int i ∧ v = .int i t := by
  cases d with
  | int i =>
    obtain ⟨t, e⟩ := r
    exact ⟨i, t, rfl, e⟩
  | _ => exact r.elim
theorem rvS {h : Heap} {n : Nat} {d : D} {v : Value} (r : Rv h (n + 1) d v) : ∃ l a items, d = .tup l ∧ v = .ref a ∧ h.IsTuple a items ∧ All2 (Rv h n) l items.toList := by
  cases d with
  | tup l =>
    obtain ⟨a, items, e1, e2, e3⟩ := r
    exact ⟨l, a, items, rfl, e1, e2, e3⟩
  | _ => exact r.elim
theorem all2_inj {R : D → Value → Prop} (ih : ∀ d e v, R d v → R e v → d = e) : ∀ {l m : List D} {vs : List Value}, All2 R l vs → All2 R m vs → l = m
  | [], [], _, _, _ => rfl
  | [], _ :: _, [], _, h => h.elim
  | [], _ :: _, _ :: _, h, _ => h.elim
  | _ :: _, [], [], h, _ => h.elim
  | _ :: _, [], _ :: _, _, h => h.elim
  | _ :: _, _ :: _, [], h, _ => h.elim
  | d :: l, e :: m, v :: vs, h, h' => by rw [ih d e v h.1 h'.1, all2_inj ih h.2 h'.2]
theorem isTuple_one {h : Heap} {a : Addr} {xs ys : Array Value} (x : h.IsTuple a xs) (y : h.IsTuple a ys) : xs = ys := by
  obtain ⟨o, e1, _, n, e2⟩ := x
  obtain ⟨o', f1, _, n', f2⟩ := y
  rw [e1] at f1
  have e := Option.some.inj f1
  subst e
  rw [e2] at f2
  injection f2
theorem rv_inj {h : Heap} : ∀ (n : Nat) (d e : D) (v : Value), Rv h n d v → Rv h n e v → d = e
  | 0, d, e, v, r, r' => by
    obtain ⟨i, t, rfl, rfl⟩ := rv0 r
    obtain ⟨j, u, rfl, q⟩ := rv0 r'
    injection q with q
    rw [q]
  | n + 1, d, e, v, r, r' => by
    obtain ⟨l, a, xs, rfl, rfl, h1, h2⟩ := rvS r
    obtain ⟨m, b, ys, rfl, q, h3, h4⟩ := rvS r'
    injection q with q
    subst q
    have e := isTuple_one h1 h3
    subst e
    rw [all2_inj (rv_inj n) h2 h4]
theorem rv_lv {h : Heap} : ∀ (n : Nat) (d : D) (v : Value), Rv h n d v → isLv n d = true
  | 0, d, v, r => by
    obtain ⟨i, t, rfl, rfl⟩ := rv0 r
    rfl
  | n + 1, d, v, r => by
    obtain ⟨l, a, xs, rfl, rfl, h1, h2⟩ := rvS r
    have all : ∀ (l : List D) (vs : List Value), All2 (Rv h n) l vs → l.all (isLv n) = true := by
      intro l
      induction l with
      | nil => exact fun _ _ => rfl
      | cons d l ih =>
        intro vs r
        cases vs with
        | nil => exact r.elim
        | cons v vs =>
          rw [List.all_cons, rv_lv n d v r.1, ih vs r.2]
          rfl
    exact all l _ h2
theorem rv_keep {h h' : Heap} (k : ∀ a items, h.IsTuple a items → h'.IsTuple a items) : ∀ (n : Nat) (d : D) (v : Value), Rv h n d v → Rv h' n d v
  | 0, d, v, r => by
    obtain ⟨i, t, rfl, rfl⟩ := rv0 r
    exact ⟨t, rfl⟩
  | n + 1, d, v, r => by
    obtain ⟨l, a, xs, rfl, rfl, h1, h2⟩ := rvS r
    have all : ∀ (l : List D) (vs : List Value), All2 (Rv h n) l vs → All2 (Rv h' n) l vs := by
      intro l
      induction l with
      | nil => exact fun vs r => by cases vs with | nil => trivial | cons _ _ => exact r.elim
      | cons d l ih =>
        intro vs r
        cases vs with
        | nil => exact r.elim
        | cons v vs => exact ⟨rv_keep k n d v r.1, ih vs r.2⟩
    exact ⟨a, xs, rfl, k a xs h1, all l _ h2⟩
/-- equality of tuples, place by place -/
theorem range_all (e : D → D → Bool) : ∀ (l m : List D) (f : Nat → Bool), (∀ j (h1 : j < l.length) (h2 : j < m.length), f j = e l[j] m[j]) → ((List.range (min l.length m.length)).all f && l.length == m.length) = allF e l m
  | [], [], f, _ => rfl
  | [], _ :: m, f, _ => by simp [allF]
  | _ :: l, [], f, _ => by simp [allF]
  | x :: l, y :: m, f, h => by
    have ih := range_all e l m (fun j => f (j + 1)) fun j h1 h2 => by
      rw [h (j + 1) (Nat.succ_lt_succ h1) (Nat.succ_lt_succ h2)]
      rfl
    have e1 : min (x :: l).length (y :: m).length = min l.length m.length + 1 := by
      simp only [List.length_cons]
      omega
    rw [e1, List.range_succ_eq_map, List.all_cons, List.all_map]
    have e2 : f 0 = e x y := h 0 (Nat.succ_pos _) (Nat.succ_pos _)
    have e3 : ((x :: l).length == (y :: m).length) = (l.length == m.length) := by
      simp only [List.length_cons]
      rw [Bool.eq_iff_iff, beq_iff_eq, beq_iff_eq]
      omega
    rw [e2, e3, Bool.and_assoc]
    show (e x y && ((List.range (min l.length m.length)).all (f ∘ Nat.succ) && l.length == m.length)) = (e x y && allF e l m)
    rw [← ih]
    rfl
theorem lexAt_shift (e r : Nat → Bool) (z : Bool) : ∀ (k i : Nat), lexAt e r z (i + 1) k = lexAt (fun j => e (j + 1)) (fun j => r (j + 1)) z i k
  | 0, _ => rfl
  | k + 1, i => by
    rw [lexAt_succ, lexAt_succ, lexAt_shift e r z k (i + 1)]
theorem lexAt_lex (e lt : D → D → Bool) : ∀ (l m : List D) (f r : Nat → Bool), (∀ j (h1 : j < l.length) (h2 : j < m.length), f j = e l[j] m[j]) → (∀ j (h1 : j < l.length) (h2 : j < m.length), r j = lt l[j] m[j]) →
    lexAt f r (decide (l.length < m.length)) 0 (min l.length m.length) = lexF e lt l m
  | [], [], f, r, _, _ => rfl
  | [], y :: m, f, r, _, _ => by
    have e1 : min ([] : List D).length (y :: m).length = 0 := by simp
    rw [e1, lexAt_zero]
    exact decide_eq_true (by simp)
  | x :: l, [], f, r, _, _ => by
    have e1 : min (x :: l).length ([] : List D).length = 0 := by simp
    rw [e1, lexAt_zero]
    exact decide_eq_false (by simp)
  | x :: l, y :: m, f, r, h, h' => by
    have ih := lexAt_lex e lt l m (fun j => f (j + 1)) (fun j => r (j + 1)) (fun j h1 h2 => by
      rw [h (j + 1) (Nat.succ_lt_succ h1) (Nat.succ_lt_succ h2)]
      rfl) (fun j h1 h2 => by
      rw [h' (j + 1) (Nat.succ_lt_succ h1) (Nat.succ_lt_succ h2)]
      rfl)
    have e1 : min (x :: l).length (y :: m).length = min l.length m.length + 1 := by
      simp only [List.length_cons]
      omega
    have e3 : decide ((x :: l).length < (y :: m).length) = decide (l.length < m.length) := by
      simp only [List.length_cons, Nat.add_lt_add_iff_right]
    rw [e1, e3, lexAt_succ, h 0 (Nat.succ_pos _) (Nat.succ_pos _), h' 0 (Nat.succ_pos _) (Nat.succ_pos _), lexAt_shift, ih]
    rfl
section
variable {A : Around} {s : Shared}
theorem rv_eq : ∀ (n : Nat) (A : Around) (d e : D) (v u : Value), A.units + n < cLine → Rv s.heap n d v → Rv s.heap n e u → EqAt A s v u (eqLv n d e)
  | 0, A, d, e, v, u, _, r, r' => by
    obtain ⟨i, t, rfl, rfl⟩ := rv0 r
    obtain ⟨j, t', rfl, rfl⟩ := rv0 r'
    exact EqAt.int_int i t j t'
  | n + 1, A, d, e, v, u, hu, r, r' => by
    obtain ⟨l, a, xs, rfl, rfl, h1, h2⟩ := rvS r
    obtain ⟨m, b, ys, rfl, rfl, h3, h4⟩ := rvS r'
    by_cases q : a = b
    · subst q
      have e := rv_inj (n + 1) _ _ _ r r'
      rw [((ordLv (n + 1)).eq _ _ (rv_lv _ _ _ r) (rv_lv _ _ _ r')).mpr e]
      exact EqAt.same _
    · have l1 : l.length = xs.size := by rw [h2.len, Array.length_toList]
      have l2 : m.length = ys.size := by rw [h4.len, Array.length_toList]
      have key := RcAt.tuples (A := A) (s := s) (e := fun j => eqLv n (pick l j) (pick m j)) h1 h3 (by omega) fun j g1 g2 => by
        have k1 : j < l.length := by omega
        have k2 : j < m.length := by omega
        rw [pick_at k1, pick_at k2]
        have z1 := h2.at k1 (by rw [Array.length_toList]; exact g1)
        have z2 := h4.at k2 (by rw [Array.length_toList]; exact g2)
        rw [Array.getElem_toList] at z1 z2
        exact rv_eq n A.in1 _ _ _ _ (by show A.units + 1 + n < _; omega) z1 z2
      refine EqAt.of_refs q ?_
      have e2 : eqLv (n + 1) (.tup l) (.tup m) = allF (eqLv n) l m := rfl
      rw [e2, ← range_all (eqLv n) l m (fun j => eqLv n (pick l j) (pick m j)) fun j k1 k2 => by rw [pick_at k1, pick_at k2], l1, l2]
      exact key
theorem rv_lt : ∀ (n : Nat) (A : Around) (d e : D) (v u : Value), A.units + n < cLine → Rv s.heap n d v → Rv s.heap n e u → RcOp .Lt A s v u (ltLv n d e)
  | 0, A, d, e, v, u, _, r, r' => by
    obtain ⟨i, t, rfl, rfl⟩ := rv0 r
    obtain ⟨j, t', rfl, rfl⟩ := rv0 r'
    exact RcOp.lt_int i j t t'
  | n + 1, A, d, e, v, u, hu, r, r' => by
    obtain ⟨l, a, xs, rfl, rfl, h1, h2⟩ := rvS r
    obtain ⟨m, b, ys, rfl, rfl, h3, h4⟩ := rvS r'
    have l1 : l.length = xs.size := by rw [h2.len, Array.length_toList]
    have l2 : m.length = ys.size := by rw [h4.len, Array.length_toList]
    have get : ∀ {j} (g1 : j < xs.size) (g2 : j < ys.size), ∃ (k1 : j < l.length) (k2 : j < m.length), Rv s.heap n l[j] xs[j] ∧ Rv s.heap n m[j] ys[j] := fun {j} g1 g2 => by
      have k1 : j < l.length := by omega
      have k2 : j < m.length := by omega
      have z1 := h2.at k1 (by rw [Array.length_toList]; exact g1)
      have z2 := h4.at k2 (by rw [Array.length_toList]; exact g2)
      rw [Array.getElem_toList] at z1 z2
      exact ⟨k1, k2, z1, z2⟩
    have key := RcOp.tuples_lt (A := A) (s := s) (e := fun j => eqLv n (pick l j) (pick m j)) (r := fun j => ltLv n (pick l j) (pick m j)) h1 h3 (by omega)
      (fun j g1 g2 => by
        obtain ⟨k1, k2, z1, z2⟩ := get g1 g2
        rw [pick_at k1, pick_at k2]
        exact rv_eq n A.in1 _ _ _ _ (by show A.units + 1 + n < _; omega) z1 z2)
      (fun j g1 g2 _ => by
        obtain ⟨k1, k2, z1, z2⟩ := get g1 g2
        rw [pick_at k1, pick_at k2]
        exact rv_lt n A.in1 _ _ _ _ (by show A.units + 1 + n < _; omega) z1 z2)
    have e2 : ltLv (n + 1) (.tup l) (.tup m) = lexF (eqLv n) (ltLv n) l m := rfl
    rw [e2, ← lexAt_lex (eqLv n) (ltLv n) l m (fun j => eqLv n (pick l j) (pick m j)) (fun j => ltLv n (pick l j) (pick m j)) (fun j k1 k2 => by rw [pick_at k1, pick_at k2]) (fun j k1 k2 => by rw [pick_at k1, pick_at k2]), l1, l2]
    exact key
end
end DL

set_option Elab.async false
set_option linter.all false
set_option maxRecDepth 100000
set_option maxHeartbeats 4000000
/-! sorted: the rule -/
namespace DL
open PySem PySem.Spec L2 PySem.SeqAt Ob PyProof.Rows PySem.W
section
variable {prog : Program} {w : World} {A : Around} {E : Value → Shared → Prop} {s : Shared}
theorem lv_katlex {n : Nat} {b : Bool} (hb : b = (n == 0)) (hu : A.units + n < cLine) {Q : Bool → Shared → Prop} : ∀ (l m : List D) (xs ys : List Value) (i : Nat), All2 (Rv s.heap n) l xs → All2 (Rv s.heap n) m ys → Q (lexF (eqLv n) (ltLv n) l m) s →
    KatLex prog w A b (decide (xs.length < ys.length)) Q (xs.zip ys) i s
  | [], [], [], [], i, _, _, q => kat_nil q
  | [], y :: m, [], v :: ys, i, _, _, q => by
    refine kat_nil ?_
    rw [decide_eq_true (by simp)]
    exact q
  | x :: l, [], v :: xs, [], i, _, _, q => by
    refine kat_nil ?_
    rw [decide_eq_false (by simp)]
    exact q
  | x :: l, y :: m, v :: xs, u :: ys, i, h1, h2, q => by
    have e : decide ((v :: xs).length < (u :: ys).length) = decide (xs.length < ys.length) := by simp only [List.length_cons, Nat.add_lt_add_iff_right]
    rw [e]
    refine kat_cons (rv_eq n A x y v u hu h1.1 h2.1 prog w _ _ ?_)
    rw [lex_cons] at q
    refine kat_go (fun z => kat_yes ?_) fun z => kat_no ?_
    · rw [if_pos z] at q
      exact lv_katlex hb hu l m xs ys (i + 1) h1.2 h2.2 q
    · rw [if_neg (by rw [z]; exact Bool.false_ne_true)] at q
      by_cases c : (b && i == 0) = true
      · rw [c]
        obtain ⟨c1, _⟩ := Bool.and_eq_true_iff.mp c
        rw [hb] at c1
        have n0 : n = 0 := beq_iff_eq.mp c1
        subst n0
        obtain ⟨a, t, rfl, rfl⟩ := rv0 h1.1
        obtain ⟨a', t', rfl, rfl⟩ := rv0 h2.1
        exact oneLt_int q
      · have c' : (b && i == 0) = false := by cases k : (b && i == 0) with | false => rfl | true => exact absurd k c
        rw [c']
        exact kat_one v u (rv_lt n A x y v u hu h1.1 h2.1 prog w _ _ q)
  | [], _, _ :: _, _, _, h, _, _ => h.elim
  | _ :: _, _, [], _, _, h, _, _ => h.elim
  | _, [], _, _ :: _, _, _, h, _ => h.elim
  | _, _ :: _, _, [], _, _, h, _ => h.elim
def kindLv : Nat → SortKind
  | 0 => oneType'
  | n + 1 => tuples' (n == 0)
theorem lv_key (n : Nat) (hu : A.units + n < cLine) {d e : D} {v u : Value} {Q : Bool → Shared → Prop} (h1 : Rv s.heap n d v) (h2 : Rv s.heap n e u) (q : Q (ltLv n d e) s) : wpAny (model prog w) A (keyLt' (kindLv n) v u) Q E s := by
  cases n with
  | zero =>
    obtain ⟨a, t, rfl, rfl⟩ := rv0 h1
    obtain ⟨a', t', rfl, rfl⟩ := rv0 h2
    show wpAny _ _ (keyLt' oneType' _ _) _ _ _
    rw [keyLt'_oneType]
    exact oneLt_int q
  | succ n =>
    obtain ⟨l, a, xs, rfl, rfl, ⟨o1, g1, g2, k1, g3⟩, z1⟩ := rvS h1
    obtain ⟨m, b, ys, rfl, rfl, ⟨o2, g4, g5, k2, g6⟩, z2⟩ := rvS h2
    refine kat_lt g1 g3 g4 g6 ?_
    have e : decide (xs.size < ys.size) = decide (xs.toList.length < ys.toList.length) := by rw [Array.length_toList, Array.length_toList]
    rw [e]
    exact lv_katlex rfl (by omega) l m xs.toList ys.toList 0 z1 z2 q
theorem kat_tups {n : Nat} : ∀ (ds : List D) (vs : List Value), All2 (Rv s.heap (n + 1)) ds vs → (ds.all fun d => match d with | .tup [] => false | _ => true) = true → ∃ fs, KatTups s.heap vs fs ∧ fs.length = vs.length ∧ ∀ f ∈ fs, ∃ e, Rv s.heap n e f
  | [], [], _, _ => ⟨[], trivial, rfl, fun f h => by cases h⟩
  | [], _ :: _, h, _ => h.elim
  | _ :: _, [], h, _ => h.elim
  | d :: ds, v :: vs, h, c => by
    obtain ⟨c1, c2⟩ := Bool.and_eq_true_iff.mp c
    obtain ⟨fs, f1, f2, f3⟩ := kat_tups ds vs h.2 c2
    obtain ⟨l, a, xs, rfl, rfl, ⟨o1, g1, g2, k1, g3⟩, z1⟩ := rvS h.1
    cases l with
    | nil => cases c1
    | cons x l =>
      cases hx : xs.toList with
      | nil =>
        rw [hx] at z1
        exact z1.elim
      | cons f r =>
        rw [hx] at z1
        have e0 : xs[0]? = some f := by
          rw [← Array.getElem?_toList, hx]
          rfl
        exact ⟨f :: fs, ⟨⟨a, o1, xs, k1, rfl, g1, g2, g3, e0⟩, f1⟩, congrArg Nat.succ f2, fun g hg => by
          rcases List.mem_cons.mp hg with q | q
          · rw [q]
            exact ⟨x, z1.1⟩
          · exact f3 g q⟩
theorem rv_type {M : Model} {n : Nat} {d : D} {v : Value} (h : Rv s.heap n d v) : W.Looks M s.heap (typeOf v) (.type (if n = 0 then "int" else "tuple")) := by
  cases n with
  | zero =>
    obtain ⟨a, t, rfl, rfl⟩ := rv0 h
    exact W.Looks.now
  | succ n =>
    obtain ⟨l, a, xs, rfl, rfl, ⟨o1, g1, g2, k1, g3⟩, z1⟩ := rvS h
    have e : (if n + 1 = 0 then "int" else "tuple") = "tuple" := if_neg (Nat.succ_ne_zero n)
    rw [e, ← g2]
    exact (Looks.ld g1).andThen .now
theorem all_ints : ∀ (ds : List D) (vs : List Value), All2 (Rv s.heap 0) ds vs → ∃ ns, IntsAre vs ns
  | [], [], _ => ⟨[], .nil⟩
  | [], _ :: _, h => h.elim
  | _ :: _, [], h => h.elim
  | d :: ds, v :: vs, h => by
    obtain ⟨ns, k⟩ := all_ints ds vs h.2
    obtain ⟨a, t, rfl, rfl⟩ := rv0 h.1
    exact ⟨a :: ns, .cons a t k⟩
theorem lv_kind (n : Nat) {ds : List D} {vs : List Value} {Q : SortKind → Shared → Prop} (h : All2 (Rv s.heap n) ds vs) (h2 : 2 ≤ vs.length) (c : n = 0 ∨ (ds.all fun d => match d with | .tup [] => false | _ => true) = true) (q : Q (kindLv n) s) :
    wpAny (model prog w) A (keyKind' vs.toArray) Q E s := by
  cases n with
  | zero =>
    obtain ⟨ns, k⟩ := all_ints ds vs h
    match vs, k, h2 with
    | v1 :: v2 :: rest, k, _ =>
      rw [keyKind_ints k]
      exact wpAny_pure q
    | [], _, h => exact absurd h (by decide)
    | [v], _, h => exact absurd h (by simp)
  | succ n =>
    obtain ⟨fs, f1, f2, f3⟩ := kat_tups ds vs h (c.resolve_left (Nat.succ_ne_zero n))
    refine kat_kind (T := .type (if n = 0 then "int" else "tuple")) f1 (by omega) (fun f hf => ?_) (by simp) ?_
    · obtain ⟨e, he⟩ := f3 f hf
      exact rv_type he
    · have e : (Value.type (if n = 0 then "int" else "tuple") != Value.type "tuple") = (n == 0) := by
        by_cases z : n = 0
        · subst z
          decide
        · rw [if_neg z]
          have : (n == 0) = false := beq_eq_false_iff_ne.mpr z
          rw [this]
          decide
      rw [e]
      exact q
end
end DL

set_option Elab.async false
set_option linter.all false
set_option maxRecDepth 100000
set_option maxHeartbeats 4000000
/-! sorted of a list, of a tuple -/
namespace DL
open PySem PySem.Spec L2 PySem.SeqAt Ob PyProof.Rows PySem.W SrtO
section
variable {prog : Program} {w : World} {A : Around} {E : Value → Shared → Prop} {s : Shared}
abbrev rawL : Obj := { cls := .type "list", data := .seq ([] : List Value).toArray }
/-- the list that a collecting lays -/
abbrev gathered (h : Heap) (items : Array Value) : Heap := (h.push rawL).update h.objs.size (Obj.mapSeq (· ++ items))
theorem gather {Q : List Value → Shared → Prop} (it : Addr) {T : String} {o : Obj} {items : Array Value} {n : Nat} (hT : T = "list" ∨ T = "tuple") (ho : s.heap.get? it = some o) (hc : o.cls = .type T) (hd : o.data = .seq items n) (hsz : items.size ≤ sizeLine)
    (hQ : Q items.toList { s with heap := gathered s.heap items }) : wpAny (model prog w) A (collect (.ref it)) Q E s := by
  unfold collect
  refine wpAny_bind (wpAny_runValue (codeAny_builtin F.entry_proto_collect ?_))
  rw [Around.under_plainId F.plain_proto_collect _]
  show wpAny _ A.in1 (newList [] >>= fun l => again (.builtin "list.__iadd__" ⟨[l, .ref it], []⟩)) _ _ s
  refine wpAny_bind (wpAny_newObj_type ?_)
  refine wpAny_pure ⟨plainId_quiet F.plain_list_iadd _, ?_⟩
  refine codeAny_builtin F.entry_list_iadd ?_
  rw [Around.under_plainId F.plain_list_iadd _]
  show wpAny _ A.in1 (Builtin.List.listExtendWith (.ref s.heap.objs.size) (.ref it) (.ref s.heap.objs.size)) _ _ _
  have atL : (s.heap.push rawL).get? s.heap.objs.size = some rawL := Heap.get?_push_size _ rfl
  have grown := Heap.get?_update_self (Obj.mapSeq (· ++ items)) atL rfl
  have same : ((#[] : Array Value) ++ items).toList = items.toList := by simp
  have last : wpAny (model prog w) A (match Value.ref s.heap.objs.size with
      | Value.ref a => do
        match (← load a).data with
          | Data.seq xs _ => pure xs.toList
          | _ => unsupported "internal:collect"
      | _ => unsupported "internal:collect") Q E { s with heap := gathered s.heap items } := by
    show wpAny _ A (load s.heap.objs.size >>= _) _ _ _
    refine wpAny_bind (wpAny_load grown (wpAny_pure ?_))
    show Q ((#[] : Array Value) ++ items).toList _
    rw [same]
    exact hQ
  refine wpAny_mono (wpAny_extend_seq (hsz := hsz) (A := A) (R := fun r s' => r = .ok (.ret (.ref s.heap.objs.size)) ∧ s' = { s with heap := gathered s.heap items }) (s := { s with heap := s.heap.push rawL }) _ it _ 0 hT atL (Heap.get?_push_of_some _ ho) hc hd ⟨rfl, rfl⟩)
    (fun fin s' h => ?_) (fun e s' h => ?_)
  · cases fin with
    | done f =>
      obtain ⟨e, rfl⟩ := h
      cases e
      exact last
    | again c' =>
      refine ⟨h.1, codeAny_mono h.2 fun r s'' hr => ?_⟩
      obtain ⟨rfl, rfl⟩ := hr
      exact last
  · exact absurd h.1 (by simp)
theorem sorted_seq {l : Addr} {T : String} {o : Obj} {vs : List Value} {k : Nat} {ltv : Value → Value → Bool} {Q : Value → Shared → Prop} (O : Swo ltv) (hT : T = "list" ∨ T = "tuple") (ho : s.heap.get? l = some o) (hc : o.cls = .type T) (hd : o.data = .seq vs.toArray k) (hz : vs.length ≤ sizeLine)
    (hS : 2 ≤ vs.length → ∀ (h₁ : Heap) (a : Addr), h₁.get? a = some (seqObj "list" vs.toArray 0) → (∀ b o, s.heap.get? b = some o → b ≠ a ∧ h₁.get? b = some o) → SortableO prog w A.in1.in1 { s with heap := h₁ } a vs ltv)
    (h : ∀ (out : List Value) (p : Addr) (h' : Heap) (c : Nat), Srtd ltv out → Stb ltv out vs → (∀ b o, s.heap.get? b = some o → h'.get? b = some o) → s.heap.objs.size ≤ p → h'.get? p = some (seqObj "list" out.toArray c) → Q (.ref p) { s with heap := h' }) :
    wpAny (model prog w) A (call (.builtin "sorted") [.ref l]) Q E s := by
  refine Calls.call_function_entry kind_sorted plain_sorted entry_sorted (args_sorted1 _) ?_
  unfold Builtin.«sorted»
  refine wpAny_bind (m := checkCount "sorted" 1 1 _) (wpAny_pure ?_)
  refine wpAny_bind (gather l hT ho hc hd (by rw [List.size_toArray]; exact hz) ?_)
  have size1 : (gathered s.heap vs.toArray).objs.size = s.heap.objs.size + 1 := by rw [Heap.size_update, Heap.size_push]
  have k1 : ∀ b o', s.heap.get? b = some o' → (gathered s.heap vs.toArray).get? b = some o' := fun b o' hb =>
    (Heap.get?_update_other _ _ (Nat.ne_of_gt (Heap.lt_size hb))).trans (Heap.get?_push_of_some _ hb)
  generalize gathered s.heap vs.toArray = h1 at size1 k1
  have big : s.heap.objs.size ≤ h1.objs.size := by omega
  refine wpAny_bind (wpAny_newList ?_ (by simpa using hz))
  have at1 : (h1.push (seqObj "list" vs.toArray 0)).get? h1.objs.size = some (seqObj "list" vs.toArray 0) := Heap.get?_push_size _ rfl
  have keep : ∀ b o, s.heap.get? b = some o → b ≠ h1.objs.size ∧ (h1.push (seqObj "list" vs.toArray 0)).get? b = some o := fun b o q => by
    have q1 := k1 b o q
    exact ⟨Nat.ne_of_lt (Heap.lt_size q1), Heap.get?_push_of_some _ q1⟩
  show wpAny _ _ _ _ _ { s with heap := h1.push (seqObj "list" vs.toArray 0) }
  refine wpAny_bind (wpAny_holding (wpAny_call_entry slot_list_sort ⟨_, at1, rfl⟩ entry_list_sort (list_sort_ord O at1 hz (fun h2 => hS h2 _ _ at1 keep) fun out hs hb => ⟨_, rfl, ?_⟩) (args_list_sort _)))
  obtain ⟨c, hc'⟩ := sortedHeap_at (vs := vs) (out := out.toArray) at1
  refine wpAny_pure ⟨_, rfl, h out h1.objs.size _ c hs hb (fun b o q => ?_) big hc'⟩
  obtain ⟨n1, q1⟩ := keep b o q
  rw [sortedHeap_old n1 (Heap.lt_size q1)]
  exact q1
end
theorem tup_keep {h h' : Heap} (k : ∀ b o, h.get? b = some o → h'.get? b = some o) (a : Addr) (items : Array Value) (x : h.IsTuple a items) : h'.IsTuple a items := by
  obtain ⟨o, e, r⟩ := x
  exact ⟨o, k _ _ e, r⟩
/-- the datum that a value stands for (none of it: a datum all the same) -/
noncomputable def keyAt (h : Heap) (n : Nat) (v : Value) : D := open Classical in if q : ∃ d, Rv h n d v then Classical.choose q else (match n with | 0 => .int 0 | _ => .tup [])
theorem keyAt_rv {h : Heap} {n : Nat} {v : Value} {d : D} (r : Rv h n d v) : keyAt h n v = d := by
  unfold keyAt
  rw [dif_pos ⟨d, r⟩]
  exact rv_inj n _ _ v (Classical.choose_spec (p := fun d => Rv h n d v) ⟨d, r⟩) r
theorem keyAt_lv (h : Heap) (n : Nat) (v : Value) : isLv n (keyAt h n v) = true := by
  unfold keyAt
  by_cases q : ∃ d, Rv h n d v
  · rw [dif_pos q]
    exact rv_lv n _ v (Classical.choose_spec q)
  · rw [dif_neg q]
    cases n <;> rfl
noncomputable def ltAt (h : Heap) (n : Nat) (v u : Value) : Bool := ltLv n (keyAt h n v) (keyAt h n u)
theorem swo_at (h : Heap) (n : Nat) : Swo (ltAt h n) :=
  ⟨fun x y z => (ordLv n).asym _ _ (keyAt_lv h n x) (keyAt_lv h n y) z, fun x y z a b => ntr (ordLv n) (keyAt_lv h n x) (keyAt_lv h n y) (keyAt_lv h n z) a b⟩
theorem all2_mem {R : D → Value → Prop} : ∀ {ds : List D} {vs : List Value}, All2 R ds vs → ∀ v ∈ vs, ∃ d ∈ ds, R d v
  | [], [], _, v, hv => by cases hv
  | [], _ :: _, h, _, _ => h.elim
  | _ :: _, [], h, _, _ => h.elim
  | d :: ds, u :: vs, h, v, hv => by
    rcases List.mem_cons.mp hv with e | e
    · rw [e]
      exact ⟨d, List.mem_cons_self, h.1⟩
    · obtain ⟨d', h1, h2⟩ := all2_mem h.2 v e
      exact ⟨d', List.mem_cons_of_mem _ h1, h2⟩
theorem all2_keys {h : Heap} {n : Nat} : ∀ {ds : List D} {vs : List Value}, All2 (Rv h n) ds vs → vs.map (keyAt h n) = ds
  | [], [], _ => rfl
  | [], _ :: _, h => h.elim
  | _ :: _, [], h => h.elim
  | d :: ds, v :: vs, r => by rw [List.map_cons, keyAt_rv r.1, all2_keys r.2]
theorem sortable_at {prog : Program} {w : World} {A : Around} {s : Shared} {h0 : Heap} {n : Nat} {a : Addr} {ds : List D} {vs : List Value} (hu : A.units + n < cLine) (r : All2 (Rv h0 n) ds vs) (h2 : 2 ≤ vs.length) (c : n = 0 ∨ (ds.all fun d => match d with | .tup [] => false | _ => true) = true)
    (k : ∀ b o, h0.get? b = some o → b ≠ a ∧ s.heap.get? b = some o) : SortableO prog w A s a vs (ltAt h0 n) := by
  intro h' k'
  have kk : ∀ b o, h0.get? b = some o → h'.get? b = some o := fun b o e => k' b o (k b o e).1 (k b o e).2
  have r' : ∀ {ds : List D} {vs : List Value}, All2 (Rv h0 n) ds vs → All2 (Rv h' n) ds vs := by
    intro ds
    induction ds with
    | nil => exact fun {vs} r => by cases vs with | nil => trivial | cons _ _ => exact r.elim
    | cons d ds ih =>
      intro vs r
      cases vs with
      | nil => exact r.elim
      | cons v vs => exact ⟨rv_keep (tup_keep kk) n d v r.1, ih r.2⟩
  refine ⟨kindLv n, fun Q E q => lv_kind (s := { s with heap := h' }) n (r' r) h2 c q, fun p q hp hq => ?_⟩
  obtain ⟨d, _, rd⟩ := all2_mem r p.1 hp
  obtain ⟨e, _, re⟩ := all2_mem r q.1 hq
  refine lv_key (s := { s with heap := h' }) n hu (rv_keep (tup_keep kk) n d _ rd) (rv_keep (tup_keep kk) n e _ re) ⟨rfl, ?_⟩
  show ltLv n d e = ltLv n (keyAt h0 n p.1) (keyAt h0 n q.1)
  rw [keyAt_rv rd, keyAt_rv re]
/-- values back -/
def toV : Value → V
  | .int i _ => .int i
  | .ref a => .ref a
  | _ => .non
section
variable {X : Cx} {pins : List (Addr × Obj)} {σ : L2.St} {H : Hp} {s : Shared} {B : Addr → Prop}
theorem rv_of (I : L2.Inv X pins σ H s) : ∀ (n : Nat) {d : D} {x : V} {v : Value}, isLv n d = true → Rel (tx X) B H d x → RelV x v → Rv s.heap n d v ∧ x = toV v
  | 0, d, x, v, l, r, rv => by
    obtain ⟨i, rfl⟩ := lv0 l
    have e : x = .int i := r
    subst e
    obtain ⟨t, rfl⟩ := (show ∃ t, v = Value.int i t from rv)
    exact ⟨⟨t, rfl⟩, rfl⟩
  | n + 1, d, x, v, l, r, rv => by
    obtain ⟨ds, rfl, hl⟩ := lvS l
    obtain ⟨a, xs, rfl, h1, h2⟩ := r
    have e : v = .ref a := rv
    subst e
    obtain ⟨its, rr, ⟨o, ho, hc, k, hd⟩, _⟩ := I.tuple h1.sq
    have all : ∀ (ds : List D) (xs : List V) (vs : List Value), ds.all (isLv n) = true → RelL (tx X) B H ds xs → Vals xs vs → All2 (Rv s.heap n) ds vs := by
      intro ds
      induction ds with
      | nil =>
        intro xs vs _ r rv
        cases xs with
        | cons _ _ => exact r.elim
        | nil =>
          cases rv
          trivial
      | cons d ds ih =>
        intro xs vs l r rv
        cases xs with
        | nil => exact r.elim
        | cons x xs =>
          cases rv with
          | cons r1 r2 =>
            obtain ⟨l1, l2⟩ := all_cons l
            exact ⟨(rv_of I n l1 r.1 r1).1, ih _ _ l2 r.2 r2⟩
    exact ⟨⟨a, its.toArray, rfl, ⟨o, ho, hc, k, hd⟩, by simpa using all ds xs its hl h2 rr⟩, rfl⟩
theorem rvs_of (I : L2.Inv X pins σ H s) (n : Nat) : ∀ {ds : List D} {xs : List V} {vs : List Value}, ds.all (isLv n) = true → RelL (tx X) B H ds xs → Vals xs vs → All2 (Rv s.heap n) ds vs ∧ xs = vs.map toV ∧ ∀ v ∈ vs, RelV (toV v) v ∧ Rel (tx X) B H (keyAt s.heap n v) (toV v)
  | [], [], _, _, _, .nil => ⟨trivial, rfl, fun v h => by cases h⟩
  | [], _ :: _, _, _, h, _ => h.elim
  | _ :: _, [], _, _, h, _ => h.elim
  | d :: ds, x :: xs, v :: vs, l, r, .cons r1 r2 => by
    obtain ⟨l1, l2⟩ := all_cons l
    obtain ⟨a1, a2⟩ := rv_of I n l1 r.1 r1
    obtain ⟨b1, b2, b3⟩ := rvs_of I n l2 r.2 r2
    refine ⟨⟨a1, b1⟩, by rw [List.map_cons, ← a2, ← b2], fun u hu => ?_⟩
    rcases List.mem_cons.mp hu with e | e
    · rw [e, ← a2, keyAt_rv a1]
      exact ⟨r1, r.1⟩
    · exact b3 u e
end
theorem vals_map : ∀ (vs : List Value), (∀ v ∈ vs, RelV (toV v) v) → Vals (vs.map toV) vs
  | [], _ => .nil
  | v :: vs, h => .cons (h v List.mem_cons_self) (vals_map vs fun u hu => h u (List.mem_cons_of_mem _ hu))
theorem relL_map {T : Tx} {B : Addr → Prop} {H : Hp} {f : Value → D} : ∀ (vs : List Value), (∀ v ∈ vs, Rel T B H (f v) (toV v)) → RelL T B H (vs.map f) (vs.map toV)
  | [], _ => trivial
  | v :: vs, h => ⟨h v List.mem_cons_self, relL_map vs fun u hu => h u (List.mem_cons_of_mem _ hu)⟩
/-- the level of a list's items, where sorted can be asked -/
def lvOf (ds : List D) : Option Nat := if ds.all (isLv 0) = true then some 0 else
  if (ds.length.blt 2 || ds.all fun d => match d with | .tup [] => false | _ => true) = true then (if ds.all (isLv 1) = true then some 1 else if ds.all (isLv 2) = true then some 2 else if ds.all (isLv 3) = true then some 3 else none) else none
theorem lvOf_some {ds : List D} {n : Nat} (h : lvOf ds = some n) : ds.all (isLv n) = true ∧ n ≤ 3 ∧ (2 ≤ ds.length → n = 0 ∨ (ds.all fun d => match d with | .tup [] => false | _ => true) = true) := by
  unfold lvOf at h
  by_cases c0 : ds.all (isLv 0) = true
  · rw [if_pos c0] at h
    have e := Option.some.inj h
    subst e
    exact ⟨c0, by decide, fun _ => .inl rfl⟩
  · rw [if_neg c0] at h
    by_cases c : (ds.length.blt 2 || ds.all fun d => match d with | .tup [] => false | _ => true) = true
    · rw [if_pos c] at h
      have short : 2 ≤ ds.length → n = 0 ∨ (ds.all fun d => match d with | .tup [] => false | _ => true) = true := fun q => by
        rcases Bool.or_eq_true_iff.mp c with z | z
        · have := Nat.le_of_ble_eq_true z
          omega
        · exact .inr z
      by_cases c1 : ds.all (isLv 1) = true
      · rw [if_pos c1] at h
        have e := Option.some.inj h
        subst e
        exact ⟨c1, by decide, short⟩
      · rw [if_neg c1] at h
        by_cases c2 : ds.all (isLv 2) = true
        · rw [if_pos c2] at h
          have e := Option.some.inj h
          subst e
          exact ⟨c2, by decide, short⟩
        · rw [if_neg c2] at h
          by_cases c3 : ds.all (isLv 3) = true
          · rw [if_pos c3] at h
            have e := Option.some.inj h
            subst e
            exact ⟨c3, by decide, short⟩
          · rw [if_neg c3] at h
            cases h
    · rw [if_neg c] at h
      cases h
def sortD (d : D) : Option D := match d with
  | .lst ds => (lvOf ds).map fun n => .lst (isort (ltLv n) ds)
  | .tup ds => (lvOf ds).map fun n => .lst (isort (ltLv n) ds)
  | _ => none
def rSortedD (X : Cx) : List V → Hp → VK → Prop := fun vs H Q => ∃ (a : Addr) (xs : List V) (ds : List D) (n : Nat) (B : Addr → Prop), vs = [V.ref a] ∧ (SqL X.K H a xs ∨ SqT X.K H a xs) ∧ RelL (tx X) B H ds xs ∧ lvOf ds = some n ∧
  ∀ (ys : List V) (p : Addr), RelL (tx X) B H (isort (ltLv n) ds) ys → H p = none → Q (.ref p) (upd H p (.lst ys))
section
variable {X : Cx}
theorem cr_sortedD (hu : X.A.units + 64 < cLine) : CallR X (.builtin "sorted") (rSortedD X) := by
  intro pins s σ H vs us Q I r h
  obtain ⟨a, xs, ds, n, B, rfl, hs, hr, hl, q⟩ := h
  rw [Vals.ref1 r]
  obtain ⟨l1, l2, l3⟩ := lvOf_some hl
  have seen : ∃ (its : List Value) (T : String) (o : Obj) (k : Nat), Vals xs its ∧ (T = "list" ∨ T = "tuple") ∧ s.heap.get? a = some o ∧ o.cls = .type T ∧ o.data = .seq its.toArray k ∧ its.length ≤ sizeLine := by
    rcases hs with hs | hs
    · obtain ⟨its, rv, hp, hz⟩ := I.list hs
      obtain ⟨o, e1, e2, k, e3⟩ := hp.isList
      exact ⟨its, "list", o, k, rv, .inl rfl, e1, e2, e3, by rw [← rv.length]; exact hz⟩
    · obtain ⟨its, rv, ⟨o, e1, e2, k, e3⟩, hz⟩ := I.tuple hs
      exact ⟨its, "tuple", o, k, rv, .inr rfl, e1, e2, e3, by rw [← rv.length]; exact hz⟩
  obtain ⟨its, T, o, k, rv, hT, ho, hc, hd, hz⟩ := seen
  obtain ⟨a1, a2, a3⟩ := rvs_of I n l1 hr rv
  have len : ds.length = its.length := a1.len
  refine sorted_seq (swo_at s.heap n) hT ho hc hd hz (fun h2 h1 b _ kp => sortable_at (h0 := s.heap) (ds := ds) (by show X.A.units + 1 + 1 + n < _; omega) a1 h2 (l3 (by omega)) kp) fun out p h' c srt stb keep big at_ => ?_
  have perm : out.Perm its := stb.perm
  have rel : ∀ v ∈ out, RelV (toV v) v ∧ Rel (tx X) B H (keyAt s.heap n v) (toV v) := fun v hv => a3 v (perm.mem_iff.mp hv)
  have keys : out.map (keyAt s.heap n) = isort (ltLv n) ds := by
    refine isort_uniq (ordLv n) l1 ?_ (List.pairwise_map.mpr srt)
    rw [← all2_keys a1]
    exact perm.map _
  have rl := relL_map (f := keyAt s.heap n) out fun v hv => (rel v hv).2
  rw [keys] at rl
  have lenO : (out.map toV).length ≤ sizeLine := by
    rw [List.length_map, perm.length_eq]
    exact hz
  have hp : H p = none := I.hok.fresh big
  exact ⟨.ref p, upd H p (.lst (out.map toV)), I.laid (t' := s.toks) keep big ⟨lenO, out, c, vals_map out fun v hv => (rel v hv).1, at_⟩, rfl, q _ p rl hp⟩
theorem pu_sorted : Pure1F X (r1N (rSortedD X)) sortD := by
  intro B H x d z Q w r h q
  cases d with
  | lst ds =>
    obtain ⟨n, e1, e2⟩ := Option.map_eq_some_iff.mp h
    obtain ⟨a, vs, rfl, h1, h2⟩ := r
    exact ⟨a, vs, ds, n, B, rfl, .inl (SqL.of h1), h2, e1, fun ys p ry hp => q p ys _ e2.symm hp ry⟩
  | tup ds =>
    obtain ⟨n, e1, e2⟩ := Option.map_eq_some_iff.mp h
    obtain ⟨a, vs, rfl, h1, h2⟩ := r
    exact ⟨a, vs, ds, n, B, rfl, .inr h1.sq, h2, e1, fun ys p ry hp => q p ys _ e2.symm hp ry⟩
  | _ => cases h
end
end DL

set_option Elab.async false
set_option linter.all false
set_option maxRecDepth 100000
set_option maxHeartbeats 4000000
/-! in, is None, set(..), < of tuples, isinstance, slices, truth -/
namespace DL
open PySem PySem.Spec L2

/-! ### is None -/
section
variable {X : Cx}
def isNone (d e : D) : Option D := match e with
  | .non => isN d
  | _ => none
def notNone (d e : D) : Option D := match e with
  | .non => match d with
    | .non => some (.bl false)
    | _ => some (.bl true)
  | _ => none
theorem pu_isN : Pure2 X (fun x y H Q => y = .non ∧ Q (.bl (decide (x = .non))) H) isNone := by
  intro B H x y d e z Q _ r1 r2 h q
  cases e with
  | non =>
    have h' : isN d = some z := h
    rw [rel_non r1] at h'
    have e := Option.some.inj h'
    subst e
    exact ⟨r2, q H _ (Same.refl H) rfl⟩
  | _ => cases h
theorem pu_notN : Pure2 X (fun x y H Q => y = .non ∧ Q (.bl (!decide (x = .non))) H) notNone := by
  intro B H x y d e z Q _ r1 r2 h q
  cases e with
  | non =>
    have k := rel_non r1
    refine ⟨r2, q H _ (Same.refl H) ?_⟩
    cases d with
    | non =>
      have e1 := Option.some.inj (show some (D.bl false) = some z from h)
      have e2 := D.bl.inj (Option.some.inj (show some (D.bl true) = some (D.bl (decide (x = .non))) from k))
      rw [← e1, ← e2]
      rfl
    | _ =>
      have e1 := Option.some.inj (show some (D.bl true) = some z from h)
      have e2 := D.bl.inj (Option.some.inj (show some (D.bl false) = some (D.bl (decide (x = .non))) from k))
      rw [← e1, ← e2]
      rfl
  | _ => cases h

/-! ### in -/
def rInSt (K : PySem.W.Frag) (P : Program) (w : World) (neg : Bool) : R2 := fun x y H Q => ∃ b k a L, x = .ref b ∧ y = .ref a ∧ SqT K H b (k.map V.int) ∧ H a = some (SetTO P w a L) ∧ (∀ p ∈ L, SqT K H p.1 (p.2.map V.int)) ∧ Q (.bl (neg != decide (k ∈ L.map (·.2)))) H
theorem op_inSt (hu : X.A.units + 65 < cLine) : OpR X (compareOp .In) (rInSt X.K X.prog X.w false) := by
  intro pins s σ H x y v u Q I rx ry h
  obtain ⟨b, k, a, L, rfl, rfl, hb, ha, hL, q⟩ := h
  cases rx
  cases ry
  have R0 : SetT0 X.prog X.w s.heap a L := (I.hok a _ ha).1
  obtain ⟨es, ep, t, R⟩ := R0.full fun p hp => I.isT (hL p hp)
  show wpAny _ _ (do return Value.bool (← contains (.ref a) (.ref b))) _ _ s
  refine wpAny_bind (contains_set R (I.isT hb) (by omega) fun tk => wpAny_pure ⟨.bl (decide (k ∈ List.map (fun p : Addr × List Int => p.2) L)), H, I.tok tk, rfl, ?_⟩)
  have e : (false != decide (k ∈ L.map (·.2))) = decide (k ∈ L.map (·.2)) := by cases decide (k ∈ L.map (·.2)) <;> rfl
  rw [e] at q
  exact q
theorem op_notInSt (hu : X.A.units + 65 < cLine) : OpR X (compareOp .NotIn) (rInSt X.K X.prog X.w true) := by
  intro pins s σ H x y v u Q I rx ry h
  obtain ⟨b, k, a, L, rfl, rfl, hb, ha, hL, q⟩ := h
  cases rx
  cases ry
  have R0 : SetT0 X.prog X.w s.heap a L := (I.hok a _ ha).1
  obtain ⟨es, ep, t, R⟩ := R0.full fun p hp => I.isT (hL p hp)
  show wpAny _ _ (do return Value.bool (!(← contains (.ref a) (.ref b)))) _ _ s
  refine wpAny_bind (contains_set R (I.isT hb) (by omega) fun tk => wpAny_pure ⟨.bl (!decide (k ∈ List.map (fun p : Addr × List Int => p.2) L)), H, I.tok tk, rfl, ?_⟩)
  have e : (true != decide (k ∈ L.map (·.2))) = !decide (k ∈ L.map (·.2)) := by cases decide (k ∈ L.map (·.2)) <;> rfl
  rw [e] at q
  exact q
def rInA (X : Cx) : R2 := fun x y H Q => (rInSt X.K X.prog X.w false x y H Q ∨ rInD X.K x y H Q) ∨ rInT X.K x y H Q
def rNotInA (X : Cx) : R2 := fun x y H Q => (rInSt X.K X.prog X.w true x y H Q ∨ rNotInD X.K x y H Q) ∨ rNotInT X.K x y H Q
theorem op_inA (hu : X.A.units + 65 < cLine) : OpR X (compareOp .In) (rInA X) := ((op_inSt hu).or (op_inD hu)).or (op_inT hu)
theorem op_notInA (hu : X.A.units + 65 < cLine) : OpR X (compareOp .NotIn) (rNotInA X) := ((op_notInSt hu).or (op_notInD hu)).or (op_notInT hu)
theorem ints_rel {T : Tx} {B : Addr → Prop} {H : Hp} : ∀ {ds : List D} {ks : List Int} {vs : List V}, intsD ds = some ks → RelL T B H ds vs → vs = ks.map V.int
  | [], ks, vs, e, r => by
    have e' := Option.some.inj e
    subst e'
    cases vs with
    | nil => rfl
    | cons _ _ => exact r.elim
  | d :: ds, ks, vs, e, r => by
    cases d with
    | int i =>
      obtain ⟨k2, e1, rfl⟩ := Option.map_eq_some_iff.mp (show (intsD ds).map (fun r => i :: r) = some ks from e)
      cases vs with
      | nil => exact r.elim
      | cons v vs =>
        have e2 : v = .int i := r.1
        rw [e2, ints_rel e1 r.2]
        rfl
    | _ => cases e
theorem intsOf_tup {d : D} {ks : List Int} (h : intsOf d = some ks) : ∃ l, d = .tup l ∧ intsD l = some ks := by
  cases d with
  | tup l => exact ⟨l, rfl, h⟩
  | _ => cases h
theorem in_set {B : Addr → Prop} {H : Hp} {d : D} {l : List (List Int)} {ks : List Int} {x y : V} (h : intsOf d = some ks) (r1 : Wk (tx X) B H d x) (r2 : Wk (tx X) B H (.set l) y) : ∃ b a L, x = .ref b ∧ y = .ref a ∧ SqT X.K H b (ks.map V.int) ∧ H a = some (SetTO X.prog X.w a L) ∧ (∀ p ∈ L, SqT X.K H p.1 (p.2.map V.int)) ∧ l.contains ks = decide (ks ∈ L.map (·.2)) := by
  obtain ⟨m, rfl, hm⟩ := intsOf_tup h
  obtain ⟨b, vs, rfl, h1, h2⟩ := r1
  obtain ⟨a, L, rfl, g1, _, g2, g3⟩ := r2
  have e := ints_rel hm h2
  subst e
  refine ⟨b, a, L, rfl, rfl, h1.sq, g1, fun p hp => (g2 p hp).sq, ?_⟩
  rw [Bool.eq_iff_iff, List.contains_iff_mem, decide_eq_true_eq]
  exact (g3 ks).symm
theorem pu_in : Pure2 X (rInA X) inD := by
  intro B H x y d e z Q _ r1 r2 h q
  obtain ⟨b, e1, rfl⟩ := Option.map_eq_some_iff.mp h
  cases e with
  | set l =>
    obtain ⟨ks, f1, f2⟩ := Option.map_eq_some_iff.mp (show (intsOf d).map (fun k => l.contains k) = some b from e1)
    obtain ⟨b', a, L, rfl, rfl, g1, g2, g3, g4⟩ := in_set f1 r1 r2
    refine .inl (.inl ⟨b', ks, a, L, rfl, rfl, g1, g2, g3, ?_⟩)
    have e : (false != decide (ks ∈ L.map (·.2))) = b := by
      rw [← f2, g4]
      cases decide (ks ∈ L.map (·.2)) <;> rfl
    rw [e]
    exact q H _ (Same.refl H) rfl
  | lst ds =>
    obtain ⟨c, f2⟩ := ite_some (show (if (okF 12 d && ds.all (okF 12)) = true then some (ds.any fun z => eqF 12 z d) else none) = some b from e1)
    obtain ⟨c1, c2⟩ := Bool.and_eq_true_iff.mp c
    obtain ⟨p, a1, a2⟩ := okF_shaped (by decide) c1
    obtain ⟨p2, b1, b2⟩ := okF_shaped (n := 13) (d := .lst ds) (by decide) c2
    obtain ⟨ps, b3, rfl⟩ := Option.map_eq_some_iff.mp (show (toPL ds).map .list = some p2 from b1)
    refine .inl (.inr ⟨p, ps, wk_dp a1 r1, wk_dp b1 r2, a2, b2, ?_⟩)
    rw [← any_eqv c1 a1 c2 b3, f2]
    exact q H _ (Same.refl H) rfl
  | tup ds =>
    obtain ⟨c, f2⟩ := ite_some (show (if (okF 12 d && ds.all (okF 12)) = true then some (ds.any fun z => eqF 12 z d) else none) = some b from e1)
    obtain ⟨c1, c2⟩ := Bool.and_eq_true_iff.mp c
    obtain ⟨p, a1, a2⟩ := okF_shaped (by decide) c1
    obtain ⟨p2, b1, b2⟩ := okF_shaped (n := 13) (d := .tup ds) (by decide) c2
    obtain ⟨ps, b3, rfl⟩ := Option.map_eq_some_iff.mp (show (toPL ds).map .tuple = some p2 from b1)
    refine .inr ⟨p, ps, wk_dp a1 r1, wk_dp b1 r2, a2, b2, ?_⟩
    rw [← any_eqv c1 a1 c2 b3, f2]
    exact q H _ (Same.refl H) rfl
  | _ => cases e1
theorem pu_notIn : Pure2 X (rNotInA X) notInD := by
  intro B H x y d e z Q _ r1 r2 h q
  obtain ⟨b, e1, rfl⟩ := Option.map_eq_some_iff.mp h
  cases e with
  | set l =>
    obtain ⟨ks, f1, f2⟩ := Option.map_eq_some_iff.mp (show (intsOf d).map (fun k => l.contains k) = some b from e1)
    obtain ⟨b', a, L, rfl, rfl, g1, g2, g3, g4⟩ := in_set f1 r1 r2
    refine .inl (.inl ⟨b', ks, a, L, rfl, rfl, g1, g2, g3, ?_⟩)
    have e : (true != decide (ks ∈ L.map (·.2))) = !b := by
      rw [← f2, g4]
      cases decide (ks ∈ L.map (·.2)) <;> rfl
    rw [e]
    exact q H _ (Same.refl H) rfl
  | lst ds =>
    obtain ⟨c, f2⟩ := ite_some (show (if (okF 12 d && ds.all (okF 12)) = true then some (ds.any fun z => eqF 12 z d) else none) = some b from e1)
    obtain ⟨c1, c2⟩ := Bool.and_eq_true_iff.mp c
    obtain ⟨p, a1, a2⟩ := okF_shaped (by decide) c1
    obtain ⟨p2, b1, b2⟩ := okF_shaped (n := 13) (d := .lst ds) (by decide) c2
    obtain ⟨ps, b3, rfl⟩ := Option.map_eq_some_iff.mp (show (toPL ds).map .list = some p2 from b1)
    refine .inl (.inr ⟨p, ps, wk_dp a1 r1, wk_dp b1 r2, a2, b2, ?_⟩)
    rw [← any_eqv c1 a1 c2 b3, f2]
    exact q H _ (Same.refl H) rfl
  | tup ds =>
    obtain ⟨c, f2⟩ := ite_some (show (if (okF 12 d && ds.all (okF 12)) = true then some (ds.any fun z => eqF 12 z d) else none) = some b from e1)
    obtain ⟨c1, c2⟩ := Bool.and_eq_true_iff.mp c
    obtain ⟨p, a1, a2⟩ := okF_shaped (by decide) c1
    obtain ⟨p2, b1, b2⟩ := okF_shaped (n := 13) (d := .tup ds) (by decide) c2
    obtain ⟨ps, b3, rfl⟩ := Option.map_eq_some_iff.mp (show (toPL ds).map .tuple = some p2 from b1)
    refine .inr ⟨p, ps, wk_dp a1 r1, wk_dp b1 r2, a2, b2, ?_⟩
    rw [← any_eqv c1 a1 c2 b3, f2]
    exact q H _ (Same.refl H) rfl
  | _ => cases e1

/-! ### set(a tuple of tuples of ints) -/
def keysD : List D → Option (List (List Int))
  | [] => some []
  | d :: ds => match intsOf d with
    | some k => (keysD ds).map fun r => k :: r
    | none => none
def setD (d : D) : Option D := match d with
  | .tup ds => if ds.length.blt 64 = true then (keysD ds).map .set else none
  | _ => none
def rSetOfTu (X : Cx) : List V → Hp → VK → Prop := fun xs H Q => ∃ (l : Addr) (ks : List (Addr × List Int)), xs = [V.ref l] ∧ SqT X.K H l (ks.map fun p => V.ref p.1) ∧ (∀ p ∈ ks, SqT X.K H p.1 (p.2.map V.int)) ∧ ks.length < 64 ∧
  ∀ a L, H a = none → (∀ p ∈ L, p ∈ ks) → (∀ p ∈ ks, p.2 ∈ L.map (·.2)) → Q (.ref a) (upd H a (SetTO X.prog X.w a L))
theorem cr_setOfTu (hc : X.calm = true) (hu : X.A.units + 64 < cLine) : CallR X (.type "set") (rSetOfTu X) := by
  intro pins s σ H xs us Q I r h
  obtain ⟨l, ks, rfl, hl, hk, hf, q⟩ := h
  rw [Vals.ref1 r]
  obtain ⟨its, rv, isT, _⟩ := I.tuple hl
  have fresh : H s.heap.objs.size = none := I.hok.fresh (Nat.le_refl _)
  have refs : its.toArray.toList = ks.map fun p => Value.ref p.1 := by simpa using refs_of_vals rv
  refine call_set_of_tuple (P := X.prog) (w := X.w) ks (I.ok.hd hc) isT refs (fun p hp => I.isT (hk p hp)) hf (by omega) fun h' tk L es ep t R g k => ?_
  refine ⟨.ref s.heap.objs.size, upd H s.heap.objs.size (SetTO X.prog X.w s.heap.objs.size L), I.laid (t' := tk) k (Nat.le_refl _) (setTO_new R.t0), rfl, ?_⟩
  exact q _ L fresh (fun p hp => List.mem_of_mem_take (g.sub p hp)) fun p hp => g.all p (by rw [List.take_length]; exact hp)
theorem keys_rel {B : Addr → Prop} {H : Hp} : ∀ {ds : List D} {kl : List (List Int)} {vs : List V}, keysD ds = some kl → RelL (tx X) B H ds vs → ∃ ks : List (Addr × List Int), vs = ks.map (fun p => V.ref p.1) ∧ ks.map (·.2) = kl ∧ ∀ p ∈ ks, TupAt X.K B H p.1 (p.2.map V.int)
  | [], kl, vs, e, r => by
    have e' := Option.some.inj e
    subst e'
    cases vs with
    | nil => exact ⟨[], rfl, rfl, fun p h => by cases h⟩
    | cons _ _ => exact r.elim
  | d :: ds, kl, vs, e, r => by
    have e' : (match intsOf d with
      | some k => (keysD ds).map fun r => k :: r
      | none => none) = some kl := e
    cases q : intsOf d with
    | none =>
      rw [q] at e'
      cases e'
    | some k =>
      rw [q] at e'
      obtain ⟨kl2, e1, rfl⟩ := Option.map_eq_some_iff.mp e'
      cases vs with
      | nil => exact r.elim
      | cons v vs =>
        obtain ⟨ks, g1, g2, g3⟩ := keys_rel e1 r.2
        obtain ⟨m, rfl, hm⟩ := intsOf_tup q
        obtain ⟨b, ws, rfl, h1, h2⟩ := r.1
        have e2 := ints_rel hm h2
        subst e2
        refine ⟨(b, k) :: ks, by rw [g1] <;> rfl, by rw [List.map_cons, g2], fun p hp => ?_⟩
        rcases List.mem_cons.mp hp with z | z
        · rw [z]
          exact h1
        · exact g3 p z
theorem pu_set : Pure1 X (r1N (rSetOfTu X)) setD := by
  intro B H x d z Q w r h q
  cases d with
  | tup ds =>
    obtain ⟨c, e1⟩ : ds.length.blt 64 = true ∧ (keysD ds).map .set = some z := by
      have h' : (if ds.length.blt 64 = true then (keysD ds).map .set else none) = some z := h
      by_cases c : ds.length.blt 64 = true
      · rw [if_pos c] at h'
        exact ⟨c, h'⟩
      · rw [if_neg c] at h'
        cases h'
    obtain ⟨kl, e2, rfl⟩ := Option.map_eq_some_iff.mp e1
    obtain ⟨l, vs, rfl, h1, h2⟩ := r
    obtain ⟨ks, g1, g2, g3⟩ := keys_rel e2 h2
    subst g1
    have few : ks.length < 64 := by
      have l2 := h2.length
      rw [List.length_map] at l2
      rw [← l2]
      exact Nat.le_of_ble_eq_true c
    refine ⟨l, ks, rfl, h1.sq, fun p hp => (g3 p hp).sq, few, fun a L ha s1 s2 => q _ _ (Same.upd ha) ⟨a, L, rfl, upd_same, fresh_bar w ha, fun p hp => (g3 p (s1 p hp)).ext (.same (Same.upd ha)), fun k => ?_⟩⟩
    rw [← g2]
    constructor
    · intro hk
      obtain ⟨p, hp, e⟩ := List.mem_map.mp hk
      exact List.mem_map.mpr ⟨p, s1 p hp, e⟩
    · intro hk
      obtain ⟨p, hp, e⟩ := List.mem_map.mp hk
      rw [← e]
      exact s2 p hp
  | _ => cases h

/-! ### < of tuples -/
def lvPair (d e : D) : Option Nat := if (isLv 0 d && isLv 0 e) = true then some 0 else if (isLv 1 d && isLv 1 e) = true then some 1 else if (isLv 2 d && isLv 2 e) = true then some 2 else if (isLv 3 d && isLv 3 e) = true then some 3 else none
theorem lvPair_some {d e : D} {n : Nat} (h : lvPair d e = some n) : isLv n d = true ∧ isLv n e = true ∧ n ≤ 3 := by
  unfold lvPair at h
  by_cases c0 : (isLv 0 d && isLv 0 e) = true
  · rw [if_pos c0] at h
    have e := Option.some.inj h
    subst e
    exact ⟨(Bool.and_eq_true_iff.mp c0).1, (Bool.and_eq_true_iff.mp c0).2, by decide⟩
  · rw [if_neg c0] at h
    by_cases c1 : (isLv 1 d && isLv 1 e) = true
    · rw [if_pos c1] at h
      have e := Option.some.inj h
      subst e
      exact ⟨(Bool.and_eq_true_iff.mp c1).1, (Bool.and_eq_true_iff.mp c1).2, by decide⟩
    · rw [if_neg c1] at h
      by_cases c2 : (isLv 2 d && isLv 2 e) = true
      · rw [if_pos c2] at h
        have e := Option.some.inj h
        subst e
        exact ⟨(Bool.and_eq_true_iff.mp c2).1, (Bool.and_eq_true_iff.mp c2).2, by decide⟩
      · rw [if_neg c2] at h
        obtain ⟨c3, e⟩ := ite_some h
        subst e
        exact ⟨(Bool.and_eq_true_iff.mp c3).1, (Bool.and_eq_true_iff.mp c3).2, by decide⟩
def ltD (d e : D) : Option D := (lvPair d e).map fun n => .bl (ltLv n d e)
def rLtD (X : Cx) : R2 := fun x y H Q => ∃ (B : Addr → Prop) (d e : D) (n : Nat), Rel (tx X) B H d x ∧ Rel (tx X) B H e y ∧ lvPair d e = some n ∧ Q (.bl (ltLv n d e)) H
theorem op_ltD (hu : X.A.units + 64 < cLine) : OpR X (compareOp .Lt) (rLtD X) := by
  intro pins s σ H x y v u Q I rx ry h
  obtain ⟨B, d, e, n, r1, r2, l, q⟩ := h
  obtain ⟨l1, l2, l3⟩ := lvPair_some l
  exact rv_lt n X.A d e v u (by omega) (rv_of I n l1 r1 rx).1 (rv_of I n l2 r2 ry).1 X.prog X.w _ _ ⟨.bl (ltLv n d e), H, I, rfl, q⟩
theorem lv_wk {B : Addr → Prop} {H : Hp} {n : Nat} {d : D} {x : V} (l : isLv n d = true) (r : Wk (tx X) B H d x) : Rel (tx X) B H d x := by
  cases d with
  | lst _ => cases n <;> cases l
  | obj _ _ _ => cases n <;> cases l
  | dic _ _ _ => cases n <;> cases l
  | _ => exact r
theorem pu_lt : Pure2 X (rLtD X) ltD := by
  intro B H x y d e z Q _ r1 r2 h q
  obtain ⟨n, e1, rfl⟩ := Option.map_eq_some_iff.mp h
  obtain ⟨l1, l2, _⟩ := lvPair_some e1
  exact ⟨B, d, e, n, lv_wk l1 r1, lv_wk l2 r2, e1, q H _ (Same.refl H) rfl⟩
end
end DL

set_option Elab.async false
set_option linter.all false
set_option maxRecDepth 100000
set_option maxHeartbeats 4000000
/-! isinstance, slices, truth -/
namespace DL
open PySem PySem.Spec L2

/-! ### isinstance -/
inductive Ty5 where
  | int | bool | str | list | tuple
def Ty5.nm : Ty5 → String
  | .int => "int"
  | .bool => "bool"
  | .str => "str"
  | .list => "list"
  | .tuple => "tuple"
def isaTy : Ty5 → D → Option Bool
  | .int, .int _ => some true
  | .int, .bl _ => some true
  | .bool, .bl _ => some true
  | .str, .str _ => some true
  | .list, .lst _ => some true
  | .list, .scr _ => some true
  | .tuple, .tup _ => some true
  | _, .non => some false
  | _, .bl _ => some false
  | _, .int _ => some false
  | _, .str _ => some false
  | _, .tup _ => some false
  | _, .lst _ => some false
  | _, _ => none
def tyStr : D → Option String
  | .non => some "NoneType"
  | .bl _ => some "bool"
  | .int _ => some "int"
  | .str _ => some "str"
  | .tup _ => some "tuple"
  | .lst _ => some "list"
  | _ => none
theorem ty_wk {T : Tx} {B : Addr → Prop} {H : Hp} {d : D} {x : V} {t : String} (h : tyStr d = some t) (r : Wk T B H d x) : TyX T.K H x (.type t) := by
  cases d with
  | non =>
    have e := Option.some.inj h
    rw [← e, show x = .non from r]
    exact .base .non
  | bl b =>
    have e := Option.some.inj h
    rw [← e, show x = .bl b from r]
    exact .base (.bl b)
  | int b =>
    have e := Option.some.inj h
    rw [← e, show x = .int b from r]
    exact .base (.int b)
  | str b =>
    have e := Option.some.inj h
    rw [← e, show x = .str (DL.nm b) from r]
    exact .base (.str (DL.nm b))
  | tup l =>
    have e := Option.some.inj h
    obtain ⟨a, vs, rfl, h1, h2⟩ := r
    rw [← e]
    rcases h1 with ⟨h1, _⟩ | ⟨o, its, n, h1, h2, h3, _⟩
    · exact .base (.tup h1)
    · exact .kTuple h1 h2
  | lst l =>
    have e := Option.some.inj h
    obtain ⟨a, vs, rfl, h1, h2⟩ := r
    rw [← e]
    exact .base (.lst h1)
  | _ => cases h
theorem isaTy_kit {K : PySem.W.Frag} {T : Ty5} {d : D} {b : Bool} {t : String} (h : isaTy T d = some b) (ht : tyStr d = some t) : PySem.W.kitOne K (.type t) (.type T.nm) = some b := by
  cases d with
  | obj _ _ _ => cases ht
  | set _ => cases ht
  | cls _ => cases ht
  | scr _ => cases ht
  | xc _ _ _ => cases ht
  | dic _ _ _ => cases ht
  | _ =>
    have e1 := Option.some.inj ht
    subst e1
    cases T <;> (have e2 := Option.some.inj h; subst e2; exact kit_ty (by decide +kernel))
def isa1 (T : Ty5) (d : D) : Option D := match tyStr d with
  | some _ => (isaTy T d).map .bl
  | none => none
def isa2 (T T' : Ty5) (d : D) : Option D := match tyStr d with
  | some _ => match isaTy T d with
    | some true => some (.bl true)
    | some false => (isaTy T' d).map .bl
    | none => none
  | none => none
section
variable {X : Cx} {Wx : WX} {ms : Ms} {a : Expr} {fa : M D} {p p1 p2 p3 pos : Pos}
theorem de_isa1 (T : Ty5) {x : Str} (ha : DK X Wx ms a fa) (hg : Gl X "isinstance") (hm : X.mg "isinstance" = none) (hgT : Gl X x) (hmT : X.mg x = none) (hv : bootBuiltins "isinstance" = some (.builtin "isinstance") := by first | rfl | kernel_rfl) (hvT : bootBuiltins x = some (.type T.nm) := by first | rfl | kernel_rfl)
    (hnT : x ≠ "__name__" := by decide) (hdT : (x == ("__debug__" : Str)) = false := by decide) (h1 : starEach [a, .Name x p1] X.env = (false, eval a X.env) :: starEach [.Name x p1] X.env := by rfl) (h2 : starEach [.Name x p1] X.env = (false, eval (.Name x p1) X.env) :: starEach [] X.env := by rfl)
    (hpl : (backTo pos (starEach [.Name x p1] X.env)).any (·.1) = false := by rfl) : DE X Wx ms (.Call (.Name "isinstance" p) [a, .Name x p1] [] pos) (op1 (isa1 T) fa) := fun B W env σ H Q o h =>
  PE.tm (pe_callB call_isi hg hm hv pa_tm (by decide) (by decide) h1 hpl) (PA.tm (pa_cons pe_tm (pa_cons (pe_bltn (v := .ty T.nm) hgT hmT hvT rfl hnT hdT) pa_nil h2) h1) (ha _ _ _ _ _ _ o (h.cont (k1 := rkW (tx X)) fun d env1 W1 H1 v n1 o1 r1 h3 => by
    obtain ⟨z, e1, h4⟩ := of_pos h3
    have e1' : (match tyStr d with
      | some _ => (isaTy T d).map .bl
      | none => none) = some z := e1
    cases q : tyStr d with
    | none =>
      rw [q] at e1'
      cases e1'
    | some t =>
      rw [q] at e1'
      obtain ⟨b, e2, rfl⟩ := Option.map_eq_some_iff.mp e1'
      exact ⟨v, .ty T.nm, .type t, .type T.nm, b, rfl, .ty _, ty_wk q r1, isaTy_kit e2 q, h4.done (v := V.bl b) o1 rfl⟩)))
theorem de_isa2 (T T' : Ty5) {x y : Str} {tx' : Nat} (ha : DK X Wx ms a fa) (hg : Gl X "isinstance") (hm : X.mg "isinstance" = none) (hgT : Gl X x) (hmT : X.mg x = none) (hgT' : Gl X y) (hmT' : X.mg y = none) (hv : bootBuiltins "isinstance" = some (.builtin "isinstance") := by first | rfl | kernel_rfl)
    (hvT : bootBuiltins x = some (.type T.nm) := by first | rfl | kernel_rfl) (hvT' : bootBuiltins y = some (.type T'.nm) := by first | rfl | kernel_rfl) (hnT : x ≠ "__name__" := by decide) (hdT : (x == ("__debug__" : Str)) = false := by decide) (hnT' : y ≠ "__name__" := by decide) (hdT' : (y == ("__debug__" : Str)) = false := by decide)
    (h1 : starEach [a, .Tuple [.Name x p1, .Name y p2] tx' p3] X.env = (false, eval a X.env) :: starEach [.Tuple [.Name x p1, .Name y p2] tx' p3] X.env := by rfl) (h2 : starEach [.Tuple [.Name x p1, .Name y p2] tx' p3] X.env = (false, eval (.Tuple [.Name x p1, .Name y p2] tx' p3) X.env) :: starEach [] X.env := by rfl)
    (h3 : starEach [.Name x p1, .Name y p2] X.env = (false, eval (.Name x p1) X.env) :: starEach [.Name y p2] X.env := by rfl) (h4 : starEach [.Name y p2] X.env = (false, eval (.Name y p2) X.env) :: starEach [] X.env := by rfl)
    (hpl : (backTo pos (starEach [.Tuple [.Name x p1, .Name y p2] tx' p3] X.env)).any (·.1) = false := by rfl) : DE X Wx ms (.Call (.Name "isinstance" p) [a, .Tuple [.Name x p1, .Name y p2] tx' p3] [] pos) (op1 (isa2 T T') fa) := fun B W env σ H Q o h =>
  PE.tm (pe_callB call_isiT hg hm hv pa_tm (by decide) (by decide) h1 hpl) (PA.tm (pa_cons pe_tm (pa_cons (pe_tup (pa_cons (pe_bltn (v := .ty T.nm) hgT hmT hvT rfl hnT hdT) (pa_cons (pe_bltn (v := .ty T'.nm) hgT' hmT' hvT' rfl hnT' hdT') pa_nil h4) h3)) pa_nil h2) h1) (ha _ _ _ _ _ _ o (h.cont (k1 := rkW (tx X)) fun d env1 W1 H1 v n1 o1 r1 h5 => by
    obtain ⟨z, e1, h6⟩ := of_pos h5
    have e1' : (match tyStr d with
      | some _ => match isaTy T d with
        | some true => some (.bl true)
        | some false => (isaTy T' d).map .bl
        | none => none
      | none => none) = some z := e1
    refine ⟨by rw [sizeLine_eq]; show (2 : Nat) ≤ 16777216; decide, fun tp htp => ?_⟩
    cases q : tyStr d with
    | none =>
      rw [q] at e1'
      cases e1'
    | some t =>
      rw [q] at e1'
      have e2' : (match isaTy T d with
        | some true => some (.bl true)
        | some false => (isaTy T' d).map .bl
        | none => none) = some z := e1'
      have sm : Same H1 (upd H1 tp (.tup [.ty T.nm, .ty T'.nm])) := Same.upd htp
      have tyx : TyX X.K (upd H1 tp (.tup [.ty T.nm, .ty T'.nm])) v (.type t) := by
        have k := ty_wk q r1
        cases d with
        | non => rw [show v = .non from r1] at k ⊢; cases (Option.some.inj q); exact .base .non
        | bl b => rw [show v = .bl b from r1] at k ⊢; cases (Option.some.inj q); exact .base (.bl b)
        | int b => rw [show v = .int b from r1] at k ⊢; cases (Option.some.inj q); exact .base (.int b)
        | str b => rw [show v = .str (DL.nm b) from r1] at k ⊢; cases (Option.some.inj q); exact .base (.str (DL.nm b))
        | tup l => exact ty_wk (T := tx X) (B := Bar B W1) q (Rel.ext (.same sm) _ r1)
        | lst l =>
          obtain ⟨a, vs, rfl, g1, g2⟩ := r1
          cases (Option.some.inj q)
          exact .base (.lst (sm _ _ g1))
        | _ => cases q
      cases q2 : isaTy T d with
      | none =>
        rw [q2] at e2'
        cases e2'
      | some b1 =>
        rw [q2] at e2'
        cases b1 with
        | true =>
          have e3 := Option.some.inj e2'
          subst e3
          exact ⟨v, tp, [.ty T.nm, .ty T'.nm], .type t, [.type T.nm, .type T'.nm], true, rfl, upd_same, .cons (.ty _) (.cons (.ty _) .nil), tyx, kitAny_cons (isaTy_kit q2 q) (fun z => by cases z) (fun _ => rfl), h6.same (v := V.bl true) o1 sm rfl⟩
        | false =>
          obtain ⟨b, e3, rfl⟩ := Option.map_eq_some_iff.mp e2'
          refine ⟨v, tp, [.ty T.nm, .ty T'.nm], .type t, [.type T.nm, .type T'.nm], b, rfl, upd_same, .cons (.ty _) (.cons (.ty _) .nil), tyx, kitAny_cons (isaTy_kit q2 q) (fun _ => kitAny_cons (isaTy_kit e3 q) (fun z => ?_) (fun z => z)) (fun z => by cases z), h6.same (v := V.bl b) o1 sm rfl⟩
          rw [z]
          rfl)))
/-- isinstance(o, C), C an own class, o an instance -/
structure IsiC (K : PySem.W.Frag) (C : Addr) : Prop where
  cl : Cls K C
  ha : PySem.W.findIn K (.ref C) "__class__" = some (some (.builtin "object.__class__"))
  hn : PySem.W.specialIn K (.builtin "object.__class__") "__get__" = some (some (.builtin "getset_descriptor.__get__"))
  htk : PySem.W.takesIn K (.builtin "object.__class__") = some true
  hm : PySem.W.mroIn K C (.type "object") = some true
def IsiOk (X : Cx) (t : List (Nat × Bool)) (c : Nat) : Prop := ∀ q ∈ t, IsiC X.K (He.ga X.K (nm q.1)) ∧ PySem.W.kitOne X.K (.ref (He.ga X.K (nm q.1))) (.ref (He.ga X.K (nm c))) = some q.2
def isaOwn (t : List (Nat × Bool)) (d : D) : Option D := match d with
  | .obj c _ _ => (t.find? fun q => Nat.beq q.1 c).map fun q => .bl q.2
  | _ => none
theorem de_isaC (t : List (Nat × Bool)) (c : Nat) {x : Str} (hT : IsiOk X t c) (ha : DK X Wx ms a fa) (hg : Gl X "isinstance") (hm : X.mg "isinstance" = none) (hgC : Gl X x) (hmC : X.mg x = some (.ref (He.ga X.K x))) (hx : nm c = x := by rfl) (hv : bootBuiltins "isinstance" = some (.builtin "isinstance") := by first | rfl | kernel_rfl)
    (hdC : (x == ("__debug__" : Str)) = false := by decide) (h1 : starEach [a, .Name x p1] X.env = (false, eval a X.env) :: starEach [.Name x p1] X.env := by rfl) (h2 : starEach [.Name x p1] X.env = (false, eval (.Name x p1) X.env) :: starEach [] X.env := by rfl)
    (hpl : (backTo pos (starEach [.Name x p1] X.env)).any (·.1) = false := by rfl) : DE X Wx ms (.Call (.Name "isinstance" p) [a, .Name x p1] [] pos) (op1 (isaOwn t) fa) := by
  subst hx
  exact fun B W env σ H Q o h =>
  PE.tm (pe_callB call_isi hg hm hv pa_tm (by decide) (by decide) h1 hpl) (PA.tm (pa_cons pe_tm (pa_cons (pe_glob (v := .ref (He.ga X.K (nm c))) hgC hmC rfl hdC) pa_nil h2) h1) (ha _ _ _ _ _ _ o (h.cont (k1 := rkW (tx X)) fun d env1 W1 H1 v n1 o1 r1 h3 => by
    obtain ⟨z, e1, h4⟩ := of_pos h3
    cases d with
    | obj k ns ds =>
      obtain ⟨q, e2, rfl⟩ := Option.map_eq_some_iff.mp (show (t.find? fun q => Nat.beq q.1 k).map (fun q => D.bl q.2) = some z from e1)
      have e3 := nbeq (i := q.1) (j := k) (List.find?_some (p := fun q : Nat × Bool => Nat.beq q.1 k) e2)
      subst e3
      obtain ⟨k1, k2⟩ := hT q (List.mem_of_find?_eq_some e2)
      obtain ⟨a', dx, vs, rfl, r2, r3, r4⟩ := r1
      exact ⟨_, .ref (He.ga X.K (nm c)), .ref (He.ga X.K (nm q.1)), .ref (He.ga X.K (nm c)), q.2, rfl, .own _, .base (.ins r2 k1.cl k1.ha k1.hn k1.htk k1.hm), k2, h4.done (v := V.bl q.2) o1 rfl⟩
    | _ => cases e1)))
end

/-! ### slices -/
def cutD (l : List D) (lo hi : Option Int) : List D := (l.drop (HT.sIx l.length 0 lo)).take (HT.sIx l.length l.length hi - HT.sIx l.length 0 lo)
theorem cut_rel {T : Tx} {B : Addr → Prop} {H : Hp} {ds : List D} {vs : List V} (r : RelL T B H ds vs) (lo hi : Option Int) : RelL T B H (cutD ds lo hi) (cutV vs lo hi) := by
  unfold cutD cutV
  rw [← r.length]
  exact (r.drop _).take _
/-- a part of a slice: left out, or an expression -/
def vPart (f : Option (M D)) : M (Option Int) := fun env => match f with
  | none => .ok none env
  | some g => (g env).bind fun d env1 => match d with
    | .int i => .ok (some i) env1
    | _ => .stuck
def DP (X : Cx) (Wx : WX) (ms : Ms) (e : Option Expr) (f : M (Option Int)) : Prop := ∃ t : TO, PO X e t ∧ ∀ B W env σ H Q, Ok (tx X) ms B W env σ H → Po (tx X) Wx ms B W σ H (⟨fun _ _ _ _ _ _ a v => v = a, fun _ h => h⟩ : Rk (tx X) (Option Int) (Option Int)) (f env) Q → t σ H Q
section
variable {X : Cx} {Wx : WX} {ms : Ms} {e a : Expr} {lo hi : Option Expr} {fa fe : M D} {fl fh : M (Option Int)} {pos p2 : Pos}
theorem dp_none : DP X Wx ms none (vPart none) := ⟨tNoPart, po_none, fun B W env σ H Q o h => h.done (v := none) o rfl⟩
theorem dp_some (ha : DE X Wx ms e fe) : DP X Wx ms (some e) (vPart (some fe)) := ⟨_, po_some pe_tm, fun B W env σ H Q o h => ha _ _ _ _ _ _ o (Po.cont (k1 := rkD (tx X)) (f := fun d env1 => match d with | .int i => .ok (some i) env1 | _ => .stuck) h fun d env1 W1 H1 v n1 o1 r1 h1 => by
    cases d with
    | int i => exact ⟨i, r1, h1.done (v := some i) o1 rfl⟩
    | _ => exact h1.elim)⟩
/-- a[lo:hi] of a tuple, of a list (a list that is not written to any more) -/
def slD (d : D) (lo hi : Option Int) : Option D := match d with
  | .tup l => some (.tup (cutD l lo hi))
  | .lst l => some (.lst (cutD l lo hi))
  | _ => none
def vSl (g : D → Option Int → Option Int → Option D) (fa : M D) (fl fh : M (Option Int)) : M D := fun env => (fa env).bind fun d env1 => (fl env1).bind fun lo env2 => (fh env2).bind fun hi env3 => M.of (g d lo hi) env3
theorem sIx_le (n : Nat) (o : Option Int) (d : Nat) (h : d ≤ n) : HT.sIx n d o ≤ n := by
  cases o with
  | none => exact h
  | some v =>
    show (if v < 0 then (v + (n : Int)).toNat else min v.toNat n) ≤ n
    by_cases q : v < 0
    · rw [if_pos q]
      omega
    · rw [if_neg q]
      exact Nat.min_le_right _ _
theorem de_slice (ha : DE X Wx ms a fa) (hl : DP X Wx ms lo fl) (hh : DP X Wx ms hi fh) : DE X Wx ms (.Subscript a (.Slice lo hi none p2) pos) (vSl slD fa fl fh) := by
  obtain ⟨tl, hl1, hl2⟩ := hl
  obtain ⟨th, hh1, hh2⟩ := hh
  exact fun B W env σ H Q o h => PE.tm (pe_slice (sl_tupA.or sl_list) pe_tm hl1 hh1) (ha _ _ _ _ _ _ o (h.cont (k1 := rkD (tx X)) fun d env1 W1 H1 v n1 o1 r1 h1 => hl2 _ _ _ _ _ _ o1 (h1.cont fun l env2 W2 H2 l' n2 o2 el h2 => hh2 _ _ _ _ _ _ o2 (h2.cont fun u env3 W3 H3 u' n3 o3 eu h3 => by
    have el' : l' = l := el
    have eu' : u' = u := eu
    subst el' eu'
    obtain ⟨z, e1, h4⟩ := of_pos h3
    cases d with
    | tup ds =>
      have e2 := Option.some.inj e1
      subst e2
      obtain ⟨b, vs, rfl, g1, g2⟩ := Rel.ext n3.ext _ (Rel.ext n2.ext _ r1)
      refine .inl ⟨b, vs, rfl, g1.sq, fun hw => ?_, fun _ p hp => ?_⟩
      · have e3 : cutD ds l' u' = ds := by
          unfold cutD
          have hlen := g2.length
          rw [hlen, hw.1, hw.2, List.drop_zero, Nat.sub_zero, ← hlen, List.take_length]
        rw [e3] at h4
        exact h4.done o3 ⟨b, vs, rfl, g1, g2⟩
      · exact h4.same o3 (Same.upd hp) ⟨p, _, rfl, .inl ⟨upd_same, fresh_bar o3.wf hp⟩, RelL.ext (.same (Same.upd hp)) _ (cut_rel g2 _ _)⟩
    | lst ds =>
      have e2 := Option.some.inj e1
      subst e2
      obtain ⟨b, vs, rfl, g1, g0, g2⟩ := Rel.ext n3.ext _ (Rel.ext n2.ext _ r1)
      exact .inr ⟨b, vs, rfl, SqL.of g1, fun p hp => h4.same o3 (Same.upd hp) ⟨p, _, rfl, upd_same, fresh_bar o3.wf hp, RelL.ext (.same (Same.upd hp)) _ (cut_rel g2 _ _)⟩⟩
    | _ => cases e1))))
/-- the same of a list, a new one -/
def slL (d : D) (lo hi : Option Int) : Option D := match d with
  | .lst l => some (.lst (cutD l lo hi))
  | _ => none
theorem df_slice (ha : DE X Wx ms a fa) (hl : DP X Wx ms lo fl) (hh : DP X Wx ms hi fh) : DF X Wx ms (.Subscript a (.Slice lo hi none p2) pos) (vSl slL fa fl fh) := by
  obtain ⟨tl, hl1, hl2⟩ := hl
  obtain ⟨th, hh1, hh2⟩ := hh
  exact fun B W env σ H Q o h => PE.tm (pe_slice sl_list pe_tm hl1 hh1) (ha _ _ _ _ _ _ o (h.cont (k1 := rkD (tx X)) fun d env1 W1 H1 v n1 o1 r1 h1 => hl2 _ _ _ _ _ _ o1 (h1.cont fun l env2 W2 H2 l' n2 o2 el h2 => hh2 _ _ _ _ _ _ o2 (h2.cont fun u env3 W3 H3 u' n3 o3 eu h3 => by
    have el' : l' = l := el
    have eu' : u' = u := eu
    subst el' eu'
    obtain ⟨z, e1, h4⟩ := of_pos h3
    cases d with
    | lst ds =>
      have e2 := Option.some.inj e1
      subst e2
      obtain ⟨b, vs, rfl, g1, g0, g2⟩ := Rel.ext n3.ext _ (Rel.ext n2.ext _ r1)
      exact ⟨b, vs, rfl, SqL.of g1, fun p hp => h4.made o3 hp (cut_rel g2 _ _)⟩
    | _ => cases e1))))
def revD (d : D) : Option D := match d with
  | .lst l => some (.lst l.reverse)
  | _ => none
theorem df_rev {k : Nat} {p1 p3 : Pos} (ha : DK X Wx ms a fa) : DF X Wx ms (.Subscript a (.Slice none none (some (.UnaryOp .USub (.Constant (.int 1) k p1) p2)) p3) pos) (op1 revD fa) := fun B W env σ H Q o h =>
  PE.tm (pe_revL pe_tm) (ha _ _ _ _ _ _ o (h.cont (k1 := rkW (tx X)) fun d env1 W1 H1 v n1 o1 r1 h1 => by
    obtain ⟨z, e1, h4⟩ := of_pos h1
    cases d with
    | lst ds =>
      have e2 := Option.some.inj e1
      subst e2
      obtain ⟨b, vs, rfl, g1, g2⟩ := r1
      exact ⟨b, vs, rfl, SqL.of g1, fun p hp => h4.made o1 hp g2.reverse⟩
    | _ => cases e1))

/-! ### the truth of a value -/
def truD (d : D) : Option Bool := match d with
  | .non => some false
  | .bl b => some b
  | .int i => some (i != 0)
  | .tup l => some (!l.isEmpty)
  | .lst l => some (!l.isEmpty)
  | _ => none
theorem tru_rel {B : Addr → Prop} {H : Hp} {d : D} {v : V} {b : Bool} (h : truD d = some b) (r : Wk (tx X) B H d v) : TruV X.K v H b := by
  have em : ∀ {ds : List D} {vs : List V}, RelL (tx X) B H ds vs → (!vs.isEmpty) = !ds.isEmpty := fun {ds vs} r => by
    cases ds with
    | nil => cases vs with
      | nil => rfl
      | cons _ _ => exact r.elim
    | cons _ _ => cases vs with
      | nil => exact r.elim
      | cons _ _ => rfl
  cases d with
  | non =>
    have e := Option.some.inj h
    rw [← e, show v = .non from r]
    exact rfl
  | bl c =>
    have e := Option.some.inj h
    rw [← e, show v = .bl c from r]
    exact rfl
  | int c =>
    have e := Option.some.inj h
    rw [← e, show v = .int c from r]
    exact rfl
  | tup l =>
    have e := Option.some.inj h
    obtain ⟨a, vs, rfl, h1, h2⟩ := r
    exact .inr (.inl ⟨vs, h1.sq, by rw [← e]; exact (em h2).symm⟩)
  | lst l =>
    have e := Option.some.inj h
    obtain ⟨a, vs, rfl, h1, h2⟩ := r
    exact .inl ⟨vs, SqL.of h1, by rw [← e]; exact (em h2).symm⟩
  | _ => cases h
def tTru (f : M D) : M Bool := fun env => (f env).bind fun d env1 => M.of (truD d) env1
theorem dt_tru (ha : DK X Wx ms a fa) (he : ∀ whole, isTrue a X.env whole = (do let v ← whole; standAt a.pos; holding [v] (truthy v)) := by intro _; rfl) : DT X Wx ms a (tTru fa) := fun B W env σ H Q o h =>
  PT.tm (pt_truth pe_tm he) (ha _ _ _ _ _ _ o (h.cont (k1 := rkW (tx X)) fun d env1 W1 H1 x n1 o1 r1 h1 => by
    obtain ⟨z, e1, h3⟩ := of_pos h1
    exact ⟨z, tru_rel e1 r1, h3.done o1 rfl⟩))
/-- * -/
def repD (d e : D) : Option D := match d, e with
  | .lst l, .int k => if (decide (-1000000 < k) && decide (k < 1000000) && small (l.length * k.toNat)) = true then some (.lst (repL l k.toNat)) else none
  | _, _ => none
theorem pu_rep : Pure2F X rRep repD := by
  intro B H x y d e z Q w r1 r2 h q
  cases d with
  | lst l =>
    cases e with
    | int k =>
      obtain ⟨c, rfl⟩ := ite_some h
      obtain ⟨c1, c2⟩ := Bool.and_eq_true_iff.mp c
      obtain ⟨c3, c4⟩ := Bool.and_eq_true_iff.mp c1
      have k1 := of_decide_eq_true c3
      have k2 := of_decide_eq_true c4
      obtain ⟨a, vs, rfl, g1, g2⟩ := r1
      have rep : ∀ n : Nat, RelL (tx X) B H (repL l n) (List.replicate n vs).flatten := by
        intro n
        induction n with
        | zero => trivial
        | succ n ih =>
          show RelL (tx X) B H (List.replicate (n + 1) l).flatten _
          rw [List.replicate_succ, List.replicate_succ, List.flatten_cons, List.flatten_cons]
          exact g2.append ih
      refine ⟨a, k, vs, rfl, r2, g1, by omega, by omega, by rw [← g2.length]; exact small_line c2, fun p hp => q p _ _ rfl hp (rep _)⟩
    | _ => cases h
  | _ => cases h
end
end DL

set_option Elab.async false
set_option linter.all false
set_option maxRecDepth 100000
set_option maxHeartbeats 4000000
/-! own ==, !=, binary operators, len -/
namespace DL
open PySem PySem.Spec L2

/-- values by Rel alone -/
def Pure2R (X : Cx) (r : R2) (g : D → D → Option D) : Prop := ∀ {B : Addr → Prop} {H : Hp} {x y : V} {d e z : D} {Q : VK}, Wf B H → Rel (tx X) B H d x → Rel (tx X) B H e y → g d e = some z → (∀ H' v, Same H H' → Rel (tx X) B H' z v → Q v H') → r x y H Q
theorem Pure2.R {X : Cx} {r : R2} {g : D → D → Option D} (p : Pure2 X r g) : Pure2R X r g := fun w r1 r2 h q => p w (Rel.wk r1) (Rel.wk r2) h q
def orD (own plain : D → D → Option D) (d e : D) : Option D := match d with
  | .obj _ _ _ => own d e
  | _ => plain d e
theorem Pure2R.or {X : Cx} {r r' : R2} {g g' : D → D → Option D} (p : Pure2R X r g) (p' : Pure2R X r' g') : Pure2R X (fun x y H Q => r x y H Q ∨ r' x y H Q) (orD g g') := fun {B H x y d e z Q} w r1 r2 h q => by
  cases d with
  | obj _ _ _ => exact .inl (p w r1 r2 h q)
  | _ => exact .inr (p' w r1 r2 h q)
section
variable {X : Cx} {Wx : WX} {ms : Ms} {a b : Expr} {fa fb : M D} {pos : Pos}
theorem tm_op2R {r : R2} {g : D → D → Option D} (p : Pure2R X r g) (ha : DE X Wx ms a fa) (hb : DE X Wx ms b fb) {B : Br} {W : Addr → Prop} {env : En} {σ : L2.St} {H : Hp} {Q : VK} (o : Ok (tx X) ms B W env σ H)
    (h : Po (tx X) Wx ms B W σ H (rkD (tx X)) (op2 g fa fb env) Q) : tm X a σ H fun x H1 => tm X b σ H1 fun y H2 => r x y H2 Q :=
  ha _ _ _ _ _ _ o (h.cont (k1 := rkD (tx X)) fun d env1 W1 H1 x n1 o1 r1 h1 => hb _ _ _ _ _ _ o1 (h1.cont (k1 := rkD (tx X)) fun e env2 W2 H2 y n2 o2 r2 h2 => by
    obtain ⟨z, e1, h3⟩ := of_pos h2
    exact p o2.wf (Rel.ext n2.ext d r1) r2 e1 fun H' v s rv => h3.same o2 s rv))
theorem de_opR {op : Operator} {r : R2} {g : D → D → Option D} (ho : OpR X (binaryOp op) r) (p : Pure2R X r g) (ha : DE X Wx ms a fa) (hb : DE X Wx ms b fb) : DE X Wx ms (.BinOp a op b pos) (op2 g fa fb) := fun B W env σ H Q o h =>
  PE.tm (pe_op ho pe_tm pe_tm) (tm_op2R p ha hb o h)
theorem de_cmpR {op : CmpOp} {r : R2} {g : D → D → Option D} (ho : OpR X (compareOp op) r) (p : Pure2R X r g) (ha : DE X Wx ms a fa) (hb : DE X Wx ms b fb) (hm : behindInMarks op b = false := by first | exact nomark _ | rfl) : DE X Wx ms (.Compare a [op] [b] pos) (op2 g fa fb) := fun B W env σ H Q o h =>
  PE.tm (pe_cmpR ho pe_tm pe_tm hm) (tm_op2R p ha hb o h)
theorem dt_cmpR {op : CmpOp} {r : R2} {g : D → D → Option D} (ho : OpR X (compareOp op) r) (p : Pure2R X r g) (ha : DE X Wx ms a fa) (hb : DE X Wx ms b fb) (hm : behindInMarks op b = false := by first | exact nomark _ | rfl) : DT X Wx ms (.Compare a [op] [b] pos) (tB1 (op2 g fa fb)) := fun B W env σ H Q o h => by
  rw [op2_as] at h
  refine PT.tm (pt_cmpR ho pe_tm pe_tm hm) (ha _ _ _ _ _ _ o (h.cont (k1 := rkD (tx X)) fun d env1 W1 H1 x n1 o1 r1 h1 => hb _ _ _ _ _ _ o1 (h1.cont (k1 := rkD (tx X)) fun e env2 W2 H2 y n2 o2 r2 h2 => ?_)))
  obtain ⟨z, e1, h3⟩ := of_pos h2
  obtain ⟨zd, e2, e3⟩ := Option.bind_eq_some_iff.mp e1
  have e4 := asB_some e3
  subst e4
  exact p o2.wf (Rel.ext n2.ext d r1) r2 e2 fun H' v s rv => ⟨z, rv, h3.same o2 s rfl⟩
end

/-! ### what the model does -/
section
open PySem.W PyProof.Rows
variable {prog : Program} {w : World} {A : Around} {E : Value → Shared → Prop} {s : Shared} {K : Frag} {x C f : Addr} {ox : Obj} {od : Option Obj} {tb b : Value} {name : Str}
theorem ifBound_slot {M : Model} {args : List Value} {Q : Option Value → Shared → Prop} {T id : String} (X : K.In s.heap) (I : InstAt s.heap x ox C od) (hs : findIn K (.ref C) name = some (some (.builtin id))) (S : Slot T name id)
    (h : wpAny M A (call (.builtin id) (.ref x :: args)) (fun v => Q (some v)) E s) : wpAny M A (callSpecialIfBound? (.ref x) name args) Q E s := by
  simp only [callSpecialIfBound?, bindSpecialIfBound?]
  refine wpAny_holding (wpAny_bind (wpAny_bind (wpAny_bind (I.type.here ((looks_findIn X hs).here ?_)))))
  have last : wpAny M A (call (.builtin id) ([.ref x] ++ args) >>= fun v => pure (some v)) Q E s := wpAny_bind (wpAny_mono h (fun v s' h' => wpAny_pure h') fun _ _ h' => h')
  refine wpAny_bind (wpAny_askSetting (wpAny_ite ?_))
  simp only [S.bind]
  split
  · exact wpAny_bind (wpAny_pure (wpAny_pure (by exact last)))
  · exact wpAny_tryCatch (wpAny_bind (wpAny_pure (wpAny_pure (by exact last))))
def NotBack (Q : Value → Shared → Prop) (v : Value) (s' : Shared) : Prop := ∃ c, v = .bool c ∧ Q (.bool (!c)) s'
/-- x != b, where the class has an own == and object's != -/
theorem ne_own {Q : Value → Shared → Prop} (hu : A.units + 64 < cLine) (X : K.In s.heap) (I : InstAt s.heap x ox C od) (hb : W.Looks (model prog w) s.heap (typeOf b) tb) (hn : notFirst K C tb = true) (he : findIn K (.ref C) "__eq__" = some (some (.ref f))) (hf : isFn K (.ref f) = true)
    (hne : findIn K (.ref C) "__ne__" = some (some (.builtin "object.__ne__"))) (hm : mroIn K C (.type "object") = some true) (h : wpAny (model prog w) A.in1 (call (.ref f) [.ref x, b]) (NotBack Q) E s) : wpAny (model prog w) A (richCompare .NotEq (.ref x) b) Q E s := by
  have u1 : A.in1.units = A.units + 1 := rfl
  have isObj : W.Looks (model prog w) s.heap (isInstance (.ref x) (.type "object")) true := I.type.andThen (W.looks_mroIn X hm)
  have one : wpAny (model prog w) A (tryCompare (.ref x) (cmpInfo .NotEq).2.1 b) (fun r s' => ∃ v, r = some v ∧ Q v s') E s := by
    unfold tryCompare
    refine wpAny_bind (ifBound_slot X I hne PySem.F.cmp_object.ne ?_)
    refine wpAny_call (codeAny_call_builtin PySem.F.cmp_object.ne.plain PySem.F.cmpEntry_ne ?_)
    refine @W.check_slot (model prog w) _ _ s "object.__ne__" "object" "__ne__" (.ref x) [b] [] _ PySem.F.cmpKind_ne PySem.F.cmpSplit_ne isObj (PySem.F.cmpArgs_ne _ _) ?_
    unfold Builtin.«object.__ne__»
    refine wpAny_bind (wpAny_of_eq (a := ((Value.ref x : Value), [b])) (by first | rfl | (simp only [slotArgs]; rfl)) ?_)
    dsimp only
    refine wpAny_bind (wpAny_cRoomFor (by omega) ?_)
    refine wpAny_bind (ifBound_K X I he hf (wpAny_mono h (fun v s' hv => ?_) fun _ _ e => e))
    obtain ⟨c, rfl, hq⟩ := hv
    refine wpAny_bind (wpAny_truthy_bool ?_)
    refine wpAny_pure ?_
    show wpAny _ _ (pure (some (Value.bool (!c)))) _ _ _
    exact wpAny_pure ⟨_, rfl, hq⟩
  unfold richCompare
  simp only [oneThing_ref]
  refine wpAny_holding (wpAny_bind (wpAny_cRoomFor (by omega) ?_))
  refine wpAny_bind (I.type.here (wpAny_bind (hb.here ?_)))
  split
  · rename_i q
    have e : subIn K tb (.ref C) = some false := by
      rcases Bool.or_eq_true_iff.mp hn with e | e
      · rw [beq_iff_eq.mp e] at q
        simp at q
      · exact beq_iff_eq.mp e
    refine wpAny_bind ((looks_subIn X e).here ?_)
    simp only [Bool.false_eq_true, if_false]
    refine wpAny_bind (wpAny_mono one (fun r s' z => ?_) fun _ _ e => e)
    obtain ⟨v, rfl, hq⟩ := z
    exact wpAny_pure hq
  · refine wpAny_bind (wpAny_pure ?_)
    simp only [Bool.false_eq_true, if_false]
    refine wpAny_bind (wpAny_mono one (fun r s' z => ?_) fun _ _ e => e)
    obtain ⟨v, rfl, hq⟩ := z
    exact wpAny_pure hq
/-- x op b, where b is of a built-in type that has no such operator -/
theorem bin_own {op : Operator} {T : String} {Q : Value → Shared → Prop} (X : K.In s.heap) (I : InstAt s.heap x ox C od) (hb : W.Looks (model prog w) s.heap (typeOf b) (.type T)) (hc : selfFirst K C = true) (hs : findIn K (.ref C) (PySem.dunder op.info.2) = some (some (.ref f))) (hf : isFn K (.ref f) = true)
    (hno : fillsNumberSlot (.type T) op.info.2 = pure false) (h : wpAny (model prog w) A (call (.ref f) [.ref x, b]) (W.CmpBack Q) E s) : wpAny (model prog w) A (binaryOp op (.ref x) b) Q E s := by
  obtain ⟨cd, hcd, hm⟩ := any_some hc
  obtain ⟨rest, hm⟩ : ∃ rest, cd.mro = .ref C :: rest := by
    cases q : cd.mro with
    | nil =>
      rw [q] at hm
      cases hm
    | cons a r =>
      rw [q] at hm
      rw [List.head?_cons] at hm
      cases (beq_iff_eq.mp hm)
      exact ⟨r, rfl⟩
  unfold binaryOp
  refine wpAny_holding (wpAny_bind ?_)
  unfold binaryOp1
  refine wpAny_bind (I.type.here (wpAny_bind (hb.here (wpAny_bind ((fills_K X hcd hm hs).here ?_)))))
  have apart : (Value.ref C == Value.type T) = false := rfl
  refine wpAny_bind (wpAny_of_eq hno ?_)
  simp only [Bool.and_false, Bool.false_eq_true, if_false, Bool.false_and]
  refine wpAny_bind (wpAny_pure ?_)
  simp only [Bool.false_eq_true, if_false]
  refine wpAny_bind (m := tryMethod (.ref x) _ b) ?_
  unfold tryMethod
  refine wpAny_bind (special_fn X I hs (beq_iff_eq.mp hf) (wpAny_mono h (fun v s' hv => ?_) fun _ _ e => e))
  cases v <;> first | exact hv.elim | exact wpAny_pure (wpAny_pure (wpAny_pure hv))
theorem noXor_list : fillsNumberSlot (.type "list") "xor" = pure false := by kernel_rfl
theorem noXor_tuple : fillsNumberSlot (.type "tuple") "xor" = pure false := by kernel_rfl
end
end DL

set_option Elab.async false
set_option linter.all false
set_option maxRecDepth 100000
set_option maxHeartbeats 4000000
/-! own operators, of data -/
namespace DL
open PySem PySem.Spec L2

/-- nothing is raised -/
abbrev xNo : XK := fun _ _ _ => False
section
variable {X : Cx} {k : Nat} {gf : Addr} {sp : Sp}
/-- a def called from anywhere below the body -/
theorem run_no {A : Around} {pins : List (Addr × Obj)} {σ : L2.St} {H : Hp} {s : Shared} {Q : VK} {us : List Value} {vs : List V} (F : FnR X.prog X.w X.K X.mg X.base (L2.CX X.prog X.w) k gf sp) (hr : Room k A) (e0 : Env0 X.prog X.w X.K X.mg X.base A X.stack s H) (I : L2.Inv X pins σ H s) (r : Vals vs us) (h : sp vs H Q xNo)
    {R : Value → Shared → Prop} {E : Value → Shared → Prop} (q : ∀ v s', EP X pins σ Q v s' → R v s') : wpAny (model X.prog X.w) A (call (.ref gf) us) R E s := by
  refine wpAny_call (codeAny_mono (F A X.stack s H us vs Q xNo hr e0 r h) fun r s' hq => ?_)
  cases r with
  | error e =>
    obtain ⟨_, _, _, _, _, _, _, _, _, _, _, _, z⟩ := hq
    exact z.elim
  | ok fl =>
    cases fl with
    | ret u => exact q _ _ (I.after hq)
    | next => exact False.elim hq
    | brk => exact False.elim hq
    | cont => exact False.elim hq
theorem relV_notImpl {z : V} (h : L2.RelV z .notImplemented) : False := by
  cases z with
  | int i => obtain ⟨t, e⟩ := (show ∃ t, Value.notImplemented = Value.int i t from h); cases e
  | str i => obtain ⟨t, e⟩ := (show ∃ t, Value.notImplemented = Value.str i t from h); cases e
  | byt i => obtain ⟨t, e⟩ := (show ∃ t, Value.notImplemented = Value.bytes i t from h); cases e
  | flt i => obtain ⟨t, e⟩ := (show ∃ t, Value.notImplemented = Value.float i t from h); cases e
  | _ => cases h
def rOwnEq (X : Cx) (k : Nat) : R2 := fun x y H Q => ∃ a C dx fs b C2 dy gs gf sp, x = .ref a ∧ y = .ref b ∧ H a = some (.ins C dx fs) ∧ H b = some (.ins C2 dy gs) ∧ Meth X.K C "__eq__" gf ∧ PySem.W.notFirst X.K C (.ref C2) = true ∧
  FnR X.prog X.w X.K X.mg X.base (L2.CX X.prog X.w) k gf sp ∧ sp [x, y] H Q xNo
theorem op_ownEq (hr : Room k X.A) : OpR X (compareOp .Eq) (rOwnEq X k) := by
  intro pins s σ H x y u v Q I rx ry h
  obtain ⟨a, C, dx, fs, b, C2, dy, gs, gf, sp, rfl, rfl, ha, hb, hm, hn, F, q⟩ := h
  cases rx
  cases ry
  obtain ⟨mA, J, _⟩ := ins_get I.hok ha
  obtain ⟨mB, J', _⟩ := ins_get I.hok hb
  obtain ⟨od, J, _⟩ := J.look
  obtain ⟨od', J', _⟩ := J'.look
  obtain ⟨m, hF⟩ := I.fr
  show wpAny _ _ (richCompare .Eq (.ref a) (.ref b)) _ _ s
  refine PySem.W.cmp_K (op := .Eq) (tb := .ref C2) hr.units0 hF I.ok.mod.kin J J'.type hn hm.at_ hm.fn ?_
  refine run_no (vs := [.ref a, .ref b]) F hr I.env0 I (.cons rfl (.cons rfl .nil)) q fun v s' z => ?_
  obtain ⟨z', H', I', rz, qz⟩ := z
  cases v <;> first
    | exact (relV_notImpl rz).elim
    | exact ⟨z', H', I', rz, qz⟩
def rOwnNe (X : Cx) (k : Nat) : R2 := fun x y H Q => ∃ a C dx fs b C2 dy gs gf sp, x = .ref a ∧ y = .ref b ∧ H a = some (.ins C dx fs) ∧ H b = some (.ins C2 dy gs) ∧ Meth X.K C "__eq__" gf ∧ PySem.W.findIn X.K (.ref C) "__ne__" = some (some (.builtin "object.__ne__")) ∧ PySem.W.mroIn X.K C (.type "object") = some true ∧
  PySem.W.notFirst X.K C (.ref C2) = true ∧ FnR X.prog X.w X.K X.mg X.base (L2.CX X.prog X.w) k gf sp ∧ sp [x, y] H (fun v H' => ∃ c, v = .bl c ∧ Q (.bl (!c)) H') xNo
theorem op_ownNe (hr : Room (k + 1) X.A) : OpR X (compareOp .NotEq) (rOwnNe X k) := by
  intro pins s σ H x y u v Q I rx ry h
  obtain ⟨a, C, dx, fs, b, C2, dy, gs, gf, sp, rfl, rfl, ha, hb, hm, hne, hmro, hn, F, q⟩ := h
  cases rx
  cases ry
  obtain ⟨mA, J, _⟩ := ins_get I.hok ha
  obtain ⟨mB, J', _⟩ := ins_get I.hok hb
  obtain ⟨od, J, _⟩ := J.look
  obtain ⟨od', J', _⟩ := J'.look
  show wpAny _ _ (richCompare .NotEq (.ref a) (.ref b)) _ _ s
  refine ne_own (tb := .ref C2) hr.units I.kIn J J'.type hn hm.at_ hm.fn hne hmro ?_
  refine run_no (vs := [.ref a, .ref b]) F hr.in1 I.env0.in1 I (.cons rfl (.cons rfl .nil)) q fun v s' z => ?_
  obtain ⟨z', H', I', rz, c, ec, qz⟩ := z
  subst ec
  cases rz
  exact ⟨c, rfl, .bl (!c), H', I', rfl, qz⟩
def rOwnBin (X : Cx) (k : Nat) (d : Str) (no : String → Prop) : R2 := fun x y H Q => ∃ a C dx fs b T gf sp, x = .ref a ∧ y = .ref b ∧ H a = some (.ins C dx fs) ∧ ((T = "list" ∧ ∃ xs, SqL X.K H b xs) ∨ (T = "tuple" ∧ ∃ xs, SqT X.K H b xs)) ∧ no T ∧ Meth X.K C d gf ∧ PySem.W.selfFirst X.K C = true ∧
  FnR X.prog X.w X.K X.mg X.base (L2.CX X.prog X.w) k gf sp ∧ sp [x, y] H Q xNo
theorem op_ownXor (hr : Room k X.A) : OpR X (binaryOp .BitXor) (rOwnBin X k "__xor__" fun T => fillsNumberSlot (.type T) "xor" = pure false) := by
  intro pins s σ H x y u v Q I rx ry h
  obtain ⟨a, C, dx, fs, b, T, gf, sp, rfl, rfl, ha, hb, hno, hm, hsf, F, q⟩ := h
  cases rx
  cases ry
  obtain ⟨mA, J, _⟩ := ins_get I.hok ha
  obtain ⟨od, J, _⟩ := J.look
  have ty : W.Looks (model X.prog X.w) s.heap (typeOf (.ref b)) (.type T) := by
    rcases hb with ⟨rfl, xs, hb⟩ | ⟨rfl, xs, hb⟩
    · obtain ⟨its, r, hl, _⟩ := I.list hb
      obtain ⟨o, h1, h2, _⟩ := hl.isList
      exact fun A Q E s k q => wpAny_typeOf_ref (k _ _ h1) (by rw [h2]; exact q)
    · obtain ⟨its, r, ⟨o, h1, h2, _⟩, _⟩ := I.tuple hb
      exact fun A Q E s k q => wpAny_typeOf_ref (k _ _ h1) (by rw [h2]; exact q)
  refine bin_own (op := .BitXor) I.kIn J ty hsf hm.at_ hm.fn hno ?_
  refine run_no (vs := [.ref a, .ref b]) F hr I.env0 I (.cons rfl (.cons rfl .nil)) q fun v s' z => ?_
  obtain ⟨z', H', I', rz, qz⟩ := z
  cases v <;> first
    | exact (relV_notImpl rz).elim
    | exact ⟨z', H', I', rz, qz⟩
end
/-! ### mirrors -/
def rsD : Rs → Option D
  | .ok d _ => some d
  | _ => none
/-- the promise of a def without a cell, where it does not raise -/
theorem sp_pure {X : Cx} {np : Nat} {m : List D → Rs} {ds : List D} {z : D} {vs : List V} {B : Addr → Prop} {H : Hp} {Q : VK} (w : Wf B H) (r : RelL (tx X) B H ds vs) (hn : ds.length = np) (hz : rsD (m ds) = some z) (q : ∀ H' v, Same H H' → Rel (tx X) B H' z v → Q v H') : SpD (tx X) np none false m vs H Q xNo := by
  have an : ∀ a, B a ∨ False → B a := fun a z => z.elim id False.elim
  refine ⟨B, fun _ => False, ds, by rw [← r.length]; exact hn, hn, fun a z => w a (an a z), fun i d v e1 e2 => ⟨fun _ => Rel.anti an (r.nth e1 e2), (fun z => by cases z)⟩, fun _ _ z => z, (fun i z => by cases z), ?_⟩
  cases e : m ds with
  | ok d iod =>
    rw [e] at hz
    have e2 : d = z := Option.some.inj hz
    subst e2
    exact fun W' H' v n _ z => q H' v (fun a u e => n.keep a u e fun z => z) (Rel.anti (fun a b => .inl b) z)
  | err c ns es iod =>
    rw [e] at hz
    cases hz
  | stuck =>
    rw [e] at hz
    cases hz
/-- a table of own operators: the class, the right side's classes that may stand there, the def -/
abbrev OT := List (Nat × List Nat × (List D → Rs))
def otGet (t : OT) (c c2 : Nat) : Option (List D → Rs) := match t.find? fun p => Nat.beq p.1 c with
  | some p => if p.2.1.contains c2 = true then some p.2.2 else none
  | none => none
def EqOk (X : Cx) (k : Nat) (t : OT) : Prop := ∀ p ∈ t, (∃ gf, Meth X.K (He.ga X.K (nm p.1)) "__eq__" gf ∧ Fn X k gf 2 none false p.2.2) ∧ PySem.W.findIn X.K (.ref (He.ga X.K (nm p.1))) "__ne__" = some (some (.builtin "object.__ne__")) ∧ PySem.W.mroIn X.K (He.ga X.K (nm p.1)) (.type "object") = some true ∧
  ∀ c2, p.2.1.contains c2 = true → PySem.W.notFirst X.K (He.ga X.K (nm p.1)) (.ref (He.ga X.K (nm c2))) = true
theorem otGet_some {t : OT} {c c2 : Nat} {m : List D → Rs} (h : otGet t c c2 = some m) : ∃ p ∈ t, p.1 = c ∧ p.2.1.contains c2 = true ∧ p.2.2 = m := by
  unfold otGet at h
  cases q : t.find? fun p => Nat.beq p.1 c with
  | none =>
    rw [q] at h
    cases h
  | some p =>
    rw [q] at h
    have h' : (if p.2.1.contains c2 = true then some p.2.2 else none) = some m := h
    obtain ⟨e1, e2⟩ := ite_some h'
    exact ⟨p, List.mem_of_find?_eq_some q, nbeq (List.find?_some (p := fun p : Nat × List Nat × (List D → Rs) => Nat.beq p.1 c) q), e1, e2⟩
def oEq (t : OT) (d e : D) : Option D := match d, e with
  | .obj c _ _, .obj c2 _ _ => match otGet t c c2 with
    | some m => rsD (m [d, e])
    | none => none
  | _, _ => none
def oNe (t : OT) (d e : D) : Option D := match oEq t d e with
  | some (.bl b) => some (.bl (!b))
  | _ => none
section
variable {X : Cx} {k : Nat} {t : OT}
theorem oEq_some {d e z : D} (h : oEq t d e = some z) : ∃ c ns ds c2 ns2 ds2 m, d = .obj c ns ds ∧ e = .obj c2 ns2 ds2 ∧ otGet t c c2 = some m ∧ rsD (m [d, e]) = some z := by
  cases d with
  | obj c ns ds =>
    cases e with
    | obj c2 ns2 ds2 =>
      have h' : (match otGet t c c2 with
        | some m => rsD (m [.obj c ns ds, .obj c2 ns2 ds2])
        | none => none) = some z := h
      cases q : otGet t c c2 with
      | none =>
        rw [q] at h'
        cases h'
      | some m =>
        rw [q] at h'
        exact ⟨c, ns, ds, c2, ns2, ds2, m, rfl, rfl, q, h'⟩
    | _ => cases h
  | _ => cases h
theorem pu_ownEq (hT : EqOk X k t) : Pure2R X (rOwnEq X k) (oEq t) := by
  intro B H x y d e z Q w r1 r2 h q
  obtain ⟨c, ns, ds, c2, ns2, ds2, m, rfl, rfl, g, hz⟩ := oEq_some h
  obtain ⟨p, hp, rfl, e2, rfl⟩ := otGet_some g
  obtain ⟨⟨gf, k1, k2⟩, _, _, k3⟩ := hT p hp
  have s1 := r1
  have s2 := r2
  obtain ⟨a, dx, vs, rfl, a1, _⟩ := r1
  obtain ⟨b, dy, ws, rfl, b1, _⟩ := r2
  exact ⟨a, _, dx, _, b, _, dy, _, gf, _, rfl, rfl, a1, b1, k1, k3 c2 e2, k2, sp_pure w (ds := [_, _]) ⟨s1, s2, trivial⟩ rfl hz q⟩
theorem pu_ownNe (hT : EqOk X k t) : Pure2R X (rOwnNe X k) (oNe t) := by
  intro B H x y d e z Q w r1 r2 h q
  unfold oNe at h
  cases h0 : oEq t d e with
  | none =>
    rw [h0] at h
    cases h
  | some r =>
    rw [h0] at h
    cases r with
    | bl b0 =>
      have ez := Option.some.inj h
      subst ez
      obtain ⟨c, ns, ds, c2, ns2, ds2, m, rfl, rfl, g, hz⟩ := oEq_some h0
      obtain ⟨p, hp, rfl, e2, rfl⟩ := otGet_some g
      obtain ⟨⟨gf, k1, k2⟩, k4, k5, k3⟩ := hT p hp
      have s1 := r1
      have s2 := r2
      obtain ⟨a, dx, vs, rfl, a1, _⟩ := r1
      obtain ⟨b, dy, ws, rfl, b1, _⟩ := r2
      exact ⟨a, _, dx, _, b, _, dy, _, gf, _, rfl, rfl, a1, b1, k1, k4, k5, k3 c2 e2, k2, sp_pure w (ds := [_, _]) ⟨s1, s2, trivial⟩ rfl hz fun H' v sm rv => ⟨b0, rv, q H' _ sm rfl⟩⟩
    | _ => cases h
/-- own ^ -/
def XorOk (X : Cx) (k : Nat) (t : MT) : Prop := ∀ p ∈ t, (∃ gf, Meth X.K (He.ga X.K (nm p.1)) "__xor__" gf ∧ Fn X k gf 2 none false p.2) ∧ PySem.W.selfFirst X.K (He.ga X.K (nm p.1)) = true
def isSeqD : D → Bool
  | .lst _ => true
  | .tup _ => true
  | _ => false
def oXor (t : MT) (d e : D) : Option D := match d with
  | .obj c _ _ => match mtGet t c with
    | some m => if isSeqD e = true then rsD (m [d, e]) else none
    | none => none
  | _ => none
theorem pu_ownXor {t : MT} (hT : XorOk X k t) : Pure2R X (rOwnBin X k "__xor__" fun T => fillsNumberSlot (.type T) "xor" = pure false) (oXor t) := by
  intro B H x y d e z Q w r1 r2 h q
  cases d with
  | obj c ns ds =>
    have h' : (match mtGet t c with
      | some m => if isSeqD e = true then rsD (m [.obj c ns ds, e]) else none
      | none => none) = some z := h
    cases g : mtGet t c with
    | none =>
      rw [g] at h'
      cases h'
    | some m =>
      rw [g] at h'
      have h2 : (if isSeqD e = true then rsD (m [.obj c ns ds, e]) else none) = some z := h'
      have hs : isSeqD e = true := by
        cases q : isSeqD e with
        | true => rfl
        | false =>
          rw [if_neg (by rw [q]; exact Bool.false_ne_true)] at h2
          cases h2
      rw [if_pos hs] at h2
      obtain ⟨p, e2, rfl⟩ := Option.map_eq_some_iff.mp g
      have e3 := nbeq (i := p.1) (j := c) (List.find?_some (p := fun p : Nat × (List D → Rs) => Nat.beq p.1 c) e2)
      subst e3
      obtain ⟨⟨gf, k1, k2⟩, k3⟩ := hT p (List.mem_of_find?_eq_some e2)
      have s1 := r1
      have s2 := r2
      obtain ⟨a, dx, vs, rfl, a1, _⟩ := r1
      cases e with
      | lst l =>
        obtain ⟨b, ws, rfl, b1, _⟩ := r2
        exact ⟨a, _, dx, _, b, "list", gf, _, rfl, rfl, a1, .inl ⟨rfl, ws, SqL.of b1⟩, noXor_list, k1, k3, k2, sp_pure w (ds := [_, _]) ⟨s1, s2, trivial⟩ rfl h2 q⟩
      | tup l =>
        obtain ⟨b, ws, rfl, b1, _⟩ := r2
        exact ⟨a, _, dx, _, b, "tuple", gf, _, rfl, rfl, a1, .inr ⟨rfl, ws, b1.sq⟩, noXor_tuple, k1, k3, k2, sp_pure w (ds := [_, _]) ⟨s1, s2, trivial⟩ rfl h2 q⟩
      | _ => cases hs
  | _ => cases h
end

/-! ### len of an instance -/
section
variable {X : Cx} {k : Nat}
def rLenOwn (X : Cx) (k : Nat) : List V → Hp → VK → Prop := fun vs H Q => ∃ a C dx fs gf sp, vs = [V.ref a] ∧ H a = some (.ins C dx fs) ∧ Meth X.K C "__len__" gf ∧ FnR X.prog X.w X.K X.mg X.base (L2.CX X.prog X.w) k gf sp ∧ sp [V.ref a] H (fun v H' => ∃ n : Int, v = .int n ∧ (0 ≤ n ∧ n < 2 ^ 63) ∧ Q (.int n) H') xNo
theorem cr_lenOwn (hr : Room (k + 1) X.A) : CallR X (.builtin "len") (rLenOwn X k) := by
  intro pins s σ H xs us Q I r h
  obtain ⟨a, C, dx, fs, gf, sp, rfl, ha, hm, F, q⟩ := h
  rw [Vals.ref1 r]
  obtain ⟨mA, J, _⟩ := ins_get I.hok ha
  obtain ⟨od, J, _⟩ := J.look
  obtain ⟨m, hF⟩ := I.fr
  refine PySem.W.len_K hF I.ok.mod.kin J hm.at_ hm.fn ?_
  refine run_no (vs := [.ref a]) F hr.in1 I.env0.in1 I (.cons rfl .nil) q fun v s' z => ?_
  obtain ⟨z', H', I', rz, n, en, hn, qz⟩ := z
  subst en
  obtain ⟨t, rfl⟩ := (show ∃ t, v = Value.int n t from rz)
  exact ⟨hn, .int n, H', I'.tok _, ⟨_, rfl⟩, qz⟩
abbrev rLenSeq (X : Cx) : List V → Hp → VK → Prop := fun xs H Q => ∃ p ys, xs = [.ref p] ∧ (SqL X.K H p ys ∨ SqT X.K H p ys) ∧ Q (.int ys.length) H
def LenOk (X : Cx) (k : Nat) (t : MT) : Prop := ∀ p ∈ t, ∃ gf, Meth X.K (He.ga X.K (nm p.1)) "__len__" gf ∧ Fn X k gf 1 none false p.2
def oLen (t : MT) (d : D) : Option D := match d with
  | .obj c _ _ => match mtGet t c with
    | some m => match rsD (m [d]) with
      | some (.int n) => if (decide (0 ≤ n) && decide (n < 1000000000)) = true then some (.int n) else none
      | _ => none
    | none => none
  | _ => lenD d
/-- len(e), e by Rel -/
theorem tm_lenA {t : MT} {Wx : WX} {ms : Ms} (hT : LenOk X k t) {e : Expr} {fa : M D} (ha : DE X Wx ms e fa) (hs : starEach [e] X.env = (false, eval e X.env) :: starEach [] X.env) {B : Br} {W : Addr → Prop} {env : En} {σ : L2.St} {H : Hp} {Q : VK} (o : Ok (tx X) ms B W env σ H)
    (h : Po (tx X) Wx ms B W σ H (rkD (tx X)) (op1 (oLen t) fa env) Q) : tmA X [e] σ H fun vs H1 => rLenOwn X k vs H1 Q ∨ rLenSeq X vs H1 Q :=
  PA.tm (pa_cons pe_tm pa_nil hs) (ha _ _ _ _ _ _ o (h.cont (k1 := rkD (tx X)) fun d env1 W1 H1 x n1 o1 r1 h1 => by
    obtain ⟨z, e1, h3⟩ := of_pos h1
    cases d with
    | obj c ns ds =>
      have e1' : (match mtGet t c with
        | some m => match rsD (m [.obj c ns ds]) with
          | some (.int n) => if (decide (0 ≤ n) && decide (n < 1000000000)) = true then some (.int n) else none
          | _ => none
        | none => none) = some z := e1
      cases g : mtGet t c with
      | none =>
        rw [g] at e1'
        cases e1'
      | some m =>
        rw [g] at e1'
        have e2' : (match rsD (m [.obj c ns ds]) with
          | some (.int n) => if (decide (0 ≤ n) && decide (n < 1000000000)) = true then some (.int n) else none
          | _ => none) = some z := e1'
        obtain ⟨p, e2, rfl⟩ := Option.map_eq_some_iff.mp g
        have e3 := nbeq (i := p.1) (j := c) (List.find?_some (p := fun p : Nat × (List D → Rs) => Nat.beq p.1 c) e2)
        subst e3
        obtain ⟨gf, k1, k2⟩ := hT p (List.mem_of_find?_eq_some e2)
        cases q : rsD (p.2 [.obj p.1 ns ds]) with
        | none =>
          rw [q] at e2'
          cases e2'
        | some zz =>
          rw [q] at e2'
          cases zz with
          | int n =>
            obtain ⟨c1, c2⟩ := ite_some (show (if (decide (0 ≤ n) && decide (n < 1000000000)) = true then some (D.int n) else none) = some z from e2')
            subst c2
            obtain ⟨c3, c4⟩ := Bool.and_eq_true_iff.mp c1
            have c5 := of_decide_eq_true c3
            have c6 := of_decide_eq_true c4
            have s1 : Rel (tx X) (Bar B W1) H1 (.obj p.1 ns ds) x := r1
            obtain ⟨a, dx, vs, rfl, a1, _⟩ := r1
            exact .inl ⟨a, _, dx, _, gf, _, rfl, a1, k1, k2, sp_pure o1.wf (ds := [_]) ⟨s1, trivial⟩ rfl q fun H' v sm rv => ⟨n, rv, ⟨c5, by omega⟩, h3.same o1 sm rfl⟩⟩
          | _ => cases e2'
    | _ => exact .inr (pu_len o1.wf (Rel.wk r1) e1 fun H' v s rv => h3.same o1 s rv)))
theorem de_lenA {t : MT} {Wx : WX} {ms : Ms} {e : Expr} {fa : M D} {p pos : Pos} (hT : LenOk X k t) (hr : Room (k + 1) X.A) (ha : DE X Wx ms e fa) (hg : Gl X "len") (hm : X.mg "len" = none) (hv : bootBuiltins "len" = some (.builtin "len") := by first | rfl | kernel_rfl)
    (he : starEach [e] X.env = (false, eval e X.env) :: starEach [] X.env := by rfl) (hpl : (backTo pos (starEach [] X.env)).any (·.1) = false := by rfl) : DE X Wx ms (.Call (.Name "len" p) [e] [] pos) (op1 (oLen t) fa) := fun B W env σ H Q o h =>
  PE.tm (pe_callB ((cr_lenOwn hr).or call_len_seq) hg hm hv pa_tm (by decide) (by decide) he hpl) (tm_lenA hT ha he o h)
end
end DL

set_option Elab.async false
set_option linter.all false
set_option maxRecDepth 100000
set_option maxHeartbeats 4000000
/-! an __init__ that begins with super().__init__(..) -/
namespace DL
open PySem PySem.Spec L2 PyProof.Rows PySem.W NdefX

theorem startF_eq {N : List Str} {vs : List V} (h : vs.length < N.length) : startF N vs [none] = L2.start N vs := by
  unfold startF L2.start
  have e : N.length - vs.length = (N.length - vs.length - 1) + 1 := by omega
  rw [e, List.replicate_succ]
  rfl
/-- what the text says of such a def -/
structure SupT (P : Program) (K : Frag) (mg : Str → Option Value) (f f2 cc c D : Addr) (F : NF) (N ps : List Str) : Prop where
  fn : ∃ (oc : Value) (od : Option Addr) (dV kV doc pm : Value) (an : Option Addr) (ct : Value) (osl : Array (Option Value)), K.lookup f = some ⟨oc, od, .func (fnX F.name F.qual F.params F.body F.scope F.cl dV kV doc pm an (.ref F.c) ct), osl⟩ ∧ L2.Binds K (fnX F.name F.qual F.params F.body F.scope F.cl dV kV doc pm an (.ref F.c) ct) ps []
  cl : F.cl = [(("__class__" : Str), cc)]
  cv : F.c = c
  code : codeIn K (.ref c) F.qual = true
  sc : NScope N ps ["__class__"] F.scope
  cell : ∃ cl cld csl, K.lookup cc = some ⟨cl, cld, .cell (some (.ref D)), csl⟩
  file : ∃ ccl cdd vs ccs file tf, K.lookup c = some ⟨ccl, cdd, .fields vs, ccs⟩ ∧ vs[2]? = some (.str file tf) ∧ ((P.main.file : Str) == file) = true
  cls : ∃ cdD, clsIn K D = some cdD
  sup : mg "super" = none
  top : (P.main.scope.names.lookup ("super" : Str)).isSome = false
  par : ∃ ar, (F.params.posonlyargs ++ F.params.args).head? = some ar ∧ ar.arg = ("self" : Str)
  self : ps[0]? = some ("self" : Str)
  ks : F.scope.names.lookup ("super" : Str) = some .globalImplicit
  kc : F.scope.names.lookup ("__class__" : Str) = some .free
  opq : nsIn K cStatics "thirdparty.any" = some none
  meth : ks_superIn K D D "__init__" = some (some (.ref f2))
  mty : typeIn K (.ref f2) = some (.type "function")
  mfn : fnIn K f2 = true
  mro : mroIn K D (.ref D) = some true
  big : ps.length < N.length
/-- super().__init__(..) where self is in slot 0, an instance of class cD itself -/
def vSup (cD np : Nat) (m : List DL.D → Rs) (fs : DL.M (List DL.D)) : DL.M DL.D := fun (env : DL.En) => match env[0]? with
  | some (some (DL.D.obj c _ _)) => if Nat.beq c cD = true then cCallIo np 0 m fs env else .stuck
  | _ => .stuck
section
variable {P : Program} {w : World} {K : Frag} {mg : Str → Option Value} {base : Heap} {k : Nat} {f f2 cc c : Addr} {F : NF} {N ps : List Str}
abbrev sxof (P : Program) (w : World) (K : Frag) (mg : Str → Option Value) (base : Heap) (N : List Str) (F : NF) (f : Addr) (A : Around) (outer : List Env) (s : Shared) (H : Hp) (E : XK) : Cx := ncx (L2.CX P w) P w K mg base N F f A outer s H E
theorem fnSup {cD np2 : Nat} {m : List DL.D → Rs} {g : DL.M Fl} {fs : DL.M (List DL.D)} {ms : Ms} {e : Expr} {es : List Expr} {rest : List Stmt} {p0 p1 apos cpos epos : Pos} {pl : Sem Bool} (T : SupT P K mg f f2 cc c (He.ga K (nm cD)) F N ps) (hb : F.body = .Expr (.Call (.Attribute (.Call (.Name "super" p0) [] [] p1) "__init__" apos) (e :: es) [] cpos) epos :: rest)
    (F2 : FnR P w K mg base (L2.CX P w) k f2 (SpD ⟨K, P, w, []⟩ np2 (some 0) false m)) (hms : MsOk ms ps.length (some 0)) (hms0 : ms.contains 0 = true) (hboot : bootBuiltins "super" = some (.type "super"))
    (hargs : ∀ (A : Around) (outer : List Env) (s : Shared) (H : Hp) (E : XK), Room k (A.deeper (envF F f s.heap.objs.size)) → DA (sxof P w K mg base N F f A outer s H E) (fun cls d _ H => E cls d H) ms (e :: es) fs)
    (hrest : ∀ (A : Around) (outer : List Env) (s : Shared) (H : Hp) (E : XK), Room k (A.deeper (envF F f s.heap.objs.size)) → DSs (sxof P w K mg base N F f A outer s H E) (fun cls d _ H => E cls d H) ms (rkD ⟨K, P, w, []⟩) rest g)
    (he : ∀ L : Addr, eval (.Call (.Attribute (.Call (.Name "super" p0) [] [] p1) "__init__" apos) (e :: es) [] cpos) (envF F f L) = (do
      let ov ← attributeBase (.Call (.Name "super" p0) [] [] p1) "__init__" (envF F f L) (eval (.Call (.Name "super" p0) [] [] p1) (envF F f L))
      standAt apos.atName
      let (fx, first) ← holding [ov] (getMethod ov "__init__" pl)
      callWith cpos fx first (backTo cpos (starEach (e :: es) (envF F f L))) []))
    (hsw : ∀ L : Addr, swapsWith (.Call (.Attribute (.Call (.Name "super" p0) [] [] p1) "__init__" apos) (e :: es) [] cpos) none epos.line (envF F f L) = pure false)
    (hst : ∀ L : Addr, starEach (e :: es) (envF F f L) = (false, eval e (envF F f L)) :: starEach es (envF F f L)) (hpl : ∀ L : Addr, (backTo cpos (starEach es (envF F f L))).any (·.1) = false) :
    FnR P w K mg base (L2.CX P w) (k + 1) f (SpD ⟨K, P, w, []⟩ ps.length (some 0) false (runF N.length (some 0) false (sSeq (sExpr (vSup cD np2 m fs)) g))) := by
  intro A outer s H us vs Q E hr e0 r hsp
  have hv : vs.length = ps.length := by
    obtain ⟨B, W, ds, h1, _⟩ := hsp
    exact h1
  have hu : us.length = ps.length := by rw [← r.length]; exact hv
  have KX : K.In s.heap := e0.mod.kin.keeps fun b o e => (e0.bs b o e).1
  have lim : s.heap.NoLimit := e0.mod.nolimit.keeps fun b o e => (e0.bs b o e).1
  obtain ⟨oc, od, dV, kV, doc, pm, an, ct, osl, lk, hbind⟩ := T.fn
  obtain ⟨ccl, ccd, ccs, hcell⟩ := T.cell
  have CA : CellsAt F.cl ["__class__"] [none] s.heap H := by
    refine ⟨rfl, fun y z q => ?_, fun x y z q q' => ?_, fun i y q => ?_⟩
    · rw [T.cl] at q
      have q2 : (if (y == ("__class__" : Str)) = true then some cc else none) = some z := by
        by_cases yy : (y == ("__class__" : Str)) = true
        · rw [if_pos yy]
          simpa [List.lookup, yy] using q
        · rw [if_neg yy]
          have yy' : (y == ("__class__" : Str)) = false := Bool.not_eq_true _ ▸ yy
          simp [List.lookup, yy'] at q
      obtain ⟨_, rfl⟩ := ite_some q2
      exact ⟨(e0.bs cc _ (e0.mod.kin cc _ hcell)).2, _, ⟨_, KX _ _ hcell, rfl⟩⟩
    · have one : ∀ {x : Str} {z : Addr}, F.cl.lookup x = some z → x = "__class__" := fun {x z} q => by
        rw [T.cl] at q
        by_cases yy : (x == ("__class__" : Str)) = true
        · exact beq_iff_eq.mp yy
        · have yy' : (x == ("__class__" : Str)) = false := Bool.not_eq_true _ ▸ yy
          simp [List.lookup, yy'] at q
      rw [one q, one q']
    · cases i with
      | zero =>
        have ey : y = "__class__" := (Option.some.inj q).symm
        refine ⟨cc, ?_, fun v z => by cases z⟩
        rw [T.cl, ey]
        rfl
      | succ i => cases q
  refine ks_codeAny_call_defAt (fd := fnX F.name F.qual F.params F.body F.scope F.cl dV kV doc pm an (.ref F.c) ct) (body := F.body) (binds := ps.zip us) hr.depth (KX _ _ lk) rfl lim (codeRec_of KX (by rw [T.cv]; exact T.code)) rfl (by have q := hbind s us KX (by rw [List.append_nil]; exact hu); rw [List.append_nil] at q; exact q) T.sc.nocell
    (fun y hy => T.sc.par y.1 (List.of_mem_zip (show (y.1, y.2) ∈ ps.zip us from hy)).1) (fun h₁ hns hk₁ => ?_) T.sc.co T.sc.gen T.sc.kind
  have I : Inv (sxof P w K mg base N F f A outer s H E) [] (startF N vs [none]) H { s with heap := h₁, toks := s.toks + (ps.zip us).length } := inv_startN T.sc hr.hd e0 hv r CA hns hk₁
  rw [startF_eq (by rw [hv]; exact T.big)] at I
  obtain ⟨Bx, W, env, o, p⟩ := sp_enter hms (Nat.le_of_lt T.big) hsp
  have tk : Takes (sxof P w K mg base N F f A outer s H E) (fun cls d _ H => E cls d H) := takes_of rfl rfl rfl rfl
  have room : Room k (A.deeper (envF F f s.heap.objs.size)) := hr.deeper _
  refine ks_wpAt_mono (Q := SP (sxof P w K mg base N F f A outer s H E) [] { nx := fun _ H' => Q .non H', rt := Q }) (E := (sxof P w K mg base N F f A outer s H E).xe) ?_ (fun fl s' hs => ?_) (fun e s' hs => hs)
  · have q1 := PoS.seq (X := sxof P w K mg base N F f A outer s H E) (t := tmSs (sxof P w K mg base N F f A outer s H E) rest) p (fun env1 W1 H1 σ1 n1 o1 q => hrest A outer s H E room _ _ _ _ _ _ o1 q)
    have p2 := PoS.cont (k1 := rkD ⟨K, P, w, []⟩) (σ := L2.start N vs) (Q1 := fun _ H1 => tmSs (sxof P w K mg base N F f A outer s H E) rest { nx := fun _ H' => Q .non H', rt := Q } (L2.start N vs) H1) q1 (fun d env1 W1 H1 v n1 o1 r1 q => q W1 H1 _ (Nxt.refl _ _) o1)
    show PySem.wpAt (model P w) (A.deeper (envF F f s.heap.objs.size)) (.func F.body (envF F f s.heap.objs.size)) (execs F.body (envF F f s.heap.objs.size)) _ _ _
    have hex : execs F.body (envF F f s.heap.objs.size) = execs (.Expr (.Call (.Attribute (.Call (.Name "super" p0) [] [] p1) "__init__" apos) (e :: es) [] cpos) epos :: rest) (envF F f s.heap.objs.size) := by rw [hb]
    rw [hex]
    have calmly : interactive (envF F f s.heap.objs.size) = false := by
      unfold interactive
      rw [show (envF F f s.heap.objs.size).scope.kind = .function from T.sc.kind]
      rfl
    refine ks_wpAt_execs_cons (ks_wpAt_Expr_any (ks_wpAt_MethodCall (pl := pl) ?_ (he _)) calmly (hsw _))
    -- self
    obtain ⟨a, dx, fs0, hs0, haH, hcell0⟩ : ∃ (a : Addr) (dx : Addr) (fs0 : List (Str × V)), (L2.start N vs)[0]? = some (some (.ref a)) ∧ H a = some (.ins (He.ga K (nm cD)) dx fs0) ∧ ∃ d0, env[0]? = some (some d0) := by
      unfold vSup at p2
      cases q : env[0]? with
      | none =>
        rw [q] at p2
        exact p2.elim
      | some z =>
        cases z with
        | none =>
          rw [q] at p2
          exact p2.elim
        | some d =>
          rw [q] at p2
          cases d with
          | obj c0 ns0 ds0 =>
            by_cases hq : Nat.beq c0 cD = true
            · have e0 := nbeq hq
              subst e0
              obtain ⟨v, e1, e2⟩ := o.mu 0 _ hms0 q
              obtain ⟨a, dx, ws, rfl, _, e3, _⟩ := e2
              exact ⟨a, dx, _, e1, e3, _, rfl⟩
            · have p3 : Po ⟨K, P, w, []⟩ (fun cls d _ H => E cls d H) ms Bx W (L2.start N vs) H (rkD ⟨K, P, w, []⟩) (if Nat.beq c0 cD = true then cCallIo np2 0 m fs env else .stuck) _ := p2
              rw [if_neg hq] at p3
              exact p3.elim
          | _ => exact p2.elim
    have p4 : Po ⟨K, P, w, []⟩ (fun cls d _ H => E cls d H) ms Bx W (L2.start N vs) H (rkD ⟨K, P, w, []⟩) (cCallIo np2 0 m fs env) (fun _ H1 => tmSs (sxof P w K mg base N F f A outer s H E) rest { nx := fun _ H' => Q .non H', rt := Q } (L2.start N vs) H1) := by
      unfold vSup at p2
      cases q : env[0]? with
      | none =>
        rw [q] at p2
        exact p2.elim
      | some z =>
        cases z with
        | none =>
          rw [q] at p2
          exact p2.elim
        | some d =>
          rw [q] at p2
          cases d with
          | obj c0 ns0 ds0 =>
            have p3 : Po ⟨K, P, w, []⟩ (fun cls d _ H => E cls d H) ms Bx W (L2.start N vs) H (rkD ⟨K, P, w, []⟩) (if Nat.beq c0 cD = true then cCallIo np2 0 m fs env else .stuck) (fun _ H1 => tmSs (sxof P w K mg base N F f A outer s H E) rest { nx := fun _ H' => Q .non H', rt := Q } (L2.start N vs) H1) := p2
            by_cases hq : Nat.beq c0 cD = true
            · rw [if_pos hq] at p3
              exact p3
            · rw [if_neg hq] at p3
              exact p3.elim
          | _ => exact p2.elim
    obtain ⟨mA, J, _⟩ := ins_get I.hok haH
    obtain ⟨od2, J, _⟩ := J.look
    obtain ⟨fccl, fcdd, fvs, fccs, file, tf, fk, fv, ff⟩ := T.file
    obtain ⟨ar, par1, par2⟩ := T.par
    obtain ⟨cdD, hD⟩ := T.cls
    have X1 : K.In h₁ := KX.keeps hk₁
    obtain ⟨oD, hD1, hD2⟩ : ∃ oD, h₁.get? (He.ga K (nm cD)) = some oD ∧ oD.data = .cls cdD := by
      unfold clsIn at hD
      split at hD
      · rename_i c d cd' sl ho
        cases hD
        exact ⟨_, X1 _ _ ho, rfl⟩
      · cases hD
    refine ks_wpAt_super_base (env := envF F f s.heap.objs.size) T.ks T.kc rfl rfl (X1 _ _ lk) rfl par1 (cc := F.c) rfl (by rw [T.cv]; exact X1 _ _ fk) rfl fv ff T.top ?_
    obtain ⟨mb, hb1, hb2⟩ := I.mod.blt
    refine ks_loadName_global T.sc.kind T.ks (Calls.loadGlobal_builtin (by rw [show (envF F f s.heap.objs.size).globals = mainGlobals from rfl]; exact I.mod.glob.keeps I.bk) T.sup (by rw [show (envF F f s.heap.objs.size).builtins = builtinsNs from rfl]; exact hb1.keeps I.bk) ((hb2 _ (by decide)).trans hboot) ⟨rfl, ?_⟩)
    refine wpAny_loadName_free (c := cc) T.sc.kind T.kc (by show F.cl.lookup _ = _; rw [T.cl]; rfl) ⟨_, X1 _ _ hcell, rfl⟩ ?_
    have selfAt : ∃ mL, h₁.Ns s.heap.objs.size mL ∧ mL ar.arg = some (.ref a) := by
      obtain ⟨mL, n1, n2⟩ := I.loc
      have e1 : N[0]? = some ("self" : Str) := by
        have e2 := congrArg (fun l : List Str => l[0]?) T.sc.pre
        have pos : 0 < ps.length := (List.getElem?_eq_some_iff.mp T.self).1
        have e3 : (N.take (ps.length + 1))[0]? = (ps ++ [("__class__" : Str)])[0]? := e2
        rw [List.getElem?_take_of_lt (by omega), List.getElem?_append_left pos, T.self] at e3
        exact e3
      have lk0 : F.scope.names.lookup ("self" : Str) = some .local := T.sc.par _ (List.mem_of_getElem? T.self)
      obtain ⟨u, ru, q⟩ := n2 0 "self" (.ref a) e1 hs0 (.inl lk0)
      cases ru
      rcases q with ⟨_, q⟩ | ⟨q, _⟩
      · exact ⟨mL, n1, by rw [par2]; exact q⟩
      · rcases q with q | q
        · have q' : F.scope.names.lookup ("self" : Str) = some .cell := q
          rw [lk0] at q'
          cases q'
        · have q' : F.scope.names.lookup ("self" : Str) = some .free := q
          rw [lk0] at q'
          cases q'
    obtain ⟨mL, nsL, mself⟩ := selfAt
    refine wpAny_loadName_local T.sc.kind (by rw [par2]; exact T.sc.par _ (List.mem_of_getElem? T.self)) nsL mself ?_
    refine ks_wpAny_isType_cls hD1 hD2 ⟨rfl, ?_⟩
    have inst := J
    refine ks_wpAny_call_super hD1 hD2 inst.at_ inst.cls (fun c q => ?_) (looks_mroIn X1 T.mro) (fun h2 atS k2 => ?_)
    · have := inst.no
      unfold notCls at this
      rw [q] at this
      exact Bool.noConfusion this
    -- the super object is there
    have I1 : Inv (sxof P w K mg base N F f A outer s H E) [] (L2.start N vs) H { heap := h2, gens := s.gens, drawn := s.drawn, toks := s.toks + (ps.zip us).length, os := s.os } := I.kept k2
    have X2 : K.In h2 := X1.keeps k2
    obtain ⟨of2, g1, g2⟩ : ∃ of2, h2.get? f2 = some of2 ∧ of2.cls = .type "function" := by
      have ty : (K.lookup f2).map (·.cls) = some (.type "function") := T.mty
      cases z : K.lookup f2 with
      | none =>
        rw [z] at ty
        cases ty
      | some of2 =>
        rw [z] at ty
        exact ⟨of2, X2 _ _ z, Option.some.inj ty⟩
    have along : alongIn K "__init__" ((cdD.mro.dropWhile (· != .ref (He.ga K (nm cD)))).drop 1) = some (some (.ref f2)) := by
      have q := T.meth
      unfold ks_superIn at q
      rw [hD] at q
      exact q
    refine ks_wpAny_getMethod_super atS (looks_opaque X2 T.opq) (l₀ := cdD.mro) ((looks_clsIn X2 hD).andThen .now) rfl X2 along g1 g2 (ks_ne X1 inst hD) (by decide) ?_
    have I2 : Inv (sxof P w K mg base N F f A outer s H E) ((h2.objs.size, methodObj (.ref f2) (.ref a)) :: []) (L2.start N vs) H { heap := h2.push (methodObj (.ref f2) (.ref a)), gens := s.gens, drawn := s.drawn, toks := s.toks + (ps.zip us).length + 1, os := s.os } :=
      ClX.pin_new (s := { heap := h2, gens := s.gens, drawn := s.drawn, toks := s.toks + (ps.zip us).length, os := s.os }) (t' := s.toks + (ps.zip us).length + 1) I1 (fun _ _ z => Heap.get?_push_of_some _ z) (Nat.le_refl _) (Heap.get?_push_size h2 rfl) (fun v z => nomatch z)
    have da := hargs A outer s H E room
    unfold cCallIo at p4
    obtain ⟨d0, hd0⟩ := hcell0
    rw [hd0] at p4
    have args := da Bx W env (L2.start N vs) H (fun vs2 H1 => SpD ⟨K, P, w, []⟩ np2 (some 0) false m (.ref a :: vs2) H1 (fun _ H1 => tmSs (sxof P w K mg base N F f A outer s H E) rest { nx := fun _ H' => Q .non H', rt := Q } (L2.start N vs) H1) (WE (fun cls d _ H => E cls d H) (L2.start N vs))) o
      (Po.cont (k1 := rkL ⟨K, P, w, []⟩) p4 fun ds env1 W1 H1 ws n1 o1 r1 h1 => by
        cases q : env1[0]? with
        | none =>
          rw [q] at h1
          exact h1.elim
        | some z =>
          cases z with
          | none =>
            rw [q] at h1
            exact h1.elim
          | some d1 =>
            simp only [q] at h1
            by_cases hn : ds.length + 1 = np2
            · rw [if_pos hn] at h1
              exact sp_callIo (X := sxof P w K mg base N F f A outer s H E) (fr := false) o1 hms0 q hs0 r1 hn h1
            · rw [if_neg hn] at h1
              exact h1.elim)
    refine ClX.callwith_cm I2 (ClX.base_none I1 (Nat.le_refl _)) T.mfn ?_ (hst _) (hpl _)
    refine thn (pa_tm.run cpos _ _ _ _ _ I2 args) fun us2 s3 hh => ?_
    obtain ⟨ws, H2, I3, rv, q3⟩ := hh
    refine ⟨⟨ClX.pin_at I3, I3.kIn⟩, ?_⟩
    refine wpAny_call (method_call (ClX.pin_at I3) (codeAny_mono (run_fnRS (X := sxof P w K mg base N F f A outer s H E) (E := WE (fun cls d _ H => E cls d H)) (us := .ref a :: us2) (vs := .ref a :: ws) F2 room (passAt tk (L2.start N vs)) I3 (.cons rfl rv) q3) fun r s4 hr4 => ?_))
    cases r with
    | error er => exact hr4
    | ok fl =>
      cases fl with
      | ret v =>
        obtain ⟨_, H4, I4, _, q4⟩ := hr4
        exact wpAt_of_wpAny (pss_tm.run [] s4 _ _ _ (ClX.unpin I4) q4)
      | next => exact False.elim hr4
      | brk => exact False.elim hr4
      | cont => exact False.elim hr4
  · have fin : ∀ {σ' : L2.St} {H' : Hp} {v : V} {u : Value}, Inv (sxof P w K mg base N F f A outer s H E) [] σ' H' s' → L2.RelV v u → Q v H' → CE outer P w H s Q u s' :=
      fun {σ' H' v u} J rv q => ⟨v, H', J.os, J.bare, J.base, J.hok, rv, q⟩
    cases fl with
    | ret u =>
      obtain ⟨v, σ', H', J, rv, q⟩ := hs
      exact fin J rv q
    | next =>
      obtain ⟨σ', H', J, q⟩ := hs
      exact fin (v := V.non) (u := Value.none) J rfl q
    | brk =>
      obtain ⟨_, _, _, q⟩ := hs
      exact False.elim q
    | cont =>
      obtain ⟨_, _, _, q⟩ := hs
      exact False.elim q
end
end DL

set_option Elab.async false
set_option linter.all false
set_option maxRecDepth 100000
set_option maxHeartbeats 4000000
/-! a classmethod called on a class -/
namespace DL
open PySem PySem.Spec L2 PyProof.Rows PySem.W ClX
/-- the class has this classmethod -/
structure CmOk (X : Cx) (k np c f : Nat) (m : List D → Rs) : Prop where
  ex : ∃ mc p g, CRead X.K (He.ga X.K (nm c)) mc ∧ CMet X.K (He.ga X.K (nm c)) mc (nm f) p g ∧ Fn X k g np none false m
def cClsM (np c : Nat) (m : List D → Rs) (fa : M D) (fs : M (List D)) : M D := fun env => (fa env).bind fun d env1 => match d with
  | .cls c' => if Nat.beq c' c = true then (fs env1).bind fun es env2 => if (D.cls c :: es).length = np then (match m (D.cls c :: es) with
      | .ok d _ => .ok d env2
      | .err c ns es _ => .err c ns es env2
      | .stuck => .stuck) else .stuck else .stuck
  | _ => .stuck
section
variable {X : Cx} {Wx : WX} {ms : Ms} {np k : Nat} {o e : Expr} {es : List Expr} {x : Str} {p pos apos : Pos} {fa : M D} {fs : M (List D)} {pl : Sem Bool}
theorem run_cmS {C g q : Addr} {σ : L2.St} {H : Hp} {s : Shared} {pins : List (Addr × Obj)} {sp : Sp} {Q : VK} {us : List Value} {vs : List V} (F : FnR X.prog X.w X.K X.mg X.base (L2.CX X.prog X.w) k g sp) (hr : Room k X.A) (tk : Takes X Wx)
    (I : Inv X ((q, PySem.W.methodObj (.ref g) (.ref C)) :: pins) σ H s) (r : Vals vs us) (h : sp (.ref C :: vs) H Q (WE Wx σ)) : wpAny (model X.prog X.w) X.A (call (.ref q) us) (EP X pins σ Q) X.xe s := by
  have z : wpAny (model X.prog X.w) X.A (call (.ref q) us) (EP X ((q, PySem.W.methodObj (.ref g) (.ref C)) :: pins) σ Q) X.xe s :=
    wpAny_call (PySem.W.method_call (pin_at I) (run_fnRS (us := .ref C :: us) (vs := .ref C :: vs) (E := WE Wx) F hr (passAt tk σ) I (.cons rfl r) h))
  exact thn z fun _ _ y => unpinE y
theorem de_clsM (c f : Nat) {m : Str} {g : List D → Rs} (hc : CmOk X k np c f g) (hr : Room k X.A) (tk : Takes X Wx) (ho : DE X Wx ms o fa) (hb : DA X Wx ms (e :: es) fs) (hx : nm f = m := by rfl)
    (hst : starEach (e :: es) X.env = (false, eval e X.env) :: starEach es X.env := by rfl) (hpl : (backTo pos (starEach es X.env)).any (·.1) = false := by rfl)
    (ht : eval (.Call (.Attribute o m apos) (e :: es) [] pos) X.env = (do
      let ov ← eval o X.env
      standAt apos.atName
      let (f, first) ← holding [ov] (getMethod ov m pl)
      callWith pos f first (backTo pos (starEach (e :: es) X.env)) (backToKw pos (keywordEach [] X.env))) := by rfl) : DE X Wx ms (.Call (.Attribute o m apos) (e :: es) [] pos) (cClsM np c g fa fs) := fun B W env σ H Q ok h => by
  subst hx
  obtain ⟨mc, p, gf, k1, k2, k3⟩ := hc.ex
  unfold tm
  intro pins s I
  refine PySem.W.methodCall_KW (pl := pl) (thn (pe_tm.run pins s _ _ _ I (ho _ _ _ _ _ (fun v H1 => v = V.ref (He.ga X.K (nm c)) ∧ tmA X (e :: es) σ H1 fun vs H2 => SpD (tx X) np none false g (v :: vs) H2 Q (WE Wx σ)) ok
    (Po.cont (k1 := rkD (tx X)) h fun d env1 W1 H1 v n1 o1 r1 h1 => ?_))) fun u s1 ⟨v, H1, I1, rx, ev, q⟩ => ?_) ht
  · cases d with
    | cls c' =>
      by_cases q : Nat.beq c' c = true
      · have e0 := nbeq q
        subst e0
        simp only [q, if_true] at h1
        have r1' : v = V.ref (He.ga X.K (nm c')) := r1
        subst r1'
        refine ⟨rfl, hb _ _ _ _ _ _ o1 (Po.cont (k1 := rkL (tx X)) h1 fun es env2 W2 H2 ws n2 o2 s1 h2 => ?_)⟩
        have rr : RelL (tx X) (Bar B W2) H2 (.cls c' :: es) (.ref (He.ga X.K (nm c')) :: ws) := ⟨rfl, s1⟩
        exact sp_call' o2 rr h2
      · simp only [if_neg q] at h1
        exact h1.elim
    | _ => exact h1.elim
  · subst ev
    obtain rfl : u = Value.ref (He.ga X.K (nm c)) := rx
    refine getmethcm_ok I1 k1 k2 fun s2 I2 => ?_
    refine callwith_cm I2 (base_none I1 (Nat.le_refl _)) k2.fi (thn (pa_tm.run pos _ s2 _ _ _ I2 q) fun us s3 ⟨vs, H2, I3, rv, q2⟩ => ⟨⟨pin_at I3, I3.kIn⟩, ?_⟩) hst hpl
    exact run_cmS k3 hr tk I3 rv q2
end
end DL

set_option Elab.async false
set_option linter.all false
set_option maxRecDepth 100000
set_option maxHeartbeats 4000000
/-! a comprehension of two clauses -/
namespace DL
open PySem PySem.Spec L2
def lc2Go (i i1 : Nat) (gc : M Bool) (f1 : M (List D)) (gc1 : M Bool) (fe : M D) : Nat → List D → M (List D)
  | _, [] => fun env => .ok [] env
  | n, x :: xs => fun env => match gc (env.set i (some x)) with
    | .ok true env1 => match f1 env1 with
      | .ok zs env2 => match lcGo i1 gc1 fe n zs (env2.set i1 none) with
        | .ok ys env3 => (lc2Go i i1 gc f1 gc1 fe (n + ys.length) xs ((env3.set i none).set i1 none)).bind fun rest env4 => .ok (ys ++ rest) env4
        | _ => .stuck
      | _ => .stuck
    | .ok false env1 => lc2Go i i1 gc f1 gc1 fe n xs ((env1.set i none).set i1 none)
    | _ => .stuck
def lc2M (i i1 : Nat) (fi : M (List D)) (gc : M Bool) (f1 : M (List D)) (gc1 : M Bool) (fe : M D) : M D := fun env => (fi env).bind fun ds env1 => match lc2Go i i1 gc f1 gc1 fe 0 ds ((env1.set i none).set i1 none) with
  | .ok ys env3 => .ok (.lst ys) (env3.set i (env1.getD i none))
  | _ => .stuck
theorem lc2_step {i i1 : Nat} {gc gc1 : M Bool} {f1 : M (List D)} {fe : M D} {n : Nat} {x : D} {xs ys : List D} {env env4 : En} (h : lc2Go i i1 gc f1 gc1 fe n (x :: xs) env = .ok ys env4) :
    ∃ c env1, gc (env.set i (some x)) = .ok c env1 ∧ (c = true → ∃ zs env2 ys1 env3 rest, f1 env1 = .ok zs env2 ∧ lcGo i1 gc1 fe n zs (env2.set i1 none) = .ok ys1 env3 ∧ lc2Go i i1 gc f1 gc1 fe (n + ys1.length) xs ((env3.set i none).set i1 none) = .ok rest env4 ∧ ys = ys1 ++ rest)
      ∧ (c = false → lc2Go i i1 gc f1 gc1 fe n xs ((env1.set i none).set i1 none) = .ok ys env4) := by
  unfold lc2Go at h
  cases q : gc (env.set i (some x)) with
  | ok c env1 =>
    rw [q] at h
    refine ⟨c, env1, rfl, fun e => ?_, fun e => ?_⟩
    · subst e
      simp only at h
      cases q2 : f1 env1 with
      | ok zs env2 =>
        rw [q2] at h
        simp only at h
        cases q3 : lcGo i1 gc1 fe n zs (env2.set i1 none) with
        | ok ys1 env3 =>
          rw [q3] at h
          simp only at h
          obtain ⟨rest, e1, h1, h2⟩ := R.bind_ok h
          injection h2 with h3 h4
          subst h4
          exact ⟨zs, env2, ys1, env3, rest, rfl, q3, h1, h3.symm⟩
        | err c ns es env => rw [q3] at h; cases h
        | stuck => rw [q3] at h; cases h
      | err c ns es env => rw [q2] at h; cases h
      | stuck => rw [q2] at h; cases h
    · subst e
      exact h
  | err c ns es env => rw [q] at h; cases h
  | stuck => rw [q] at h; cases h
/-- the list under way stands at p -/
structure At (T : Tx) (ms : Ms) (B : Br) (p : Addr) (W : Addr → Prop) (env : En) (σ : St) (H : Hp) (acc : List D) : Prop where
  np : ¬ W p
  ok : Ok T ms (B.and p) W env σ H
  rel : ∃ vs, H p = some (.lst vs) ∧ RelL T (Bar (B.and p) W) H acc vs
abbrev NxP (p : Addr) (W : Addr → Prop) (H : Hp) (W' : Addr → Prop) (H' : Hp) : Prop := Nxt (fun c => W c ∨ c = p) H (fun c => W' c ∨ c = p) H'
section
variable {T : Tx} {ms : Ms} {B : Br} {p : Addr} {W W' : Addr → Prop} {env env' : En} {σ : St} {H H' : Hp} {acc : List D}
theorem At.same (a : At T ms B p W env σ H acc) (s : Same H H') : At T ms B p W env σ H' acc := ⟨a.np, a.ok.same s, by
  obtain ⟨vs, h1, h2⟩ := a.rel
  exact ⟨vs, s _ _ h1, RelL.ext (Ext.same s) _ h2⟩⟩
theorem At.wipe {i : Nat} (a : At T ms B p W env σ H acc) (hm : ms.contains i = false) (hio : ms.io.contains i = false) : At T ms B p W (env.set i none) (σ.set i none) H acc := ⟨a.np, a.ok.wipe hm hio, a.rel⟩
theorem At.set {i : Nat} {x : V} {d : D} (a : At T ms B p W env σ H acc) (hm : ms.contains i = false) (hio : ms.io.contains i = false) (r : Rel T (Bar (B.and p) W) H d x) : At T ms B p W (env.set i (some d)) (σ.set i (some x)) H acc := ⟨a.np, a.ok.set hm hio r, a.rel⟩
theorem At.next (a : At T ms B p W env σ H acc) (n : Nxt W H W' H') (o : Ok T ms (B.and p) W' env' σ H') : At T ms B p W' env' σ H' acc := by
  obtain ⟨vs, h1, h2⟩ := a.rel
  refine ⟨fun z => ?_, o, vs, n.keep _ _ h1 a.np, RelL.ext n.ext _ h2⟩
  rcases n.new p z with z | z
  · exact a.np z
  · rw [h1] at z; cases z
theorem Nxt.wp (n : Nxt W H W' H') : NxP p W H W' H' := ⟨fun a u e m => n.keep a u e fun z => m (.inl z), fun a z => by
  rcases z with z | z
  · rcases n.new a z with z | z
    · exact .inl (.inl z)
    · exact .inr z
  · exact .inl (.inr z), n.live⟩
theorem At.push {y : D} {v : V} (a : At T ms B p W env σ H acc) (r : Rel T (Bar (B.and p) W) H y v) : ∃ vs, H p = some (.lst vs) ∧ vs.length = acc.length ∧ At T ms B p W env σ (upd H p (.lst (vs ++ [v]))) (acc ++ [y]) ∧ NxP p W H W (upd H p (.lst (vs ++ [v]))) := by
  obtain ⟨vs, h1, h2⟩ := a.rel
  have ew : Ext (Bar (B.and p) W) H (Bar (B.and p) W) (upd H p (.lst (vs ++ [v]))) := ⟨fun a u e n => by rw [upd_ne (fun z => n (.inl (.inr z)))]; exact e, fun a z => .inl z⟩
  refine ⟨vs, h1, h2.length.symm, ⟨a.np, a.ok.other (.inr rfl) a.np, _, upd_same, RelL.ext ew _ (h2.append ⟨r, trivial⟩)⟩, ⟨fun a u e n => by rw [upd_ne (fun z => n (.inr z))]; exact e, fun a z => .inl z, fun a u e => ?_⟩⟩
  by_cases ea : a = p
  · exact ⟨_, by rw [ea]; exact upd_same⟩
  · exact ⟨u, by rw [upd_ne ea]; exact e⟩
theorem NxP.ext (n : NxP p W H W' H') : Ext (Bar (B.and p) W) H (Bar (B.and p) W') H' := ⟨fun a u e m => n.keep a u e fun z => by
    rcases z with z | z
    · exact m (.inr z)
    · exact m (.inl (.inr z)), fun a z => by
    rcases z with z | z
    · exact .inl (.inl z)
    · rcases n.new a (.inl z) with (z | z) | z
      · exact .inl (.inr z)
      · exact .inl (.inl (.inr z))
      · exact .inr z⟩
theorem NxP.ext0 (n : NxP p W (upd H p (.lst [])) W' H') (hp : H p = none) : Ext (Bar B W) H (Bar (B.and p) W') H' := by
  refine ⟨fun a u e m => n.keep a u (Same.upd hp a u e) fun z => ?_, fun a z => ?_⟩
  · rcases z with z | z
    · exact m (.inr z)
    · rw [z, hp] at e
      cases e
  · rcases z with (z | z) | z
    · exact .inl (.inl z)
    · exact .inr (by rw [z]; exact hp)
    · rcases n.new a (.inl z) with (z | z) | z
      · exact .inl (.inr z)
      · exact .inr (by rw [z]; exact hp)
      · exact .inr ((Same.upd hp).free z)
theorem NxP.nxt (n : NxP p W (upd H p (.lst [])) W' H') (hp : H p = none) : Nxt W H (fun c => W' c ∨ c = p) H' := by
  refine ⟨fun a u e m => n.keep a u (Same.upd hp a u e) fun z => ?_, fun a z => ?_, fun a u e => n.live a u (Same.upd hp a u e)⟩
  · rcases z with z | z
    · exact m z
    · rw [z, hp] at e
      cases e
  · rcases n.new a z with (z | z) | z
    · exact .inl z
    · exact .inr (by rw [z]; exact hp)
    · exact .inr ((Same.upd hp).free z)
/-- a slot of which nothing is known -/
theorem Ok.unset {i : Nat} (o : Ok T ms B W env (σ.set i none) H) (he : env[i]? = some none ∨ env[i]? = none) : Ok T ms B W env σ H := by
  have ne : ∀ {j : Nat} {d : D}, env[j]? = some (some d) → j ≠ i := fun {j d} h e => by
    subst e
    rcases he with z | z
    · rw [h] at z; cases z
    · rw [h] at z; cases z
  have sg : ∀ {j : Nat} {v : V}, (σ.set i none)[j]? = some (some v) → σ[j]? = some (some v) := fun h => (set_none_get h).2
  refine ⟨by rw [← o.len, List.length_set], o.wf, fun j d h e => ?_, fun j d h e => ?_, fun j k d e a hj hk n h1 h2 s1 s2 => ?_, fun j v h => ?_⟩
  · obtain ⟨v, e1, e2⟩ := o.sl j d h e
    exact ⟨v, sg e1, e2⟩
  · obtain ⟨v, e1, e2⟩ := o.mu j d h e
    exact ⟨v, sg e1, e2⟩
  · exact o.dj j k d e a hj hk n h1 h2 (by rw [List.getElem?_set_ne (Ne.symm (ne h1))]; exact s1) (by rw [List.getElem?_set_ne (Ne.symm (ne h2))]; exact s2)
  · obtain ⟨e1, e2, e3, d, e4⟩ := o.fx j v h
    exact ⟨e1, e2, sg e3, d, e4⟩
theorem wen (env : En) (i : Nat) : (env.set i none)[i]? = some none ∨ (env.set i none)[i]? = none := by
  by_cases hl : i < env.length
  · exact .inl (List.getElem?_set_self hl)
  · exact .inr (List.getElem?_eq_none (by rw [List.length_set]; omega))
theorem wen2 (env : En) {i j : Nat} (h : i ≠ j) : ((env.set i none).set j none)[i]? = some none ∨ ((env.set i none).set j none)[i]? = none := by
  rw [List.getElem?_set_ne (Ne.symm h)]
  exact wen env i
theorem wipe_a {i j : Nat} {x : Option V} (s : St) (h : i ≠ j) : ((((s.set i none).set j none).set i x).set i none).set j none = (s.set i none).set j none := by
  rw [List.set_set, List.set_comm _ _ (Ne.symm h), List.set_set, List.set_set]
theorem wipe_b {i j : Nat} {x : Option V} (s : St) (h : i ≠ j) : (((((s.set i none).set j none).set i x).set j none).set i none).set j none = (s.set i none).set j none := by
  rw [List.set_comm (l := ((s.set i none).set j none).set i x) _ _ (Ne.symm h), List.set_set, wipe_a s h]
end
section
variable {X : Cx} {ms : Ms} {Wx : WX}
theorem blk_di (hc : X.calm = true) {s : Shared} {H0 : Hp} {scope : Scope} {cenv : Env} {fp : List Addr} {tg iter : Expr} {f : M (List D)} (h : DI (X.blk s H0 scope cenv fp) Wx ms tg iter f) : ∀ B W env σ H R, Ok (tx X) ms B W env σ H → Po (tx X) Wx ms B W σ H (rkI (tx X)) (f env) R → tmI (X.blk s H0 scope cenv fp) tg iter σ H R := by
  unfold DI at h
  rw [blk_tx hc] at h
  exact h
abbrev tmIB (X : Cx) (scope : Scope) (tg iter : Expr) : TI := fun σ H R => ∀ (s0 : Shared) (H0 : Hp) (C : Addr) (cl : List (Str × Addr)) (fp : List Addr), tmI (X.blk s0 H0 scope (compEnvC scope cl C X.env) fp) tg iter σ H R
theorem tm_lc2 {tg iter tg1 iter1 elt : Expr} {scope : Scope} {fi f1 : M (List D)} {gc gc1 : M Bool} {fe : M D} {tt tt1 : TT} (hcalm : X.calm = true) (i i1 : Nat) (hne : i ≠ i1) (hm : ms.contains i = false) (hio : ms.io.contains i = false) (hm1 : ms.contains i1 = false) (hio1 : ms.io.contains i1 = false)
    (hi : DI X Wx ms tg iter fi) (ht : ∀ B W env σ H Q, Ok (tx X) ms B W env σ H → Po (tx X) WF ms B W σ H (rkB (tx X)) (gc env) Q → tt σ H Q) (ht1 : ∀ B W env σ H Q, Ok (tx X) ms B W env σ H → Po (tx X) WF ms B W σ H (rkB (tx X)) (gc1 env) Q → tt1 σ H Q)
    (hi1 : ∀ (s : Shared) (H : Hp) (C : Addr) (cl : List (Str × Addr)) (fp : List Addr), DI (X.blk s H scope (compEnvC scope cl C X.env) fp) WF ms tg1 iter1 f1)
    (he : ∀ (s : Shared) (H : Hp) (C : Addr) (cl : List (Str × Addr)) (fp : List Addr), DE (X.blk s H scope (compEnvC scope cl C X.env) fp) WF ms elt fe) {B : Br} {W : Addr → Prop} {env : En} {σ : St} {H : Hp} {Q : VK}
    (o : Ok (tx X) ms B W env σ H) (h : Po (tx X) Wx ms B W σ H (rkF (tx X) ms) (lc2M i i1 fi gc f1 gc1 fe env) Q) : tLc2 (tmI X tg iter) (gName i) tt (tmIB X scope tg1 iter1) (gName i1) tt1 (tmB X scope elt) [i1, i] [i1] σ H Q := by
  refine hi _ _ _ _ _ _ o (Po.cont (k1 := rkI (tx X)) h fun ds env1 W1 H1 J n1 o1 sv h1 p hp => ?_)
  cases q0 : lc2Go i i1 gc f1 gc1 fe 0 ds ((env1.set i none).set i1 none) with
  | err c ns es env => rw [q0] at h1; exact h1.elim
  | stuck => rw [q0] at h1; exact h1.elim
  | ok ys env3 =>
    rw [q0] at h1
    have pw : ¬ W1 p := fun z => by
      obtain ⟨u, e⟩ := o1.wf p (.inr z)
      rw [hp] at e; cases e
    have a1 : At (tx X) ms B p W1 ((env1.set i none).set i1 none) ((σ.set i none).set i1 none) (upd H1 p (.lst [])) [] := ⟨pw, (((o1.wipe hm hio).wipe hm1 hio1).bar hp), [], upd_same, trivial⟩
    refine ⟨fun j m H2 => m = ds.length - j ∧ j ≤ ds.length ∧ ∃ W2 env2 acc rest, NxP p W1 (upd H1 p (.lst [])) W2 H2 ∧ At (tx X) ms B p W2 env2 ((σ.set i none).set i1 none) H2 acc ∧ (env2[i]? = some none ∨ env2[i]? = none) ∧ (env2[i1]? = some none ∨ env2[i1]? = none) ∧
        lc2Go i i1 gc f1 gc1 fe acc.length (ds.drop j) env2 = .ok rest env3 ∧ ys = acc ++ rest,
      ⟨ds.length, by simp, Nat.zero_le _, W1, _, [], ys, Nxt.refl _ _, a1, wen2 _ hne, wen _ _, q0, rfl⟩, ?_⟩
    rintro j m H2 ⟨rfl, hj, W2, env2, acc, rest, n2, a2, hen, hen1, g2, ey⟩
    obtain ⟨s1, s2⟩ := sv (Bar (B.and p) W2) H2 (NxP.ext0 n2 hp) j
    by_cases hlt : j < ds.length
    · obtain ⟨y1, y2⟩ := s1 ds[j] (List.getElem?_eq_getElem hlt)
      rw [List.drop_eq_getElem_cons hlt] at g2
      obtain ⟨c, env4, gc1', gT, gF⟩ := lc2_step g2
      refine .inr ⟨y1, fun H' => ∃ W2 env2 acc rest, NxP p W1 (upd H1 p (.lst [])) W2 H' ∧ At (tx X) ms B p W2 env2 ((σ.set i none).set i1 none) H' acc ∧ (env2[i]? = some none ∨ env2[i]? = none) ∧ (env2[i1]? = some none ∨ env2[i1]? = none) ∧
        lc2Go i i1 gc f1 gc1 fe acc.length (ds.drop (j + 1)) env2 = .ok rest env3 ∧ ys = acc ++ rest, fun H' q => ⟨ds.length - (j + 1), by omega, rfl, hlt, q⟩, fun x H' y => ?_⟩
      obtain ⟨q1, q2⟩ := y2 x H' y
      have a3 := (a2.same q1).set hm hio q2
      refine ⟨wipe_a σ hne, ht _ _ _ _ _ _ a3.ok ?_⟩
      rw [gc1']
      intro W4 H4 b n4 o4 eb
      have eb' : b = c := eb
      subst eb'
      have a4 := a3.next n4 o4
      have n24 : NxP p W1 (upd H1 p (.lst [])) W4 H4 := n2.trans ((Nxt.same q1).trans n4.wp)
      cases b with
      | true =>
        obtain ⟨zs, env5, ys1, env6, rest1, e1, e2, e3, e4⟩ := gT rfl
        refine iteT fun s0 H0 C cl fp => blk_di hcalm (hi1 s0 H0 C cl fp) _ _ _ _ _ _ a4.ok ?_
        rw [e1]
        intro W5 H5 J1 n5 o5 sv1
        have a5 := (a4.next n5 o5).wipe hm1 hio1
        have n25 : NxP p W1 (upd H1 p (.lst [])) W5 H5 := n24.trans n5.wp
        refine ⟨fun j1 m1 H6 => m1 = zs.length - j1 ∧ j1 ≤ zs.length ∧ ∃ W6 env7 b1 r1, NxP p W5 H5 W6 H6 ∧ At (tx X) ms B p W6 env7 ((((σ.set i none).set i1 none).set i (some x)).set i1 none) H6 (acc ++ b1) ∧ lcGo i1 gc1 fe (acc ++ b1).length (zs.drop j1) env7 = .ok r1 env6 ∧ ys1 = b1 ++ r1,
          ⟨zs.length, by simp, Nat.zero_le _, W5, _, [], ys1, Nxt.refl _ _, by rw [List.append_nil]; exact a5, by rw [List.append_nil]; exact e2, rfl⟩, ?_⟩
        rintro j1 m1 H6 ⟨rfl, hj1, W6, env7, b1, r1, n6, a6, g6, ey1⟩
        obtain ⟨t1, t2⟩ := sv1 (Bar (B.and p) W6) H6 (NxP.ext n6) j1
        by_cases hlt1 : j1 < zs.length
        · obtain ⟨u1, u2⟩ := t1 zs[j1] (List.getElem?_eq_getElem hlt1)
          rw [List.drop_eq_getElem_cons hlt1] at g6
          obtain ⟨c, env8, gd, gT1, gF1⟩ := lc_step g6
          refine .inr ⟨u1, fun H' => ∃ W6 env7 b1 r1, NxP p W5 H5 W6 H' ∧ At (tx X) ms B p W6 env7 ((((σ.set i none).set i1 none).set i (some x)).set i1 none) H' (acc ++ b1) ∧ lcGo i1 gc1 fe (acc ++ b1).length (zs.drop (j1 + 1)) env7 = .ok r1 env6 ∧ ys1 = b1 ++ r1, fun H' q => ⟨zs.length - (j1 + 1), by omega, rfl, hlt1, q⟩, fun x1 H' y => ?_⟩
          obtain ⟨v1, v2⟩ := u2 x1 H' y
          have a7 := (a6.same v1).set hm1 hio1 v2
          have back : (((((σ.set i none).set i1 none).set i (some x)).set i1 none).set i1 (some x1)).set i1 none = (((σ.set i none).set i1 none).set i (some x)).set i1 none := by rw [List.set_set, List.set_set]
          have back2 : ((((σ.set i none).set i1 none).set i (some x)).set i1 (some x1)).set i1 none = (((σ.set i none).set i1 none).set i (some x)).set i1 none := by rw [List.set_set]
          refine ⟨back, ht1 _ _ _ _ _ _ a7.ok ?_⟩
          rw [gd]
          intro W8 H8 b n8 o8 eb
          have eb' : b = c := eb
          subst eb'
          have a8 := a7.next n8 o8
          have n68 : NxP p W5 H5 W8 H8 := n6.trans ((Nxt.same v1).trans n8.wp)
          cases b with
          | true =>
            obtain ⟨y2, env9, zs2, f1, f2, f3, f4⟩ := gT1 rfl
            refine iteT fun s0 H0 C cl fp => blk_de hcalm (he s0 H0 C cl fp) _ _ _ _ _ _ a8.ok ?_
            rw [f1]
            intro W9 H9 v n9 o9 r9
            obtain ⟨vs, z1, z2, a10, n10⟩ := (a8.next n9 o9).push r9
            have a11 := a10.wipe hm1 hio1
            rw [back] at a11
            refine ⟨vs, z1, by rw [z2]; exact small_lt f2, W9, env9.set i1 none, b1 ++ [y2], zs2, n68.trans ((n9.wp (p := p)).trans n10), ?_, ?_, ?_⟩
            · rw [← List.append_assoc]
              exact a11
            · rw [← List.append_assoc, List.length_append (as := acc ++ b1)]
              exact f3
            · rw [ey1, f4, List.append_assoc]
              rfl
          | false =>
            have a11 := a8.wipe hm1 hio1
            rw [back] at a11
            exact iteF ⟨W8, _, b1, r1, n68, a11, gF1 rfl, ey1⟩
        · have e : j1 = zs.length := by omega
          subst e
          rw [List.drop_length] at g6
          have g3 : (R.ok [] env7 : R (List D)) = .ok r1 env6 := g6
          injection g3 with g4 g5
          subst g4 g5
          rw [List.append_nil] at ey1
          subst ey1
          have a12 := (a6.wipe hm hio).wipe hm1 hio1
          rw [wipe_b σ hne] at a12
          refine .inl ⟨t2 rfl, W6, _, acc ++ ys1, rest1, n25.trans n6, a12, wen2 _ hne, wen _ _, ?_, ?_⟩
          · rw [List.length_append]
            exact e3
          · rw [ey, e4, List.append_assoc]
      | false =>
        have a5 := (a4.wipe hm hio).wipe hm1 hio1
        rw [wipe_a σ hne] at a5
        exact iteF ⟨W4, _, acc, rest, n24, a5, wen2 _ hne, wen _ _, gF rfl, ey⟩
    · have e : j = ds.length := by omega
      subst e
      rw [List.drop_length] at g2
      have g3 : (R.ok [] env2 : R (List D)) = .ok rest env3 := g2
      injection g3 with g4 g5
      subst g4 g5
      rw [List.append_nil] at ey
      subst ey
      obtain ⟨vs, hp2, r2⟩ := a2.rel
      have o2 : Ok (tx X) ms (B.and p) W2 env2 (σ.set i none) H2 := a2.ok.unset hen1
      have nn := NxP.nxt n2 hp
      refine .inl ⟨s2 rfl, h1 (fun c => W2 c ∨ c = p) H2 _ nn (o2.unblk o1 hm hio nn hen) ⟨p, vs, ys, rfl, rfl, .inr rfl, hp, hp2, RelL.ext ⟨fun a u e n => e, fun a z => ?_⟩ _ r2, fun k e hk hek hs => ?_⟩⟩
      · rcases z with z | z | z
        · exact .inl (.inl (.inl z))
        · exact .inl (.inr z)
        · exact .inl (.inl (.inr z))
      · have q : k ≠ i := fun z => by rw [z, hm] at hk; cases hk
        rw [List.getElem?_set_ne (Ne.symm q)] at hek
        obtain ⟨z1, _⟩ := o2.cellAt hk hek (by rw [List.getElem?_set_ne (Ne.symm q)]; exact hs)
        exact a2.np z1
/-- y = [.. for x in .. for x1 in ..], y a cell of ours -/
theorem tmS_lc2F {kr : Rk (tx X) D V} (k i i1 : Nat) {x x1 y : Str} {px px1 py pos spos : Pos} {iter iter1 elt : Expr} {ifs ifs1 : List Expr} {scope : Scope} {fi f1 : M (List D)} {gc gc1 : M Bool} {fe : M D} (hi : DI X Wx ms (.Name x px) iter fi) (ht : DTs X ms scope ifs gc)
    (hi1 : ∀ (s : Shared) (H : Hp) (C : Addr) (cl : List (Str × Addr)) (fp : List Addr), DI (X.blk s H scope (compEnvC scope cl C X.env) fp) WF ms (.Name x1 px1) iter1 f1) (ht1 : DTs X ms scope ifs1 gc1)
    (he : ∀ (s : Shared) (H : Hp) (C : Addr) (cl : List (Str × Addr)) (fp : List Addr), DE (X.blk s H scope (compEnvC scope cl C X.env) fp) WF ms elt fe)
    (hc : X.calm = true) (hN : X.N.Nodup) (ok : BlkOk X.N X.env.scope scope [(x1, i1), (x, i)])
    (hg : ∀ (s : Shared) (H : Hp) (C : Addr) (cl : List (Str × Addr)) (fp : List Addr), PG (X.blk s H scope (compEnvC scope cl C X.env) fp) (.Name x px) (gName i))
    (hg1 : ∀ (s : Shared) (H : Hp) (C : Addr) (cl : List (Str × Addr)) (fp : List Addr), PG (X.blk s H scope (compEnvC scope cl C X.env) fp) (.Name x1 px1) (gName i1))
    (hy : X.N[k]? = some y := by rfl) (hyl : X.env.scope.names.lookup y = some .local := by rfl) (hsw : swapsWith (.ListComp elt [⟨.Name x px, iter, ifs, 0⟩, ⟨.Name x1 px1, iter1, ifs1, 0⟩] scope pos) (some (.Name y py)) spos.line X.env = pure true := by exact sw_true rfl rfl rfl (by decide +kernel))
    (hne : i ≠ i1 := by decide) (hm : ms.contains i = false := by rfl) (hio : ms.io.contains i = false := by rfl) (hm1 : ms.contains i1 = false := by rfl) (hio1 : ms.io.contains i1 = false := by rfl) (hk : ms.contains k = true := by rfl) (hkio : ms.io.contains k = false := by rfl)
    (hs : ∀ x, foldedSetIterable iter X.env x = pure x := by intro _; rfl) (hs1 : ∀ env x, foldedSetIterable iter1 env x = pure x := by intro _ _; rfl) :
    DS X Wx ms kr (.Assign [.Name y py] (.ListComp elt [⟨.Name x px, iter, ifs, 0⟩, ⟨.Name x1 px1, iter1, ifs1, 0⟩] scope pos) spos) (sSet k (lc2M i i1 fi gc f1 gc1 fe)) := fun B W env σ H Dn o h => by
  obtain ⟨tt, ht2, ht3⟩ := ht
  obtain ⟨tt1, ht4, ht5⟩ := ht1
  refine PS.tm (ps_setLc2 (i := k) (own := [(x1, i1), (x, i)]) (vs1 := [i1]) hc hN hy hyl hsw pi_tm ok (fun z hz => by simp at hz; simp [hz]) hg ht2 (fun s H C cl fp => ⟨fun pins s1 σ H1 R I q => pi_tm.run pins s1 σ H1 R I (q s H C cl fp)⟩) hg1 ht4 (fun s H C cl fp => ⟨fun pins s1 σ H1 Q I q => pe_tm.run pins s1 σ H1 Q I (q s H C cl fp)⟩) hs hs1)
    (tm_lc2 hc i i1 hne hm hio hm1 hio1 hi ht3 ht5 hi1 he o ?_)
  exact PoS.cont (k1 := rkF (tx X) ms) h fun d env1 W1 H1 v n1 o1 r1 h1 => h1 W1 H1 (σ.set k (some v)) (Nxt.refl W1 H1) (o1.setF hk hkio r1)
/-- as a value -/
theorem df_lc2 (i i1 : Nat) {x x1 : Str} {px px1 pos : Pos} {iter iter1 elt : Expr} {ifs ifs1 : List Expr} {scope : Scope} {fi f1 : M (List D)} {gc gc1 : M Bool} {fe : M D} (hi : DI X Wx ms (.Name x px) iter fi) (ht : DTs X ms scope ifs gc)
    (hi1 : ∀ (s : Shared) (H : Hp) (C : Addr) (cl : List (Str × Addr)) (fp : List Addr), DI (X.blk s H scope (compEnvC scope cl C X.env) fp) WF ms (.Name x1 px1) iter1 f1) (ht1 : DTs X ms scope ifs1 gc1)
    (he : ∀ (s : Shared) (H : Hp) (C : Addr) (cl : List (Str × Addr)) (fp : List Addr), DE (X.blk s H scope (compEnvC scope cl C X.env) fp) WF ms elt fe)
    (hc : X.calm = true) (hN : X.N.Nodup) (ok : BlkOk X.N X.env.scope scope [(x1, i1), (x, i)])
    (hg : ∀ (s : Shared) (H : Hp) (C : Addr) (cl : List (Str × Addr)) (fp : List Addr), PG (X.blk s H scope (compEnvC scope cl C X.env) fp) (.Name x px) (gName i))
    (hg1 : ∀ (s : Shared) (H : Hp) (C : Addr) (cl : List (Str × Addr)) (fp : List Addr), PG (X.blk s H scope (compEnvC scope cl C X.env) fp) (.Name x1 px1) (gName i1))
    (hne : i ≠ i1 := by decide) (hm : ms.contains i = false := by rfl) (hio : ms.io.contains i = false := by rfl) (hm1 : ms.contains i1 = false := by rfl) (hio1 : ms.io.contains i1 = false := by rfl)
    (hs : ∀ x, foldedSetIterable iter X.env x = pure x := by intro _; rfl) (hs1 : ∀ env x, foldedSetIterable iter1 env x = pure x := by intro _ _; rfl) :
    DF X Wx ms (.ListComp elt [⟨.Name x px, iter, ifs, 0⟩, ⟨.Name x1 px1, iter1, ifs1, 0⟩] scope pos) (lc2M i i1 fi gc f1 gc1 fe) := fun B W env σ H Q o h => by
  obtain ⟨tt, ht2, ht3⟩ := ht
  obtain ⟨tt1, ht4, ht5⟩ := ht1
  exact PE.tm (pe_lc2 (own := [(x1, i1), (x, i)]) (vs1 := [i1]) hc hN pi_tm ok (fun z hz => by simp at hz; simp [hz]) hg ht2 (fun s H C cl fp => ⟨fun pins s1 σ H1 R I q => pi_tm.run pins s1 σ H1 R I (q s H C cl fp)⟩) hg1 ht4 (fun s H C cl fp => ⟨fun pins s1 σ H1 Q I q => pe_tm.run pins s1 σ H1 Q I (q s H C cl fp)⟩) hs hs1)
    (tm_lc2 hc i i1 hne hm hio hm1 hio1 hi ht3 ht5 hi1 he o h)
end
end DL

set_option Elab.async false
set_option linter.all false
set_option maxRecDepth 100000
set_option maxHeartbeats 4000000
/-! what the text says, looked at by a Hook: facts as Bool functions, defs at any address -/
namespace DL
open PySem PySem.Spec PyProof.Rows L2
/-! ### the Hook -/
structure Df where
  pl : PySem.W.Frag → Addr
  name : Str
  qual : Str
  params : Arguments
  body : List Stmt
  scope : Scope
  dfl : List He.Dv := []
  clo : PySem.W.Frag → List (Str × Addr) := fun _ => []
abbrev Sd : Type := Option (Str × Str × Arguments × FuncBody × Scope × Addr × Addr)
def sdAt (K : PySem.W.Frag) (a : Addr) : Sd := match K.lookup a with
  | some ⟨_, _, .func z, _⟩ => some (z.name, z.qualname, z.params, z.body, z.scope, z.globals, z.builtins)
  | _ => none
def Df.want (d : Df) : Sd := some (d.name, d.qual, d.params, .stmts d.body, d.scope, mainGlobals, builtinsNs)
def Df.rest (K : PySem.W.Frag) (d : Df) : Bool := PySem.W.keepIn K (.ref (d.pl K)) && (match K.lookup (d.pl K) with
  | some ⟨_, _, .func z, _⟩ => decide (z.closure = d.clo K) && (PySem.W.codeIn K z.code d.qual && He.dflB K z.defaults (d.dfl.map (He.Dv.v K)))
  | _ => false)
abbrev Lk : Type := Bool × List Sd
def look (fx : List (PySem.W.Frag → Bool)) (fn : List Df) (K : PySem.W.Frag) : Lk := ((fx.all fun f => f K) && fn.all fun d => d.rest K, fn.map fun d => sdAt K (d.pl K))
def lookWant (fn : List Df) : Lk := (true, fn.map Df.want)
def Told (fx : List (PySem.W.Frag → Bool)) (fn : List Df) (K : PySem.W.Frag) : Prop := look fx fn K = lookWant fn
def reach (g : Addr → Option Obj) : Nat → List Addr
  | 0 => [mainGlobals, cStatics]
  | n + 1 => He.growD g (reach g n)
def lookG (n : Nat) (fx : List (PySem.W.Frag → Bool)) (fn : List Df) (g : Addr → Option Obj) : Lk := look fx fn (He.frG g (reach g n))
def hookL (n : Nat) (fx : List (PySem.W.Frag → Bool)) (fn : List Df) : PySem.W.Hook where
  α := Lk
  obs := fun sh => lookG n fx fn sh.heap.get?
  val := fun _ => lookWant fn
  says := fun _ hp => ∃ K : PySem.W.Frag, K.In hp ∧ Told fx fn K
  of := fun _ _ z => ⟨_, He.frG_in, z⟩
  keeps := fun _ _ _ ⟨K, q, c⟩ kp => ⟨K, PySem.W.Frag.In.keeps q kp, c⟩
theorem lookG_eq {n : Nat} {fx : List (PySem.W.Frag → Bool)} {fn : List Df} {g : Addr → Option Obj} {sh : Shared} (h : ∀ a, g a = sh.heap.get? a) : lookG n fx fn g = (hookL n fx fn).obs sh := by
  rw [show g = sh.heap.get? from funext h]
  rfl
section
variable {fx : List (PySem.W.Frag → Bool)} {fn : List Df} {K : PySem.W.Frag}
theorem Told.fact (c : Told fx fn K) (i : Nat) {f : PySem.W.Frag → Bool} (h : fx[i]? = some f := by rfl) : f K = true := by
  have z := (He.ba (show ((fx.all fun f => f K) && fn.all fun d => d.rest K) = true from congrArg (fun z : Lk => z.1) c)).1
  exact List.all_eq_true.mp z f (List.mem_of_getElem? h)
theorem Told.df (c : Told fx fn K) (i : Nat) {d : Df} (h : fn[i]? = some d := by rfl) : sdAt K (d.pl K) = d.want ∧ d.rest K = true := by
  have z := (He.ba (show ((fx.all fun f => f K) && fn.all fun d => d.rest K) = true from congrArg (fun z : Lk => z.1) c)).2
  refine ⟨?_, List.all_eq_true.mp z d (List.mem_of_getElem? h)⟩
  have e := congrArg (fun z : Lk => z.2[i]?) c
  have e2 : (fn.map fun d => sdAt K (d.pl K))[i]? = (fn.map Df.want)[i]? := e
  rw [List.getElem?_map, List.getElem?_map, h] at e2
  exact Option.some.inj e2
end
theorem Df.open_ {K : PySem.W.Frag} {d : Df} (h : sdAt K (d.pl K) = d.want ∧ d.rest K = true) : PySem.W.keepIn K (.ref (d.pl K)) = true ∧
    ∃ (oc : Value) (od : Option Addr) (dV kV doc pm : Value) (an : Option Addr) (cdv ct : Value) (osl : Array (Option Value)), K.lookup (d.pl K) = some ⟨oc, od, .func (PySem.W.fnX d.name d.qual d.params d.body d.scope (d.clo K) dV kV doc pm an cdv ct), osl⟩ ∧
      PySem.W.codeIn K cdv d.qual = true ∧ He.dflB K dV (d.dfl.map (He.Dv.v K)) = true := by
  obtain ⟨e, c⟩ := h
  obtain ⟨c1, c2⟩ := He.ba c
  refine ⟨c1, ?_⟩
  unfold sdAt at e
  cases q : K.lookup (d.pl K) with
  | none =>
    rw [q] at c2
    cases c2
  | some o =>
    obtain ⟨oc, od, dt, osl⟩ := o
    rw [q] at c2 e
    cases dt with
    | func z =>
      obtain ⟨z1, z2, z3, z4, z5, z6, z7, z8, z9, z10, z11, z12, z13, z14, z15⟩ := z
      have e2 : (some (z1, z2, z3, z4, z5, z6, z15) : Sd) = some (d.name, d.qual, d.params, .stmts d.body, d.scope, mainGlobals, builtinsNs) := e
      simp only [Option.some.injEq, Prod.mk.injEq] at e2
      obtain ⟨h1, h2, h3, h4, h5, h6, h7⟩ := e2
      subst h1 h2 h3 h4 h5 h6 h7
      have c3 : (decide (z7 = d.clo K) && (PySem.W.codeIn K z13 d.qual && He.dflB K z8 (d.dfl.map (He.Dv.v K)))) = true := c2
      obtain ⟨k1, k2⟩ := He.ba c3
      obtain ⟨k3, k4⟩ := He.ba k2
      have k5 : z7 = d.clo K := of_decide_eq_true k1
      subst k5
      exact ⟨oc, od, z8, z9, z10, z11, z12, z13, z14, osl, rfl, k3, k4⟩
    | _ => cases c2
/-- a plain def -/
theorem Df.fun_ {K : PySem.W.Frag} {d : Df} (h : sdAt K (d.pl K) = d.want ∧ d.rest K = true) (hc : d.clo K = []) : ∃ fd, FunD K d.name d.qual d.params d.body d.scope (d.dfl.map (He.Dv.v K)) [] (d.pl K) fd := by
  obtain ⟨kp, oc, od, dV, kV, doc, pm, an, cdv, ct, osl, lk, k1, k2⟩ := Df.open_ h
  rw [hc] at lk
  exact ⟨_, ⟨oc, od, dV, kV, doc, pm, an, cdv, ct, osl, rfl, lk, k1, He.dflB_ok k2, .inl rfl⟩, kp⟩
/-! ### paths -/
def pGl (x : Str) : PySem.W.Frag → Addr := fun K => He.ga K x
def pMe (c m : Str) : PySem.W.Frag → Addr := fun K => He.ma K (He.ga K c) m
/-- the record at C.m (a classmethod, a property) -/
def rcAt (K : PySem.W.Frag) (c m : Str) (T : String) (i : Nat) : Addr := match PySem.W.recIn K (He.ma K (He.ga K c) m) T with
  | some vs => (match vs[i]? with
    | some (.ref a) => a
    | _ => 0)
  | none => 0
def pCm (c m : Str) : PySem.W.Frag → Addr := fun K => rcAt K c m "classmethod" 0
/-! ### facts -/
abbrev Fc : Type := PySem.W.Frag → Bool
def fHe (f : He.Fa) : Fc := fun K => f.ok K
def fCon (c f : Str) (v : He.Dv) : Fc := fun K => He.conB K c f v
/-- C.m is a classmethod -/
def fCm (c m : Str) : Fc := fun K => PySem.W.readsIn K (He.ga K c) (.type "type") && (decide (PySem.W.specialIn K (.ref (He.ga K c)) "__getattribute__" = some (some (.builtin "type.__getattribute__"))) && ((match PySem.W.findCls K (.ref (He.ga K c)) (.type "type") m with
  | some (.get (.builtin g) (.ref p) .none (.ref c2)) => decide (g = "classmethod.__get__") && (decide (p = He.ma K (He.ga K c) m) && decide (c2 = He.ga K c))
  | _ => false) && ((match PySem.W.recIn K (He.ma K (He.ga K c) m) "classmethod" with
  | some (.ref g :: _) => decide (g = pCm c m K)
  | _ => false) && PySem.W.fnIn K (pCm c m K))))
theorem fCm_ok {K : PySem.W.Frag} {c m : Str} (h : fCm c m K = true) : ClX.CRead K (He.ga K c) (.type "type") ∧ ClX.CMet K (He.ga K c) (.type "type") m (He.ma K (He.ga K c) m) (pCm c m K) := by
  obtain ⟨h1, h⟩ := He.ba h
  obtain ⟨h2, h⟩ := He.ba h
  obtain ⟨h3, h⟩ := He.ba h
  obtain ⟨h4, h5⟩ := He.ba h
  refine ⟨⟨h1, of_decide_eq_true h2⟩, ?_, ?_, h5⟩
  · split at h3
    · rename_i g p c2 e
      obtain ⟨k1, k2⟩ := He.ba h3
      obtain ⟨k2, k3⟩ := He.ba k2
      rw [e, of_decide_eq_true k1, of_decide_eq_true k2, of_decide_eq_true k3]
    · cases h3
  · split at h4
    · rename_i g r e
      rw [of_decide_eq_true h4] at e
      exact ⟨r, e⟩
    · cases h4
/-- an own exception whose __init__ puts its parameters -/
def fEx (c : Str) (fs : List Str) : Fc := fun K => (match K.lookup (He.ga K c) with
  | some ⟨.type t, _, .cls cd, sl⟩ => decide (t = "type") && (match cd.mro, sl.toList with
    | .ref c' :: bm, [_, _, _, _, some (.builtin n), _] => decide (c' = He.ga K c) && (decide (n = "Exception.__new__") && (!cd.hasDel && (cd.hasDict && overX bm)))
    | _, _ => false)
  | _ => false) && (decide (PySem.W.findIn K (.ref (He.ga K c)) "__setattr__" = some (some (.builtin "object.__setattr__"))) && ((fs.all fun f => decide (PySem.W.findIn K (.ref (He.ga K c)) f = some none)) &&
  (decide (PySem.W.findIn K (.ref (He.ga K c)) "__init__" = some (some (.ref (pMe c "__init__" K)))) && (decide (PySem.W.typeIn K (.ref (pMe c "__init__" K)) = some (.type "function")) && (PySem.W.keepIn K (.ref (He.ga K c)) &&
  (decide (PySem.W.subIn K (.ref (He.ga K c)) (.type "BaseException") = some true) && decide (PySem.W.typeIn K (.ref (He.ga K c)) = some (.type "type"))))))))
theorem fEx_ok {K : PySem.W.Frag} {c : Str} {fs : List Str} {x qual : Str} {params : Arguments} {body : List Stmt} {scope : Scope} {fd : FuncData} (h : fEx c fs K = true) (F : FunD K x qual params body scope [] [] (pMe c "__init__" K) fd) (hp : Puts fs body) (hs : Pars qual scope fs)
    (hb : ∀ (doc pm : Value) (an : Option Addr) (cdv ct kV : Value) (u : Value) (vs : List Value), vs.length = fs.length → bindArgs (PySem.W.fnOf x qual params body scope .none kV doc pm an cdv ct) ⟨u :: vs, []⟩ = pure ((("self" : Str), u) :: fs.zip vs)) :
    ExT K (He.ga K c) (pMe c "__init__" K) fs := by
  obtain ⟨h1, h⟩ := He.ba h
  obtain ⟨h2, h⟩ := He.ba h
  obtain ⟨h3, h⟩ := He.ba h
  obtain ⟨h4, h⟩ := He.ba h
  obtain ⟨h5, h⟩ := He.ba h
  obtain ⟨h6, h⟩ := He.ba h
  obtain ⟨h7, h8⟩ := He.ba h
  refine ⟨?_, of_decide_eq_true h2, fun f hf => of_decide_eq_true (List.all_eq_true.mp h3 f hf), of_decide_eq_true h4, of_decide_eq_true h5, h6, of_decide_eq_true h7, of_decide_eq_true h8, ⟨x, qual, params, body, scope, fd, F, hp, hs, hb⟩⟩
  split at h1
  · rename_i t dd cd sl e
    obtain ⟨k1, k2⟩ := He.ba h1
    split at k2
    · rename_i c' bm k0 ka kb kc n kd em es
      obtain ⟨j1, j⟩ := He.ba k2
      obtain ⟨j2, j⟩ := He.ba j
      obtain ⟨j3, j⟩ := He.ba j
      obtain ⟨j4, j5⟩ := He.ba j
      have t1 := of_decide_eq_true k1
      have t2 := of_decide_eq_true j1
      have t3 := of_decide_eq_true j2
      obtain ⟨nm1, bs, mro, ns, qn, hd, sn, sub, ab, col, del⟩ := cd
      dsimp only at em j3 j4
      have j3' : del = false := by cases del with | false => rfl | true => cases j3
      obtain ⟨l⟩ := sl
      dsimp only at es
      subst es t1 t3 em j3' j4
      rw [t2] at e
      exact ⟨nm1, qn, ns, bs, bm, sn, sub, ab, col, dd, k0, ka, kb, kc, kd, e, j5⟩
    · cases k2
  · cases h1
/-- e.f of a caught exception -/
def fXf (c f : Str) : Fc := fun K => L2.xfB K (He.ga K c) && decide (PySem.W.findIn K (.ref (He.ga K c)) f = some none)
/-- instances of C know their class -/
def fIsi (c : Str) : Fc := fun K => (He.Fa.cls c).ok K && (decide (PySem.W.findIn K (.ref (He.ga K c)) "__class__" = some (some (.builtin "object.__class__"))) && (decide (PySem.W.specialIn K (.builtin "object.__class__") "__get__" = some (some (.builtin "getset_descriptor.__get__"))) &&
  (decide (PySem.W.takesIn K (.builtin "object.__class__") = some true) && decide (PySem.W.mroIn K (He.ga K c) (.type "object") = some true))))
theorem fIsi_ok {K : PySem.W.Frag} {c : Str} (h : fIsi c K = true) : IsiC K (He.ga K c) := by
  obtain ⟨h1, h⟩ := He.ba h
  obtain ⟨h2, h⟩ := He.ba h
  obtain ⟨h3, h⟩ := He.ba h
  obtain ⟨h4, h5⟩ := He.ba h
  exact ⟨He.cls_ok h1, of_decide_eq_true h2, of_decide_eq_true h3, of_decide_eq_true h4, of_decide_eq_true h5⟩
def fKit (c d : Str) (b : Bool) : Fc := fun K => decide (PySem.W.kitOne K (.ref (He.ga K c)) (.ref (He.ga K d)) = some b)
def fNe (c : Str) : Fc := fun K => decide (PySem.W.findIn K (.ref (He.ga K c)) "__ne__" = some (some (.builtin "object.__ne__"))) && decide (PySem.W.mroIn K (He.ga K c) (.type "object") = some true)
def fNotFirst (c d : Str) : Fc := fun K => PySem.W.notFirst K (He.ga K c) (.ref (He.ga K d))
def fSelfFirst (c : Str) : Fc := fun K => PySem.W.selfFirst K (He.ga K c)
/-! ### an __init__ with super -/
def cdAt (f : PySem.W.Frag → Addr) (K : PySem.W.Frag) : Addr := match K.lookup (f K) with
  | some ⟨_, _, .func z, _⟩ => (match z.code with
    | .ref c => c
    | _ => 0)
  | _ => 0
def ccAt (f : PySem.W.Frag → Addr) (K : PySem.W.Frag) : Addr := match K.lookup (f K) with
  | some ⟨_, _, .func z, _⟩ => (match z.closure with
    | (_, c) :: _ => c
    | [] => 0)
  | _ => 0
/-- f: the __init__ of class c, which names the one of b -/
def fSup (c b fl : Str) : Fc := fun K => (match K.lookup (ccAt (pMe c "__init__") K) with
  | some ⟨_, _, .cell (some (.ref d)), _⟩ => decide (d = He.ga K c)
  | _ => false) && ((match K.lookup (cdAt (pMe c "__init__") K) with
  | some ⟨_, _, .fields vs, _⟩ => (match (vs[2]? : Option Value) with
    | some (.str x _) => decide (x = fl)
    | _ => false)
  | _ => false) && ((PySem.W.clsIn K (He.ga K c)).isSome && (decide (PySem.W.nsIn K cStatics "thirdparty.any" = some none) && (decide (PySem.W.ks_superIn K (He.ga K c) (He.ga K c) "__init__" = some (some (.ref (pMe b "__init__" K)))) &&
  (decide (PySem.W.typeIn K (.ref (pMe b "__init__" K)) = some (.type "function")) && (PySem.W.fnIn K (pMe b "__init__" K) && decide (PySem.W.mroIn K (He.ga K c) (.ref (He.ga K c)) = some true)))))))
theorem fSup_ok {P : Program} {K : PySem.W.Frag} {mg : Str → Option Value} {c b fl : Str} {d : Df} {N ps : List Str} (h : fSup c b fl K = true) (hd : sdAt K (d.pl K) = d.want ∧ d.rest K = true) (hpl : d.pl K = pMe c "__init__" K) (hcl : d.clo K = [(("__class__" : Str), ccAt (pMe c "__init__") K)]) (hfl : P.main.file = fl)
    (sc : NdefX.NScope N ps ["__class__"] d.scope) (sup : mg "super" = none) (top : (P.main.scope.names.lookup ("super" : Str)).isSome = false) (par : ∃ ar, (d.params.posonlyargs ++ d.params.args).head? = some ar ∧ ar.arg = ("self" : Str)) (self : ps[0]? = some ("self" : Str))
    (ks : d.scope.names.lookup ("super" : Str) = some .globalImplicit) (kc : d.scope.names.lookup ("__class__" : Str) = some .free) (big : ps.length < N.length) (hne : d.dfl ≠ [])
    (hb : ∀ (cl : List (Str × Addr)) (T : Addr) (kV doc pm : Value) (an : Option Addr) (cdv ct : Value) (us its : List Value), us.length = ps.length → its.length = d.dfl.length →
      ∃ k, bindArgs (PySem.W.fnX d.name d.qual d.params d.body d.scope cl (.ref T) kV doc pm an cdv ct) ⟨us, []⟩ = seqItems? (.ref T) >>= k ∧ k (some its.toArray) = pure (ps.zip us)) :
    SupT P K mg (pMe c "__init__" K) (pMe b "__init__" K) (ccAt (pMe c "__init__") K) (cdAt (pMe c "__init__") K) (He.ga K c) ⟨d.name, d.qual, d.params, d.body, d.scope, [(("__class__" : Str), ccAt (pMe c "__init__") K)], cdAt (pMe c "__init__") K⟩ N ps := by
  obtain ⟨h1, h⟩ := He.ba h
  obtain ⟨h2, h⟩ := He.ba h
  obtain ⟨h3, h⟩ := He.ba h
  obtain ⟨h4, h⟩ := He.ba h
  obtain ⟨h5, h⟩ := He.ba h
  obtain ⟨h6, h⟩ := He.ba h
  obtain ⟨h7, h8⟩ := He.ba h
  obtain ⟨kp, oc, od, dV, kV, doc, pm, an, cdv, ct, osl, lk, k1, k2⟩ := Df.open_ hd
  rw [hpl, hcl] at lk
  have ecd : cdv = .ref (cdAt (pMe c "__init__") K) := by
    unfold cdAt
    rw [lk]
    cases cdv with
    | ref z => rfl
    | _ => cases k1
  subst ecd
  refine ⟨⟨oc, od, dV, kV, doc, pm, an, ct, osl, lk, fun s us X hlen => ?_⟩, rfl, rfl, k1, sc, ?_, ?_, Option.isSome_iff_exists.mp h3, sup, top, par, self, ks, kc, of_decide_eq_true h4, of_decide_eq_true h5, of_decide_eq_true h6, h7, of_decide_eq_true h8, big⟩
  · rw [List.append_nil] at hlen ⊢
    rcases He.dflB_ok k2 with ⟨e, _⟩ | ⟨_, T, o, its, m, rfl, lT, oT, rT⟩
    · exact absurd (List.map_eq_nil_iff.mp e) hne
    · obtain ⟨k, e1, e2⟩ := hb _ T kV doc pm an _ ct us its hlen (by rw [← rT.length, List.length_map])
      refine BindsTo.of_looks fun M => ?_
      rw [e1]
      exact looks_items X lT oT (.of_pure e2)
  · split at h1
    · rename_i x1 x2 dd x3 e
      rw [of_decide_eq_true h1] at e
      exact ⟨_, _, _, e⟩
    · cases h1
  · split at h2
    · rename_i x1 x2 vs x3 e
      split at h2
      · rename_i x t e2
        refine ⟨_, _, vs, _, x, t, e, e2, ?_⟩
        rw [hfl, of_decide_eq_true h2]
        exact beq_self_eq_true _
      · cases h2
    · cases h2
end DL

set_option Elab.async false
set_option linter.all false
set_option maxRecDepth 100000
set_option maxHeartbeats 4000000
/-! list(range(n)); a list of two clauses put in a plain slot; what each def's derivation needs -/
namespace DL
open PySem PySem.Spec L2
section
variable {X : Cx} {ms : Ms} {Wx : WX}
theorem rel_rg {T : Tx} {B : Addr → Prop} {H : Hp} : ∀ n k : Nat, RelL T B H ((List.range' k n).map fun (i : Nat) => D.int (0 + i)) ((List.range' k n).map fun (i : Nat) => V.int (0 + i))
  | 0, _ => trivial
  | n + 1, k => ⟨rfl, rel_rg n (k + 1)⟩
def lstRg : List D → Option D
  | [.int j] => if (decide (0 ≤ j) && decide (j < 100000)) = true then some (.lst ((List.range' 0 j.toNat).map fun (i : Nat) => D.int (0 + i))) else none
  | _ => none
theorem df_listRg {a : Expr} {fa : M D} {p p1 pos pos1 : Pos} (hc : X.calm = true) (hg : Gl X "list") (hm : X.mg "list" = none) (hg1 : Gl X "range") (hm1 : X.mg "range" = none) (ha : DE X Wx ms a fa)
    (na : starEach [a] X.env = (false, eval a X.env) :: starEach [] X.env := by rfl) (na2 : starEach [.Call (.Name "range" p1) [a] [] pos1] X.env = (false, eval (.Call (.Name "range" p1) [a] [] pos1) X.env) :: starEach [] X.env := by rfl) :
    DF X Wx ms (.Call (.Name "list" p) [.Call (.Name "range" p1) [a] [] pos1] [] pos) (opN lstRg (aCons fa aNil)) := fun B W env σ H Q o h => by
  refine PE.tm (pe_listRg hc hg hm (prg_1 hg1 hm1 pe_tm na) na2) ?_
  have e0 : opN lstRg (aCons fa aNil) env = (fa env).bind fun d env1 => M.of (lstRg [d]) env1 := by
    unfold opN aCons aNil
    cases fa env <;> rfl
  rw [e0] at h
  refine ha _ _ _ _ _ _ o (Po.cont (k1 := rkD (tx X)) h fun d env1 W1 H1 v n1 o1 r1 h1 => ?_)
  · obtain ⟨z, e1, h3⟩ := of_pos h1
    cases d with
    | int j =>
      have e2 : (if (decide (0 ≤ j) && decide (j < 100000)) = true then some (D.lst ((List.range' 0 j.toNat).map fun (i : Nat) => D.int (0 + i))) else none) = some z := e1
      obtain ⟨e3, e5⟩ := ite_some e2
      subst e5
      obtain ⟨e3, e4⟩ := Bool.and_eq_true_iff.mp e3
      have hj := of_decide_eq_true e3
      have e4 := of_decide_eq_true e4
      obtain rfl : v = V.int j := r1
      have ev : rgV 0 j = (List.range' 0 j.toNat).map fun (i : Nat) => V.int (0 + i) := by
        unfold rgV
        rw [Int.sub_zero, List.range_eq_range']
      refine ⟨j, rfl, RgOk.of_le (Int.le_refl _) (by omega) (by omega) hj, fun q hq => ?_⟩
      rw [ev]
      exact h3.made o1 hq (rel_rg _ 0)
    | _ => cases e1
theorem tmS_lc2 {kr : Rk (tx X) D V} (k i i1 : Nat) {x x1 y : Str} {px px1 py pos spos : Pos} {iter iter1 elt : Expr} {ifs ifs1 : List Expr} {scope : Scope} {fi f1 : M (List D)} {gc gc1 : M Bool} {fe : M D} (hi : DI X Wx ms (.Name x px) iter fi) (ht : DTs X ms scope ifs gc)
    (hi1 : ∀ (s : Shared) (H : Hp) (C : Addr) (cl : List (Str × Addr)) (fp : List Addr), DI (X.blk s H scope (compEnvC scope cl C X.env) fp) WF ms (.Name x1 px1) iter1 f1) (ht1 : DTs X ms scope ifs1 gc1)
    (he : ∀ (s : Shared) (H : Hp) (C : Addr) (cl : List (Str × Addr)) (fp : List Addr), DE (X.blk s H scope (compEnvC scope cl C X.env) fp) WF ms elt fe)
    (hc : X.calm = true) (hN : X.N.Nodup) (ok : BlkOk X.N X.env.scope scope [(x1, i1), (x, i)])
    (hg : ∀ (s : Shared) (H : Hp) (C : Addr) (cl : List (Str × Addr)) (fp : List Addr), PG (X.blk s H scope (compEnvC scope cl C X.env) fp) (.Name x px) (gName i))
    (hg1 : ∀ (s : Shared) (H : Hp) (C : Addr) (cl : List (Str × Addr)) (fp : List Addr), PG (X.blk s H scope (compEnvC scope cl C X.env) fp) (.Name x1 px1) (gName i1))
    (hy : X.N[k]? = some y := by rfl) (hyl : X.env.scope.names.lookup y = some .local := by rfl) (hsw : swapsWith (.ListComp elt [⟨.Name x px, iter, ifs, 0⟩, ⟨.Name x1 px1, iter1, ifs1, 0⟩] scope pos) (some (.Name y py)) spos.line X.env = pure true := by exact sw_true rfl rfl rfl (by decide +kernel))
    (hne : i ≠ i1 := by decide) (hm : ms.contains i = false := by rfl) (hio : ms.io.contains i = false := by rfl) (hm1 : ms.contains i1 = false := by rfl) (hio1 : ms.io.contains i1 = false := by rfl) (hk : ms.contains k = false := by rfl) (hkio : ms.io.contains k = false := by rfl)
    (hs : ∀ x, foldedSetIterable iter X.env x = pure x := by intro _; rfl) (hs1 : ∀ env x, foldedSetIterable iter1 env x = pure x := by intro _ _; rfl) :
    DS X Wx ms kr (.Assign [.Name y py] (.ListComp elt [⟨.Name x px, iter, ifs, 0⟩, ⟨.Name x1 px1, iter1, ifs1, 0⟩] scope pos) spos) (sSet k (lc2M i i1 fi gc f1 gc1 fe)) := fun B W env σ H Dn o h => by
  obtain ⟨tt, ht2, ht3⟩ := ht
  obtain ⟨tt1, ht4, ht5⟩ := ht1
  refine PS.tm (ps_setLc2 (i := k) (own := [(x1, i1), (x, i)]) (vs1 := [i1]) hc hN hy hyl hsw pi_tm ok (fun z hz => by simp at hz; simp [hz]) hg ht2 (fun s H C cl fp => ⟨fun pins s1 σ H1 R I q => pi_tm.run pins s1 σ H1 R I (q s H C cl fp)⟩) hg1 ht4 (fun s H C cl fp => ⟨fun pins s1 σ H1 Q I q => pe_tm.run pins s1 σ H1 Q I (q s H C cl fp)⟩) hs hs1)
    (tm_lc2 hc i i1 hne hm hio hm1 hio1 hi ht3 ht5 hi1 he o ?_)
  have key := PoS.cont (k1 := rkD (tx X)) (Q1 := fun v H1 => Dn.nx (σ.set k (some v)) H1) h fun d env1 W1 H1 v n1 o1 r1 h1 => h1 W1 H1 (σ.set k (some v)) (Nxt.refl W1 H1) (o1.set hk hkio r1)
  revert key
  cases lc2M i i1 fi gc f1 gc1 fe env with
  | ok a env' =>
    intro key W' H' v n o' z
    obtain ⟨c, vs, l, rfl, rfl, hw, h0, hl, rl, hf⟩ := z
    refine key (fun b => W' b ∧ b ≠ c) H' _ ⟨n.keep, fun b w => n.new b w.1, n.live⟩ (o'.less hf) ⟨c, vs, rfl, hl, fun b => ?_, RelL.ext ⟨fun b u h _ => h, fun b w => ?_⟩ l rl⟩
    · rcases b with b | b
      · obtain ⟨u, e⟩ := o.wf c (.inl b)
        rw [h0] at e; cases e
      · exact b.2 rfl
    · rcases w with w | w
      · exact .inl (.inl w)
      · exact .inl (.inr w.1)
  | err c ns ds env' => exact fun key => key
  | stuck => exact fun key => key
end
/-! ### the frame of a derivation -/
section
variable {P : Program} {w : World} {K : PySem.W.Frag} {mg : Str → Option Value} {base : Heap} {N : List Str} {qual : Str} {scope : Scope} {f : Addr} {cdv : Value} {A : Around} {outer : List Env} {s : Shared} {H : Hp} {E : XK}
theorem takesD : Takes (xof P w K mg base N qual scope f cdv A outer s H E) (fun cls d _ H => E cls d H) := takes_of rfl rfl rfl rfl
theorem ownsD : PassesOwn (model P w) (xof P w K mg base N qual scope f cdv A outer s H E).A (xof P w K mg base N qual scope f cdv A outer s H E).env (xof P w K mg base N qual scope f cdv A outer s H E).xe := passes_of (X := xof P w K mg base N qual scope f cdv A outer s H E) rfl
end
theorem takesF {X : Cx} : Takes X WF := fun u s' ⟨_, _, _, _, _, _, _, _, _, _, _, _, _, _, _, _, z⟩ => z.elim
theorem units1 {k : Nat} {A : Around} (r : Room k A) : A.units + 65 < cLine := by
  have := r.un
  omega
def msB (ms : Ms) (np : Nat) (io : Option Nat) : Bool := ((List.range np).all fun i => ms.contains i == (io == some i)) && match io with
  | none => true
  | some i => ms.io.contains i
theorem msB_ok {ms : Ms} {np : Nat} {io : Option Nat} (h : msB ms np io = true) : MsOk ms np io := by
  obtain ⟨h1, h2⟩ := Bool.and_eq_true_iff.mp h
  refine ⟨fun i hi => ?_, fun i e => ?_⟩
  · have z := List.all_eq_true.mp h1 i (List.mem_range.mpr hi)
    rw [beq_iff_eq.mp z, beq_iff_eq]
  · subst e
    exact h2
def blkB (N : List Str) (sc scope : Scope) (own : List (Str × Nat)) : Bool := decide (scope.kind = .function) && ((scope.names.all fun y => decide (scope.names.lookup y.1 = some y.2)) && ((own.all fun p => decide (N[p.2]? = some p.1)) &&
  ((scope.names.all fun y => !decide (y.2 = .free) || (decide (sc.names.lookup y.1 = some .cell) || decide (sc.names.lookup y.1 = some .free))) && scope.names.all fun y => (!decide (y.2 = .local) && !decide (y.2 = .cell)) || (decide (y.1 ∈ own.map (·.1)) || !decide (y.1 ∈ N)))))
theorem blkB_ok {N : List Str} {sc scope : Scope} {own : List (Str × Nat)} (h : blkB N sc scope own = true) : BlkOk N sc scope own := by
  obtain ⟨h1, h⟩ := Bool.and_eq_true_iff.mp h
  obtain ⟨h2, h⟩ := Bool.and_eq_true_iff.mp h
  obtain ⟨h3, h⟩ := Bool.and_eq_true_iff.mp h
  obtain ⟨h4, h5⟩ := Bool.and_eq_true_iff.mp h
  refine ⟨of_decide_eq_true h1, fun y hy => of_decide_eq_true (List.all_eq_true.mp h2 y hy), fun p hp => of_decide_eq_true (List.all_eq_true.mp h3 p hp), fun y hy e => ?_, fun y hy e => ?_⟩
  · have z := List.all_eq_true.mp h4 y hy
    simp only [e, decide_true, Bool.not_true, Bool.false_or, Bool.or_eq_true, decide_eq_true_eq] at z
    exact z
  · have z := List.all_eq_true.mp h5 y hy
    rcases Bool.or_eq_true_iff.mp z with z | z
    · obtain ⟨z1, z2⟩ := Bool.and_eq_true_iff.mp z
      simp only [Bool.not_eq_true', decide_eq_false_iff_not] at z1 z2
      exact absurd e (fun e => e.elim z1 z2)
    · rcases Bool.or_eq_true_iff.mp z with z | z
      · exact .inl (of_decide_eq_true z)
      · simp only [Bool.not_eq_true', decide_eq_false_iff_not] at z
        exact .inr z
/-- FnScope by a test -/
def fscB (N ps : List Str) (sc : Scope) : Bool := decide (sc.kind = .function) && (!sc.isCoroutine && (!sc.isGenerator && (decide N.Nodup && (decide (N.take ps.length = ps) && (ps.all (fun x => decide (sc.names.lookup x = some .local) || decide (sc.names.lookup x = some .cell)) && sc.names.all fun y => !decide (y.2 = .free))))))
theorem fscB_ok {N ps : List Str} {sc : Scope} (h : fscB N ps sc = true) : FnScope N ps sc := by
  unfold fscB at h
  simp only [Bool.and_eq_true, Bool.not_eq_true', decide_eq_true_eq, List.all_eq_true, Bool.or_eq_true, decide_eq_false_iff_not] at h
  obtain ⟨h1, h2, h3, h4, h5, h6, h7⟩ := h
  exact ⟨h1, h2, h3, h4, h5, h6, h7⟩
theorem FnR.up {P : Program} {w : World} {K : PySem.W.Frag} {mg : Str → Option Value} {base : Heap} {CX : CXT} {j k : Nat} {f : Addr} {sp : Sp} (F : FnR P w K mg base CX j f sp) (h : j ≤ k) : FnR P w K mg base CX k f sp := fun A outer s H us vs Q E hr => F A outer s H us vs Q E (hr.mono h)
/-- among few -/
theorem mem_cs {l : List Nat} {i : Nat} (h : l.contains i = true) : i ∈ l := List.contains_iff_mem.mp h
def fMeth (c m o : Str) : Fc := fun K => (He.Fa.meth c m).ok K && decide (He.ma K (He.ga K c) m = He.ma K (He.ga K o) m)
theorem fMeth_ok {K : PySem.W.Frag} {c m o : Str} (h : fMeth c m o K = true) : Meth K (He.ga K c) m (He.ma K (He.ga K o) m) := by
  obtain ⟨h1, h2⟩ := He.ba h
  rw [← of_decide_eq_true h2]
  exact He.meth_ok h1
def fMk (c o : Str) : Fc := fun K => (He.Fa.mkr c).ok K && decide (He.ma K (He.ga K c) "__init__" = He.ma K (He.ga K o) "__init__")
theorem fMk_ok {K : PySem.W.Frag} {c o : Str} (h : fMk c o K = true) : Mk K (He.ga K c) (He.ma K (He.ga K o) "__init__") := by
  obtain ⟨h1, h2⟩ := He.ba h
  rw [← of_decide_eq_true h2]
  exact He.mkr_ok h1
theorem fXf_ok {K : PySem.W.Frag} {c f : Str} (h : fXf c f K = true) : L2.XfC K (He.ga K c) ∧ PySem.W.findIn K (.ref (He.ga K c)) f = some none := by
  obtain ⟨h1, h2⟩ := He.ba h
  exact ⟨L2.xfB_ok h1, of_decide_eq_true h2⟩
theorem fNe_ok {K : PySem.W.Frag} {c : Str} (h : fNe c K = true) : PySem.W.findIn K (.ref (He.ga K c)) "__ne__" = some (some (.builtin "object.__ne__")) ∧ PySem.W.mroIn K (He.ga K c) (.type "object") = some true := by
  obtain ⟨h1, h2⟩ := He.ba h
  exact ⟨of_decide_eq_true h1, of_decide_eq_true h2⟩
/-- the i-th default of the def at p is () -/
def fTup0 (p : Str × Option Str) (i : Nat) : Fc := fun K => match K.lookup (He.dflAt p i K) with
  | some ⟨.type t, _, .seq its _, _⟩ => decide (t = "tuple") && its.isEmpty
  | _ => false
theorem fTup0_ok {K : PySem.W.Frag} {P : Program} {w : World} {pn : List (Addr × Obj)} {p : Str × Option Str} {i : Nat} (h : fTup0 p i K = true) (B : Addr → Prop) (H : Hp) : Rel ⟨K, P, w, pn⟩ B H (.tup []) (.ref (He.dflAt p i K)) := by
  unfold fTup0 at h
  split at h
  · rename_i t dd its n sl e
    obtain ⟨h1, h2⟩ := He.ba h
    have e2 : its = #[] := Array.isEmpty_iff.mp h2
    subst e2
    exact ⟨_, [], rfl, .inr ⟨_, #[], n, e, by rw [of_decide_eq_true h1], rfl, Nat.zero_le _, .nil⟩, trivial⟩
  · cases h
end DL

set_option Elab.async false
set_option linter.all false
set_option maxRecDepth 100000
set_option maxHeartbeats 4000000
/-! from a law's mirror to what the head asks of the law's def -/
namespace DL
open PySem PySem.Spec L2
/-- nothing leaves the law's def -/
theorem fnOk_quiet {P : Program} {w : World} {K : PySem.W.Frag} {mg : Str → Option Value} {base : Heap} {k : Nat} {f : Addr} {fd : FuncData} {ps : List Str} {sp : Sp} (F : FnOk P w K mg base (L2.CX P w) k f fd ps sp) :
    FnOk P w K mg base L2.CX0 k f fd ps (fun vs H Q _ => sp vs H Q fun _ _ _ => False) :=
  ⟨fun vs H Q E h => F.len _ _ _ _ h, fun A outer s H args us vs Q E hr he hb hv hs => codeAny_mono (F.run A outer s H args us vs Q (fun _ _ _ => False) hr he hb hv hs) fun r s' h => match r, h with
    | .ok (.ret u), h => h
    | .error e, h => by
      obtain ⟨_, _, _, _, _, _, _, _, _, _, _, _, z⟩ := h
      exact z⟩
theorem scr_sp {n : Nat} {m : List D → Rs} (hm : ∀ ns : List Int, ns.length ≤ n → ∃ io, m [.scr ns] = .ok (.bl true) io) {K : PySem.W.Frag} {P : Program} {w : World} {H : Hp} {a : Addr} {ns : List Int} (hl : ns.length ≤ n) (hS : SqL K H a (ns.map V.int)) :
    SpD ⟨K, P, w, []⟩ 1 none false m [.ref a] H (fun v _ => v = .bl true) fun _ _ _ => False := by
  refine ⟨fun _ => False, fun _ => False, [.scr ns], rfl, rfl, fun a z => (z.elim id id).elim, fun i d v e1 e2 => ?_, fun _ a z => z, (fun i z => by cases z), ?_⟩
  · cases i with
    | zero =>
      cases e1
      cases e2
      refine ⟨fun _ => ⟨a, rfl, ?_⟩, (fun z => by cases z)⟩
      rcases hS with h | h
      · exact .inl ⟨h, fun z => z.elim id id⟩
      · exact .inr h
    | succ i => cases e1
  · obtain ⟨io, e⟩ := hm ns hl
    rw [e]
    intro W' H' v _ _ z
    exact z
end DL

set_option Elab.async false
set_option linter.all false
set_option maxRecDepth 100000
set_option maxHeartbeats 4000000
/-! l.remove(x); our own lists handed to a def that only reads them, its answer a plain value -/
namespace DL
open PySem PySem.Spec L2 PyProof.Rows
def rRemD (K : PySem.W.Frag) : V → List V → Hp → VK → Prop := fun x xs H Q => ∃ (a : Addr) (y : V) (d : PyData) (vs : List V) (ds : List PyData) (j : Nat), x = .ref a ∧ xs = [y] ∧ H a = some (.lst vs) ∧ DpAll K H vs ds ∧ Dp K H y d ∧ SeqAt.shaped (.list ds) = true ∧ SeqAt.shaped d = true ∧ SeqAt.dataPlace ds d = some j ∧ Q .non (upd H a (.lst (vs.eraseIdx j)))
theorem mt_removeD {X : Cx} (hu : X.A.units + 65 < cLine) : MtM X "list.remove" (rRemD X.K) := by
  intro pins s σ H x xs v us Q I rx rxs h
  obtain ⟨a, y, d, vs, ds, j, rfl, rfl, hH, hl, hy, sl, sd, hp, q⟩ := h
  cases rx
  obtain ⟨u, rfl, ru⟩ := rxs.one
  obtain ⟨z, its, n, r, hl2, e⟩ := I.lstM hH
  obtain ⟨bs, r1⟩ := Dp.reads I d y u hy ru
  obtain ⟨as, h4⟩ := Dp.readsAll I ds vs its hl r
  refine SeqAt.remove_list_data (vs := its.toArray) ⟨_, e, rfl, n, rfl⟩ h4 r1 (PyData.plainAll_of_canLay0 _ (SeqAt.canLay_of_shaped sl)) (PyData.plain_of_canLay0 _ (SeqAt.canLay_of_shaped sd)) (room_in_shaped sd hu) hp (by rw [List.size_toArray]; omega) ?_
  refine ⟨.non, _, I.lset (its' := its.eraseIdx j) hH e ?_ (r.eraseIdx j) ?_, rfl, q⟩
  · show its.toArray.eraseIdxIfInBounds j = (its.eraseIdx j).toArray
    rw [List.eraseIdxIfInBounds_toArray]
  · rw [List.length_eraseIdx]
    split <;> omega
def mRemove (l ds : List D) : Option (D × List D) := match ds with
  | [d] => if (okF 12 d && l.all (okF 12)) = true then (l.findIdx? fun z => eqF 12 z d).map fun j => (.non, l.eraseIdx j) else none
  | _ => none
theorem find_eqv {d : D} {p : PyData} (hd : okF 12 d = true) (hp : toP d = some p) : ∀ {ds : List D} {ps : List PyData}, ds.all (okF 12) = true → toPL ds = some ps → (ds.findIdx? fun z => eqF 12 z d) = ps.findIdx? fun z => PyData.eqv z p
  | [], ps, _, e => by
    have e' := Option.some.inj e
    subst e'
    rfl
  | z :: ds, ps, h, e => by
    obtain ⟨q, qs, e1, e2, rfl⟩ := toPL_cons e
    obtain ⟨h1, h2⟩ := Bool.and_eq_true_iff.mp h
    rw [List.findIdx?_cons, List.findIdx?_cons, find_eqv hd hp h2 e2, eqF_eqv 12 z d q p h1 hd e1 hp]
theorem RelL.eraseIdx {T : Tx} {B : Addr → Prop} {H : Hp} : ∀ {ds : List D} {vs : List V} (j : Nat), RelL T B H ds vs → RelL T B H (ds.eraseIdx j) (vs.eraseIdx j)
  | [], [], _, _ => by simp only [List.eraseIdx_nil]; trivial
  | [], _ :: _, _, h => h.elim
  | _ :: _, [], _, h => h.elim
  | _ :: _, _ :: _, 0, h => h.2
  | d :: ds, v :: vs, j + 1, h => ⟨h.1, RelL.eraseIdx j h.2⟩
section
variable {X : Cx} {Wx : WX} {ms : Ms} {pos cpos apos : Pos} {x : Str} {e : Expr} {fe : M D}
theorem mo_remove : MethOk X (rRemD X.K) mRemove := by
  intro B H a xs vs l ds l' d Q h1 h2 h3 h4 q
  match ds, h4 with
  | [d1], h4 =>
    obtain ⟨v, rfl, rv⟩ := relL1 h3
    have h5 : (if (okF 12 d1 && l.all (okF 12)) = true then (l.findIdx? fun z => eqF 12 z d1).map fun j => (D.non, l.eraseIdx j) else none) = some (d, l') := h4
    have e1 : (okF 12 d1 && l.all (okF 12)) = true := by
      by_cases e : (okF 12 d1 && l.all (okF 12)) = true
      · exact e
      · rw [if_neg e] at h5
        cases h5
    rw [if_pos e1] at h5
    obtain ⟨c1, c2⟩ := Bool.and_eq_true_iff.mp e1
    obtain ⟨j, f1, f2⟩ := Option.map_eq_some_iff.mp h5
    cases f2
    obtain ⟨p, a1, a2⟩ := okF_shaped (by decide) c1
    obtain ⟨p2, b1, b2⟩ := okF_shaped (n := 13) (d := .lst l) (by decide) c2
    obtain ⟨ps, b3, rfl⟩ := Option.map_eq_some_iff.mp (show (toPL l).map .list = some p2 from b1)
    exact ⟨a, v, p, xs, ps, j, rfl, rfl, h1, rel_dpL l b3 h2, rel_dp d1 a1 rv, b2, a2, by rw [← f1, find_eqv c1 a1 c2 b3]; rfl, q _ .non rfl (h2.eraseIdx j)⟩
theorem de_remove (hu : X.A.units + 65 < cLine) (i : Nat) (ha : DE X Wx ms e fe) (hm : ms.contains i = true := by rfl) (hN : X.N[i]? = some x := by rfl) (hv : Vis X.env.scope x := by first | exact Or.inl rfl | exact Or.inr (Or.inl rfl) | exact Or.inr (Or.inr rfl))
    (hd : (x == ("__debug__" : Str)) = false := by decide) (hcd : (x == ("__classdict__" : Str)) = false := by decide)
    (hs1 : starEach [e] X.env = (false, eval e X.env) :: starEach [] X.env := by rfl)
    (hbase : attributeBase (.Name x pos) "remove" X.env (eval (.Name x pos) X.env) = eval (.Name x pos) X.env := by rfl)
    (hfew : ((backTo cpos (starEach [e] X.env)).all (fun x => !x.1) && (backToKw cpos (keywordEach [] X.env)).all (fun x => x.1.isSome)
      && decide ([e].length + ([] : List Keyword).length + (if ([] : List Keyword).isEmpty then 0 else 1) < 30)) = true := by rfl)
    (hline : (apos.endLine == cpos.line) = true := by rfl) (hplain : (backTo cpos (starEach [] X.env)).any (·.1) = false := by rfl) :
    DE X Wx ms (.Call (.Attribute (.Name x pos) "remove" apos) [e] [] cpos) (vMeth i mRemove (aCons fe aNil)) := fun B W env σ H Q o h =>
  PE.tm (pe_bm PySem.F.plainAttrs_list PySem.F.slot_list_remove PySem.F.type_list_remove (mt_removeD hu) (pe_var hN hv hd hcd) pa_tm hbase hfew hline hs1 hplain) (tm_meth (o := e) mo_remove o hm (da_cons ha da_nil hs1) h)
end

/-! ### arguments that are only read: all our own lists are lent -/
abbrev Ld (W : Addr → Prop) (H : Hp) : Addr → Prop := fun a => W a ∧ ∃ vs, H a = some (.lst vs)
abbrev LB (B : Br) (W : Addr → Prop) (H : Hp) : Addr → Prop := fun a => Bar B W a ∧ ¬ Ld W H a
theorem Rel.lent {T : Tx} {B : Br} {W : Addr → Prop} {H : Hp} {d : D} {v : V} (r : Rel T (Bar B W) H d v) : Rel T (LB B W H) H d v := Rel.anti (fun _ z => z.1) r
def rkL0 (T : Tx) : Rk T (List D) (List V) := ⟨fun _ _ _ B W H ds vs => RelL T (LB B W H) H ds vs, fun _ h => h⟩
def DA0 (X : Cx) (Wx : WX) (ms : Ms) (es : List Expr) (f : M (List D)) : Prop := ∀ B W env σ H Q, Ok (tx X) ms B W env σ H → Po (tx X) Wx ms B W σ H (rkL0 (tx X)) (f env) Q → tmA X es σ H Q
/-- our own list, as it stands behind the other arguments -/
def aOwn (j : Nat) (fs : M (List D)) : M (List D) := fun env => match env[j]? with
  | some (some (.lst _)) => (fs env).bind fun ds env1 => match env1[j]? with
    | some (some (.lst l)) => .ok (.lst l :: ds) env1
    | _ => .stuck
  | _ => .stuck
mutual
/-- no list, no object in it -/
def flatD : D → Bool
  | .non => true
  | .bl _ => true
  | .int _ => true
  | .str _ => true
  | .tup l => flatL l
  | _ => false
def flatL : List D → Bool
  | [] => true
  | d :: ds => flatD d && flatL ds
end
mutual
theorem flat_rel {T : Tx} {B B' : Addr → Prop} {H : Hp} (hB : ∀ a, B' a → B a ∨ ∃ vs, H a = some (.lst vs)) : ∀ (d : D) {v : V}, flatD d = true → Rel T B H d v → Rel T B' H d v
  | .non, _, _, r => r
  | .bl _, _, _, r => r
  | .int _, _, _, r => r
  | .str _, _, _, r => r
  | .tup l, _, h, r => by
    obtain ⟨a, vs, e1, e2, e3⟩ := r
    refine ⟨a, vs, e1, ?_, flat_relL hB l h e3⟩
    rcases e2 with ⟨e2, n⟩ | e2
    · refine .inl ⟨e2, fun z => ?_⟩
      rcases hB a z with z | ⟨us, z⟩
      · exact n z
      · rw [e2] at z
        cases z
    · exact .inr e2
  | .lst _, _, h, _ => by cases h
  | .obj _ _ _, _, h, _ => by cases h
  | .set _, _, h, _ => by cases h
  | .cls _, _, h, _ => by cases h
  | .scr _, _, h, _ => by cases h
  | .xc _ _ _, _, h, _ => by cases h
  | .dic _ _ _, _, h, _ => by cases h
theorem flat_relL {T : Tx} {B B' : Addr → Prop} {H : Hp} (hB : ∀ a, B' a → B a ∨ ∃ vs, H a = some (.lst vs)) : ∀ (ds : List D) {vs : List V}, flatL ds = true → RelL T B H ds vs → RelL T B' H ds vs
  | [], [], _, _ => trivial
  | [], _ :: _, _, r => r.elim
  | _ :: _, [], _, r => r.elim
  | d :: ds, _ :: _, h, r => ⟨flat_rel hB d (Bool.and_eq_true_iff.mp h).1 r.1, flat_relL hB ds (Bool.and_eq_true_iff.mp h).2 r.2⟩
end
section
variable {X : Cx} {Wx : WX} {ms : Ms} {e : Expr} {es : List Expr} {fe : M D} {fs : M (List D)} {pos : Pos} {x y : Str} {p p' : Pos}
theorem da0_nil : DA0 X Wx ms [] aNil := fun B W env σ H Q o h => PA.tm pa_nil (h.done (v := []) o trivial)
theorem da0_cons (ha : DE X Wx ms e fe) (hr : DA0 X Wx ms es fs) (hs : starEach (e :: es) X.env = (false, eval e X.env) :: starEach es X.env := by rfl) : DA0 X Wx ms (e :: es) (aCons fe fs) := fun B W env σ H Q o h =>
  PA.tm (pa_cons pe_tm pa_tm hs) (ha _ _ _ _ _ _ o (h.cont (k1 := rkD (tx X)) fun d env1 W1 H1 x n1 o1 r1 h1 => hr _ _ _ _ _ _ o1 (h1.cont (k1 := rkL0 (tx X)) fun ds env2 W2 H2 xs n2 o2 r2 h2 => h2.done (v := x :: xs) o2 ⟨(Rel.ext n2.ext d r1).lent, r2⟩)))
theorem da0_own (j : Nat) (hr : DA0 X Wx ms es fs) (hj : ms.contains j = true := by rfl) (hN : X.N[j]? = some y := by rfl) (hv : Vis X.env.scope y := by first | exact Or.inl rfl | exact Or.inr (Or.inl rfl) | exact Or.inr (Or.inr rfl))
    (hdy : (y == ("__debug__" : Str)) = false := by decide) (hcd : (y == ("__classdict__" : Str)) = false := by decide)
    (hs : starEach (.Name y p' :: es) X.env = (false, eval (.Name y p') X.env) :: starEach es X.env := by rfl) : DA0 X Wx ms (.Name y p' :: es) (aOwn j fs) := by
  intro B W env σ H Q o h
  unfold aOwn at h
  cases q : env[j]? with
  | none =>
    rw [q] at h
    exact h.elim
  | some z =>
    cases z with
    | none =>
      rw [q] at h
      exact h.elim
    | some d0 =>
      rw [q] at h
      cases d0 with
      | lst l0 =>
        obtain ⟨a, vs0, e1, e2, e3, e4⟩ := o.cell hj q
        refine PA.tm (pa_cons (pe_var hN hv hdy hcd) pa_tm hs) ⟨_, e1, hr _ _ _ _ _ _ o (Po.cont (k1 := rkL0 (tx X)) h fun ds env1 W1 H1 vs n1 o1 r1 h1 => ?_)⟩
        cases q1 : env1[j]? with
        | none =>
          rw [q1] at h1
          exact h1.elim
        | some z =>
          cases z with
          | none =>
            rw [q1] at h1
            exact h1.elim
          | some d1 =>
            rw [q1] at h1
            cases d1 with
            | lst l =>
              obtain ⟨b, xs, f1, f2, f3, f4⟩ := o1.cell hj q1
              have eb : b = a := by
                rw [e1] at f1
                have z := Option.some.inj (Option.some.inj f1)
                injection z with z
                exact z.symm
              subst eb
              exact Po.done (k := rkL0 (tx X)) h1 (v := .ref b :: vs) o1 ⟨⟨b, xs, rfl, f3, (fun z => z.2 ⟨f2, _, f3⟩), RelL.anti (fun _ z => z.1) f4⟩, r1⟩
            | _ => exact h1.elim
      | _ => exact h.elim
/-- what a call may answer that was lent our lists -/
def flatF (fr : Bool) (d : D) : Bool := match d with
  | .lst l => fr && flatL l
  | d => flatD d
def cCallRo (fr : Bool) (np : Nat) (m : List D → Rs) (fs : M (List D)) : M D := fun env => (fs env).bind fun ds env1 => if ds.length = np then (match m ds with
  | .ok d _ => if flatF fr d = true then .ok d env1 else .stuck
  | .err c ns es _ => if flatL es = true then .err c ns es env1 else .stuck
  | .stuck => .stuck) else .stuck
variable {m : List D → Rs} {np k : Nat} {f : Addr}
theorem sp_callRo {fr : Bool} {B : Br} {W : Addr → Prop} {env : En} {σ : L2.St} {H : Hp} {Q : VK} {ds : List D} {vs : List V} (o : Ok (tx X) ms B W env σ H) (r : RelL (tx X) (LB B W H) H ds vs) (hn : ds.length = np)
    (h : Po (tx X) Wx ms B W σ H (if fr = true then rkF (tx X) ms else rkD (tx X)) (match m ds with | .ok d _ => if flatF fr d = true then .ok d env else .stuck | .err c ns es _ => if flatL es = true then .err c ns es env else .stuck | .stuck => .stuck) Q) : SpD (tx X) np none fr m vs H Q (WE Wx σ) := by
  have an : ∀ a, LB B W H a ∨ False → LB B W H a := fun a z => z.elim id False.elim
  refine ⟨LB B W H, fun _ => False, ds, by rw [← r.length]; exact hn, hn, fun a z => o.wf a (an a z).1, fun i d v e1 e2 => ⟨fun _ => Rel.anti an (r.nth e1 e2), (fun z => by cases z)⟩, fun _ _ z => z, (fun i z => by cases z), ?_⟩
  have bk : ∀ {H' : Hp} {W' : Addr → Prop}, Same H H' → ∀ a, Bar B W a → (LB B W H a ∨ W' a) ∨ ∃ vs, H' a = some (.lst vs) := fun {H' W'} sm a z => by
    by_cases q : Ld W H a
    · obtain ⟨us, e⟩ := q.2
      exact .inr ⟨us, sm _ _ e⟩
    · exact .inl (.inl ⟨z, q⟩)
  cases q : m ds with
  | stuck => rw [q] at h; exact h
  | ok d iod =>
    rw [q] at h
    intro W' H' v n _ z
    have sm : Same H H' := fun a u e => n.keep a u e fun z => z
    have h' : Po (tx X) Wx ms B W σ H (if fr = true then rkF (tx X) ms else rkD (tx X)) (if flatF fr d = true then R.ok d env else .stuck) Q := h
    by_cases hs : flatF fr d = true
    · rw [if_pos hs] at h'
      cases fr with
      | false =>
        have hs' : flatD d = true := by
          cases d with
          | lst l => cases hs
          | _ => exact hs
        exact h' W H' v (Nxt.same sm) (o.same sm) (flat_rel (bk sm) d hs' z)
      | true =>
        obtain ⟨a, us, l, rfl, rfl, z1, z2, z3, z4⟩ := z
        have hs' : flatL l = true := hs
        have ha : H a = none := (n.new a z1).elim (fun z => z.elim) id
        have ex : Ext (Bar B W) H (Bar B fun c => W c ∨ c = a) H' := ⟨fun c u e _ => sm c u e, fun c z => by
          rcases z with z | z | z
          · exact .inl (.inl z)
          · exact .inl (.inr z)
          · exact .inr (by rw [z]; exact ha)⟩
        refine h' (fun c => W c ∨ c = a) H' _ ⟨fun c u e _ => sm c u e, fun c z => ?_, fun c u e => ⟨u, sm c u e⟩⟩ ⟨o.len, fun c z => ?_, fun i d hi e => ?_, fun i d hi e => ?_, o.dj, o.fx⟩
          ⟨a, us, l, rfl, rfl, .inr rfl, ha, z3, flat_relL (fun c b => ?_) l hs' z4, fun i e hi he hs => ?_⟩
        · rcases z with z | z
          · exact .inl z
          · exact .inr (by rw [z]; exact ha)
        · rcases z with z | z | z
          · obtain ⟨u, e⟩ := o.wf c (.inl z)
            exact ⟨u, sm c u e⟩
          · obtain ⟨u, e⟩ := o.wf c (.inr z)
            exact ⟨u, sm c u e⟩
          · exact ⟨_, by rw [z]; exact z3⟩
        · obtain ⟨v, e1, e2⟩ := o.sl i d hi e
          exact ⟨v, e1, Rel.ext ex d e2⟩
        · obtain ⟨v, e1, e2⟩ := o.mu i d hi e
          exact ⟨v, e1, e2.ext ex fun c u w e => ⟨.inl w, sm c u e⟩⟩
        · rcases b with b | b | b
          · exact bk sm c (.inl b)
          · exact bk sm c (.inr b)
          · exact .inl (.inr (by rw [b]; exact z1))
        · obtain ⟨_, u, hu⟩ := o.cellAt hi he hs
          rw [ha] at hu
          cases hu
    · rw [if_neg hs] at h'
      exact h'.elim
  | err c ns es iod =>
    rw [q] at h
    intro W' H' dx ws n _ z1 z2 z3 z4
    have sm : Same H H' := fun a u e => n.keep a u e fun z => z
    have h' : Po (tx X) Wx ms B W σ H (if fr = true then rkF (tx X) ms else rkD (tx X)) (if flatL es = true then R.err c ns es env else .stuck) Q := h
    by_cases hs : flatL es = true
    · rw [if_pos hs] at h'
      exact h' W H' dx ws (Nxt.same sm) (o.same sm) z1 z2 z3 (flat_relL (bk sm) es hs z4)
    · rw [if_neg hs] at h'
      exact h'.elim
theorem de_callRo (F : Fn X k f np none false m) (hr : Room k X.A) (hg : Gl X x) (hm : X.mg x = some (.ref f)) (hk : PySem.W.keepIn X.K (.ref f) = true) (tk : Takes X Wx) (ha : DA0 X Wx ms (e :: es) fs) (hdb : (x == ("__debug__" : Str)) = false := by decide)
    (he : starEach (e :: es) X.env = (false, eval e X.env) :: starEach es X.env := by rfl) (hpl : (backTo pos (starEach es X.env)).any (·.1) = false := by rfl) : DE X Wx ms (.Call (.Name x p) (e :: es) [] pos) (cCallRo false np m fs) := fun B W env σ H Q o h =>
  tm_call F hr hg hm hk (E := WE Wx) (passAt tk) (ha _ _ _ _ _ _ o (h.cont (k1 := rkL0 (tx X)) fun ds env1 W1 H1 vs n1 o1 r1 h1 => by
    by_cases hn : ds.length = np
    · rw [if_pos hn] at h1
      exact sp_callRo (fr := false) o1 r1 hn h1
    · rw [if_neg hn] at h1
      exact h1.elim)) hdb he hpl
theorem df_callRo (F : Fn X k f np none true m) (hr : Room k X.A) (hg : Gl X x) (hm : X.mg x = some (.ref f)) (hk : PySem.W.keepIn X.K (.ref f) = true) (tk : Takes X Wx) (ha : DA0 X Wx ms (e :: es) fs) (hdb : (x == ("__debug__" : Str)) = false := by decide)
    (he : starEach (e :: es) X.env = (false, eval e X.env) :: starEach es X.env := by rfl) (hpl : (backTo pos (starEach es X.env)).any (·.1) = false := by rfl) : DF X Wx ms (.Call (.Name x p) (e :: es) [] pos) (cCallRo true np m fs) := fun B W env σ H Q o h =>
  tm_call F hr hg hm hk (E := WE Wx) (passAt tk) (ha _ _ _ _ _ _ o (h.cont (k1 := rkL0 (tx X)) fun ds env1 W1 H1 vs n1 o1 r1 h1 => by
    by_cases hn : ds.length = np
    · rw [if_pos hn] at h1
      exact sp_callRo (fr := true) o1 r1 hn h1
    · rw [if_neg hn] at h1
      exact h1.elim)) hdb he hpl
end
end DL

set_option Elab.async false
set_option linter.all false
set_option maxRecDepth 100000
set_option maxHeartbeats 4000000
/-! displays of constants; the Hook by a quicker walk over what is reached -/
namespace DL
open PySem PySem.Spec PyProof.Rows L2
def aC (ds : List D) : M (List D) := fun env => .ok ds env
def cL (f : Expr → Option D) : List Expr → Option (List D)
  | [] => some []
  | e :: es => match f e with
    | some d => (cL f es).map fun ds => d :: ds
    | none => none
def cD : Nat → Expr → Option D
  | _, .Constant (.int i) _ _ => some (.int i)
  | _, .Constant (.bool b) _ _ => some (.bl b)
  | _, .Constant .none _ _ => some .non
  | n + 1, .Tuple es _ _ => (cL (cD n) es).bind fun ds => if small ds.length = true then some (.tup ds) else none
  | _, _ => none
section
variable {X : Cx} {Wx : WX} {ms : Ms}
abbrev Star (e : Expr) : Prop := ∀ es env, starEach (e :: es) env = (false, eval e env) :: starEach es env
theorem da_cL {f : Expr → Option D} (hf : ∀ e d, f e = some d → DE X Wx ms e (vC d) ∧ Star e) : ∀ (es : List Expr) (ds : List D), cL f es = some ds → DA X Wx ms es (aC ds)
  | [], ds, h => by
    cases h
    exact da_nil
  | e :: es, ds, h => by
    unfold cL at h
    cases q : f e with
    | none =>
      rw [q] at h
      cases h
    | some d =>
      rw [q] at h
      obtain ⟨r, h1, rfl⟩ := Option.map_eq_some_iff.mp (show (cL f es).map (fun ds => d :: ds) = some ds from h)
      obtain ⟨h2, h3⟩ := hf e d q
      exact da_cons h2 (da_cL hf es r h1) (h3 _ _)
theorem de_cD : ∀ (n : Nat) (e : Expr) (d : D), cD n e = some d → DE X Wx ms e (vC d) ∧ Star e := by
  intro n
  induction n with
  | zero =>
    intro e d h
    cases e with
    | Constant c j p =>
      cases c with
      | int i => cases h; exact ⟨de_int, fun _ _ => rfl⟩
      | bool b => cases h; exact ⟨de_bl, fun _ _ => rfl⟩
      | none => cases h; exact ⟨de_non, fun _ _ => rfl⟩
      | _ => cases h
    | _ => cases h
  | succ n ih =>
    intro e d h
    cases e with
    | Constant c j p =>
      cases c with
      | int i => cases h; exact ⟨de_int, fun _ _ => rfl⟩
      | bool b => cases h; exact ⟨de_bl, fun _ _ => rfl⟩
      | none => cases h; exact ⟨de_non, fun _ _ => rfl⟩
      | _ => cases h
    | Tuple es c p =>
      obtain ⟨ds, h1, h2⟩ := Option.bind_eq_some_iff.mp (show (cL (cD n) es).bind (fun ds => if small ds.length = true then some (D.tup ds) else none) = some d from h)
      obtain ⟨h3, rfl⟩ := ite_some h2
      have t := de_tup (x1 := c) (pos := p) (da_cL ih es ds h1)
      refine ⟨?_, fun _ _ => rfl⟩
      have e : opN mkT (aC ds) = vC (.tup ds) := by
        funext env
        show M.of (if small ds.length = true then some (D.tup ds) else none) env = _
        rw [if_pos h3]
        rfl
      rw [← e]
      exact t
    | _ => cases h
theorem da_const (n : Nat) {es : List Expr} {ds : List D} (h : cL (cD n) es = some ds := by rfl) : DA X Wx ms es (aC ds) := da_cL (de_cD n) es ds h
end
/-! ### the Hook -/
def refsOf (g : Addr → Option Obj) (a : Addr) : List Addr := match g a with
  | some o => He.refsD o
  | none => []
def addAll (k : Nat → List Addr → List Addr) : List Addr → Nat → List Addr → List Addr
  | [], m, nw => k m nw
  | a :: as, m, nw => match Nat.testBit m a with
    | true => addAll k as m nw
    | false => match Nat.lor m (Nat.shiftLeft 1 a) with
      | 0 => []
      | m' + 1 => addAll k as (m' + 1) (a :: nw)
def rounds (g : Addr → Option Obj) : Nat → Nat → List Addr → List Addr
  | 0, _, fr => fr
  | n + 1, m, fr => fr ++ addAll (fun m nw => rounds g n m nw) (fr.flatMap (refsOf g)) m []
def reachN (g : Addr → Option Obj) (n : Nat) : List Addr := addAll (fun m nw => rounds g n m nw) [mainGlobals, cStatics] 0 []
def lookM (n : Nat) (fx : List (PySem.W.Frag → Bool)) (fn : List Df) (g : Addr → Option Obj) : Lk := look fx fn (He.frG g (reachN g n))
def hookM (n : Nat) (fx : List (PySem.W.Frag → Bool)) (fn : List Df) : PySem.W.Hook where
  α := Lk
  obs := fun sh => lookM n fx fn sh.heap.get?
  val := fun _ => lookWant fn
  says := fun _ hp => ∃ K : PySem.W.Frag, K.In hp ∧ Told fx fn K
  of := fun _ _ z => ⟨_, He.frG_in, z⟩
  keeps := fun _ _ _ ⟨K, q, c⟩ kp => ⟨K, PySem.W.Frag.In.keeps q kp, c⟩
theorem lookM_eq {n : Nat} {fx : List (PySem.W.Frag → Bool)} {fn : List Df} {g : Addr → Option Obj} {sh : Shared} (h : ∀ a, g a = sh.heap.get? a) : lookM n fx fn g = (hookM n fx fn).obs sh := by
  rw [show g = sh.heap.get? from funext h]
  rfl
end DL

set_option Elab.async false
set_option linter.all false
set_option maxRecDepth 100000
set_option maxHeartbeats 4000000
/-! dicts whose keys are ints; index; tuple(range(..)), list(range(..)) -/
namespace DL
open PySem PySem.Spec L2
def eqK (t : Bool) (a k : List Int) : Bool := match t with
  | true => a == k
  | false => a.headD 0 == k.headD 0
def getDi (t : Bool) (k : List Int) : List (List Int) → List D → Option D
  | a :: ks, d :: ds => if eqK t a k = true then some d else getDi t k ks ds
  | _, _ => none
def setDi (t : Bool) (k : List Int) (v : D) : List (List Int) → List D → List D
  | a :: ks, d :: ds => (if eqK t a k = true then v else d) :: setDi t k v ks ds
  | _, _ => []
def hasDi (t : Bool) (k : List Int) (ks : List (List Int)) : Bool := ks.any fun a => eqK t a k
def putDi (t : Bool) (k : List Int) (v : D) (ks : List (List Int)) (ds : List D) : List (List Int) × List D := if hasDi t k ks = true then (ks, setDi t k v ks ds) else (ks ++ [k], ds ++ [v])
theorem eqK_I (a k : List Int) : eqK false a k = decide (keyI a = keyI k) := by
  show (a.headD 0 == k.headD 0) = _
  unfold keyI
  by_cases e : a.headD 0 = k.headD 0
  · rw [e]
    simp
  · rw [beq_eq_false_iff_ne.mpr e]
    exact (decide_eq_false fun z => e (Sum.inl.inj z)).symm
section
variable {κ : Type} [DecidableEq κ] {key : List Int → κ} {t : Bool} {T : Tx} {B : Addr → Prop} {H : Hp}
theorem get_rel {k : List Int} (h : ∀ a k, eqK t a k = decide (key a = key k)) : ∀ {ks : List (List Int)} {ds : List D} {vs : List V} {d : D}, ks.length = vs.length → RelL T B H ds vs → getDi t k ks ds = some d → ∃ v, valV ((ks.map key).zip vs) (key k) = some v ∧ Rel T B H d v
  | [], _, _, _, _, _, e => by cases e
  | _ :: _, [], _, _, _, _, e => by cases e
  | _ :: _, _ :: _, [], _, _, r, _ => r.elim
  | a :: ks, d0 :: ds, v :: vs, d, hl, r, e => by
    have e' : (if eqK t a k = true then some d0 else getDi t k ks ds) = some d := e
    by_cases c : eqK t a k = true
    · rw [if_pos c] at e'
      cases e'
      rw [h] at c
      exact ⟨v, valV_pos (p := (key a, v)) (of_decide_eq_true c), r.1⟩
    · rw [if_neg c] at e'
      obtain ⟨w, e1, e2⟩ := get_rel h (Nat.succ.inj hl) r.2 e'
      rw [h] at c
      refine ⟨w, ?_, e2⟩
      rw [List.map_cons, List.zip_cons_cons, valV_neg (p := (key a, v)) (fun z => c (decide_eq_true z))]
      exact e1
theorem has_rel {k : List Int} (h : ∀ a k, eqK t a k = decide (key a = key k)) : ∀ {ks : List (List Int)} {vs : List V}, ks.length = vs.length → (((ks.map key).zip vs).any fun kv => decide (kv.1 = key k)) = hasDi t k ks
  | [], _, _ => by simp [hasDi]
  | _ :: _, [], hl => by cases hl
  | a :: ks, v :: vs, hl => by
    have ih := has_rel (k := k) h (ks := ks) (vs := vs) (Nat.succ.inj hl)
    rw [List.map_cons, List.zip_cons_cons, List.any_cons, ih]
    show _ = (eqK t a k || hasDi t k ks)
    rw [h]
theorem set_rel {k : List Int} {dv : D} {v : V} (h : ∀ a k, eqK t a k = decide (key a = key k)) (rv : Rel T B H dv v) : ∀ {ks : List (List Int)} {ds : List D} {vs : List V}, ks.length = vs.length → RelL T B H ds vs →
    ∃ vs', (((ks.map key).zip vs).map fun kv => if kv.1 = key k then (kv.1, v) else kv) = (ks.map key).zip vs' ∧ ks.length = vs'.length ∧ RelL T B H (setDi t k dv ks ds) vs'
  | [], ds, vs, hl, r => by
    cases vs with
    | nil => exact ⟨[], rfl, rfl, trivial⟩
    | cons _ _ => cases hl
  | _ :: _, [], vs, hl, r => by
    cases vs with
    | nil => cases hl
    | cons _ _ => exact r.elim
  | _ :: _, _ :: _, [], _, r => r.elim
  | a :: ks, d0 :: ds, w :: vs, hl, r => by
    obtain ⟨vs', e1, e2, e3⟩ := set_rel h rv (ks := ks) (ds := ds) (vs := vs) (Nat.succ.inj hl) r.2
    by_cases c : key a = key k
    · refine ⟨v :: vs', ?_, congrArg Nat.succ e2, ?_⟩
      · rw [List.map_cons, List.zip_cons_cons, List.map_cons, e1, if_pos c]
        rfl
      · show RelL T B H ((if eqK t a k = true then dv else d0) :: setDi t k dv ks ds) _
        rw [if_pos (by rw [h]; exact decide_eq_true c)]
        exact ⟨rv, e3⟩
    · refine ⟨w :: vs', ?_, congrArg Nat.succ e2, ?_⟩
      · rw [List.map_cons, List.zip_cons_cons, List.map_cons, e1, if_neg c]
        rfl
      · show RelL T B H ((if eqK t a k = true then dv else d0) :: setDi t k dv ks ds) _
        rw [if_neg (by rw [h]; intro z; exact c (of_decide_eq_true z))]
        exact ⟨r.1, e3⟩
theorem put_rel {k : List Int} {dv : D} {v : V} (h : ∀ a k, eqK t a k = decide (key a = key k)) (rv : Rel T B H dv v) {ks : List (List Int)} {ds : List D} {vs : List V} (hl : ks.length = vs.length) (r : RelL T B H ds vs) :
    ∃ vs', putK ((ks.map key).zip vs) (key k) v = ((putDi t k dv ks ds).1.map key).zip vs' ∧ (putDi t k dv ks ds).1.length = vs'.length ∧ RelL T B H (putDi t k dv ks ds).2 vs' := by
  unfold putK putDi
  rw [has_rel h hl]
  by_cases c : hasDi t k ks = true
  · rw [if_pos c, if_pos c]
    exact set_rel h rv hl r
  · rw [if_neg c, if_neg c]
    refine ⟨vs ++ [v], ?_, by simp [hl], r.append ⟨rv, trivial⟩⟩
    show _ = ((ks ++ [k]).map key).zip (vs ++ [v])
    rw [List.map_append, List.zip_append (by rw [List.length_map, hl])]
    rfl
end

/-! ### the rules -/
def isDic : Option (Option D) → Bool
  | some (some (.dic false _ _)) => true
  | _ => false
def vDicGet (g : List Int → List (List Int) → List D → Option D) (i : Nat) (fk : M D) : M D := fun env => if isDic env[i]? = true then (fk env).bind fun dk env1 => (match dk, env1[i]? with
  | .int k, some (some (.dic false ks ds)) => M.of (g [k] ks ds) env1
  | _, _ => .stuck) else .stuck
def vDGet : Nat → M D → M D := vDicGet (getDi false)
def vDIn : Nat → M D → M D := vDicGet fun k ks _ => some (.bl (hasDi false k ks))
def vDNotIn : Nat → M D → M D := vDicGet fun k ks _ => some (.bl (!hasDi false k ks))
section
variable {X : Cx} {Wx : WX} {ms : Ms} {kr : Rk (tx X) D V} {pos cpos apos pos' p : Pos} {x : Str} {e o : Expr} {fe fk fv fo : M D}
theorem Ok.dic {T : Tx} {B : Br} {W : Addr → Prop} {env : En} {σ : St} {H : Hp} {i : Nat} {ks : List (List Int)} {ds : List D} (o : Ok T ms B W env σ H) (hi : ms.contains i = true) (he : env[i]? = some (some (.dic false ks ds))) : ∃ a vs, σ[i]? = some (some (.ref a)) ∧ W a ∧ H a = some (.dK ((ks.map keyI).zip vs)) ∧ ks.length = vs.length ∧ RelL T (Bar B W) H ds vs := by
  obtain ⟨v, e1, e2⟩ := o.mu i _ hi he
  obtain ⟨a, vs, rfl, e3, e4, e5, e6⟩ := e2
  exact ⟨a, vs, e1, e3, e4, e5, e6⟩
/-- x = {} -/
theorem ds_dnew (i : Nat) (hN : X.N.Nodup) (hm : ms.contains i = true := by rfl) (hio : ms.io.contains i = false := by rfl) (hi : X.N[i]? = some x := by rfl) (hx : Loc X.env.scope x := by first | exact Or.inl rfl | exact Or.inr rfl)
    (hs : swapsWith (.Dict [] [] p) (some (.Name x pos')) pos.line X.env = pure false := by rfl) (hf : X.fn x = true ∨ X.env.scope.names.lookup x = some .local := by first | exact .inl rfl | exact .inr rfl) :
    DS X Wx ms kr (.Assign [.Name x pos'] (.Dict [] [] p) pos) (sSet i (vC (.dic false [] []))) := fun B W env σ H Dn o h =>
  PS.tm (ps_set hN hi hx pe_dnewK hs hf) fun q hq => by
    have ex : Ext (Bar B W) H (Bar B fun c => W c ∨ c = q) (upd H q (.dK [])) := ⟨fun c z h _ => Same.upd hq c z h, fun c z => by
      rcases z with z | z | z
      · exact .inl (.inl z)
      · exact .inl (.inr z)
      · exact .inr (by rw [z]; exact hq)⟩
    have o1 := o.more (u := .dK []) hq
    have free : ∀ j e, ms.contains j = true → env[j]? = some (some e) → σ[j]? ≠ some (some (.ref q)) := fun j e hj he hs => by
      obtain ⟨_, u, hu⟩ := o.cellAt hj he hs
      rw [hq] at hu; cases hu
    refine h (fun c => W c ∨ c = q) _ _ ⟨fun c z h _ => Same.upd hq c z h, fun c z => ?_, fun c z h => ⟨z, Same.upd hq c z h⟩⟩ ⟨by rw [List.length_set, List.length_set, o.len], o1.wf, fun j e hj he => ?_, fun j e hj he => ?_, fun j k e f c hj hk n he hf' hs1 hs2 => ?_, fun j w h => ?_⟩
    · rcases z with z | z
      · exact .inl z
      · exact .inr (by rw [z]; exact hq)
    · rcases set_get he with ⟨rfl, rfl⟩ | ⟨n, he⟩
      · rw [hm] at hj; cases hj
      · obtain ⟨w, e1, e2⟩ := o1.sl j e hj he
        exact ⟨w, by rw [List.getElem?_set_ne (Ne.symm n)]; exact e1, e2⟩
    · rcases set_get he with ⟨rfl, rfl⟩ | ⟨n, he⟩
      · refine ⟨.ref q, List.getElem?_set_self ?_, ⟨q, [], rfl, .inr rfl, upd_same, rfl, trivial⟩⟩
        have := (List.getElem?_eq_some_iff.mp hi).1
        rw [o.len]
        by_cases hlt : j < env.length
        · exact hlt
        · rw [List.getElem?_eq_none (by rw [List.length_set]; omega)] at he
          cases he
      · obtain ⟨w, e1, e2⟩ := o1.mu j e hj he
        exact ⟨w, by rw [List.getElem?_set_ne (Ne.symm n)]; exact e1, e2⟩
    · have hlen : ∀ {j : Nat} {c : Option V}, (σ.set i (some (.ref q)))[j]? = some c → j < σ.length := fun hs => by
        have := (List.getElem?_eq_some_iff.mp hs).1
        rw [List.length_set] at this
        exact this
      rcases set_get he with ⟨rfl, rfl⟩ | ⟨n1, he1⟩
      · rcases set_get hf' with ⟨rfl, rfl⟩ | ⟨n2, hf'⟩
        · exact n rfl
        · rw [List.getElem?_set_self (hlen hs1)] at hs1
          rw [List.getElem?_set_ne (Ne.symm n2)] at hs2
          have ea : V.ref q = .ref c := Option.some.inj (Option.some.inj hs1)
          injection ea with ea
          subst ea
          exact free k f hk hf' hs2
      · rcases set_get hf' with ⟨rfl, rfl⟩ | ⟨n2, hf'⟩
        · rw [List.getElem?_set_self (hlen hs2)] at hs2
          rw [List.getElem?_set_ne (Ne.symm n1)] at hs1
          have ea : V.ref q = .ref c := Option.some.inj (Option.some.inj hs2)
          injection ea with ea
          subst ea
          exact free j e hj he1 hs1
        · rw [List.getElem?_set_ne (Ne.symm n1)] at hs1
          rw [List.getElem?_set_ne (Ne.symm n2)] at hs2
          exact o.dj j k e f c hj hk n he1 hf' hs1 hs2
    · obtain ⟨e1, e2, e3, e, e4⟩ := o.fx j w h
      have n : j ≠ i := fun z => by
        rw [z, hio] at e1
        cases e1
      exact ⟨e1, e2, by rw [List.getElem?_set_ne (Ne.symm n)]; exact e3, e, by rw [List.getElem?_set_ne (Ne.symm n)]; exact e4⟩
theorem isDic_some {z : Option (Option D)} (h : isDic z = true) : ∃ ks ds, z = some (some (.dic false ks ds)) := by
  unfold isDic at h
  split at h
  · exact ⟨_, _, rfl⟩
  · cases h
structure DicAt (X : Cx) (Wx : WX) (ms : Ms) (B : Br) (σ : L2.St) (g : List Int → List (List Int) → List D → Option D) (Q : VK) (a : Addr) (y : V) (H1 : Hp) where
  W1 : Addr → Prop
  env1 : En
  k : Int
  ks : List (List Int)
  ds : List D
  vs : List V
  z : D
  hy : y = .int k
  o : Ok (tx X) ms B W1 env1 σ H1
  ha : H1 a = some (.dK ((ks.map keyI).zip vs))
  hl : ks.length = vs.length
  hr : RelL (tx X) (Bar B W1) H1 ds vs
  hg : g [k] ks ds = some z
  hp : Po (tx X) Wx ms B W1 σ H1 (rkD (tx X)) (.ok z env1) Q
theorem tm_dic {g : List Int → List (List Int) → List D → Option D} {i : Nat} (he : DE X Wx ms e fe) (hm : ms.contains i = true) {B : Br} {W : Addr → Prop} {env : En} {σ : L2.St} {H : Hp} {Q : VK} (o : Ok (tx X) ms B W env σ H) (h : Po (tx X) Wx ms B W σ H (rkD (tx X)) (vDicGet g i fe env) Q) {Q1 : Addr → VK}
    (k : ∀ a y H1, DicAt X Wx ms B σ g Q a y H1 → σ[i]? = some (some (.ref a)) → Q1 a y H1) : ∃ a, σ[i]? = some (some (.ref a)) ∧ tm X e σ H (Q1 a) := by
  unfold vDicGet at h
  by_cases c : isDic env[i]? = true
  · rw [if_pos c] at h
    obtain ⟨ks0, ds0, q0⟩ := isDic_some c
    obtain ⟨a, vs0, e1, _⟩ := o.dic hm q0
    refine ⟨a, e1, he _ _ _ _ _ _ o (Po.cont (k1 := rkD (tx X)) h fun dk env1 W1 H1 y n1 o1 r1 h1 => ?_)⟩
    cases dk with
    | int k1 =>
      cases q : env1[i]? with
      | none => rw [q] at h1; exact h1.elim
      | some z =>
        cases z with
        | none => rw [q] at h1; exact h1.elim
        | some d =>
          rw [q] at h1
          cases d with
          | dic t ks ds =>
            cases t with
            | true => exact h1.elim
            | false =>
              obtain ⟨b, vs, f1, f2, f3, f4, f5⟩ := o1.dic hm q
              have eb : b = a := by
                rw [e1] at f1
                have z := Option.some.inj (Option.some.inj f1)
                injection z with z
                exact z.symm
              subst eb
              obtain ⟨z, g1, g2⟩ := of_pos h1
              exact k b y H1 ⟨W1, env1, k1, ks, ds, vs, z, r1, o1, f3, f4, f5, g1, g2⟩ e1
          | _ => exact h1.elim
    | _ => exact h1.elim
  · rw [if_neg c] at h
    exact h.elim
theorem de_dget (hu : X.A.units + 65 < cLine) (i : Nat) (he : DE X Wx ms e fe) (hm : ms.contains i = true := by rfl) (hN : X.N[i]? = some x := by rfl) (hv : Vis X.env.scope x := by first | exact Or.inl rfl | exact Or.inr (Or.inl rfl) | exact Or.inr (Or.inr rfl))
    (hd : (x == ("__debug__" : Str)) = false := by decide) (hcd : (x == ("__classdict__" : Str)) = false := by decide) (hs : NoSl e := by intro _ _; rfl) : DE X Wx ms (.Subscript (.Name x p) e pos) (vDGet i fe) := fun B W env σ H Q o h => by
  obtain ⟨a, e1, t⟩ := tm_dic (Q1 := fun a y H2 => ∃ b v, V.ref a = .ref b ∧ DGet H2 b y (some v) ∧ Q v H2) he hm o h fun a y H1 d _ => by
    obtain ⟨v, f1, f2⟩ := get_rel (k := [d.k]) eqK_I d.hl d.hr d.hg
    have g := DGet.k (k := .inl d.k) d.ha
    have e0 : kV (.inl d.k) = y := d.hy.symm
    rw [e0, show valV ((d.ks.map keyI).zip d.vs) (.inl d.k) = some v from f1] at g
    exact ⟨a, v, rfl, g, d.hp.done d.o f2⟩
  exact PE.tm (pe_dget (by omega) (pe_var hN hv hd hcd) pe_tm hs) ⟨_, e1, t⟩
theorem valV_isSome {ks : List (List Int)} {vs : List V} {k : List Int} (hl : ks.length = vs.length) : (valV ((ks.map keyI).zip vs) (keyI k)).isSome = hasDi false k ks := by
  rw [← valV_any, has_rel eqK_I hl]
theorem pc_dinD (hu : X.A.units + 65 < cLine) (i : Nat) (he : DE X Wx ms e fe) (hm : ms.contains i = true) (hN : X.N[i]? = some x) (hv : Vis X.env.scope x)
    (hd : (x == ("__debug__" : Str)) = false) (hcd : (x == ("__classdict__" : Str)) = false) {B : Br} {W : Addr → Prop} {env : En} {σ : L2.St} {H : Hp} {Q : VK} (o : Ok (tx X) ms B W env σ H) (h : Po (tx X) Wx ms B W σ H (rkD (tx X)) (vDIn i fe env) Q) : tDIn (tm X e) (tVar i) σ H Q := by
  obtain ⟨a, e1, t⟩ := tm_dic (Q1 := fun _ y H1 => tVar i σ H1 fun x H2 => ∃ a o, x = .ref a ∧ DGet H2 a y o ∧ Q (.bl o.isSome) H2) he hm o h fun a y H1 d ea => by
    have g := DGet.k (k := .inl d.k) d.ha
    have e0 : kV (.inl d.k) = y := d.hy.symm
    rw [e0] at g
    refine ⟨_, ea, a, _, rfl, g, d.hp.done d.o ?_⟩
    have ez : D.bl (hasDi false [d.k] d.ks) = d.z := Option.some.inj d.hg
    rw [← ez]
    exact congrArg V.bl (valV_isSome (k := [d.k]) d.hl)
  exact t
theorem pc_dnotinD (hu : X.A.units + 65 < cLine) (i : Nat) (he : DE X Wx ms e fe) (hm : ms.contains i = true) (hN : X.N[i]? = some x) (hv : Vis X.env.scope x)
    (hd : (x == ("__debug__" : Str)) = false) (hcd : (x == ("__classdict__" : Str)) = false) {B : Br} {W : Addr → Prop} {env : En} {σ : L2.St} {H : Hp} {Q : VK} (o : Ok (tx X) ms B W env σ H) (h : Po (tx X) Wx ms B W σ H (rkD (tx X)) (vDNotIn i fe env) Q) : tDNotIn (tm X e) (tVar i) σ H Q := by
  obtain ⟨a, e1, t⟩ := tm_dic (Q1 := fun _ y H1 => tVar i σ H1 fun x H2 => ∃ a o, x = .ref a ∧ DGet H2 a y o ∧ Q (.bl (!o.isSome)) H2) he hm o h fun a y H1 d ea => by
    have g := DGet.k (k := .inl d.k) d.ha
    have e0 : kV (.inl d.k) = y := d.hy.symm
    rw [e0] at g
    refine ⟨_, ea, a, _, rfl, g, d.hp.done d.o ?_⟩
    have ez : D.bl (!hasDi false [d.k] d.ks) = d.z := Option.some.inj d.hg
    rw [← ez]
    exact congrArg (fun b => V.bl (!b)) (valV_isSome (k := [d.k]) d.hl)
  exact t
theorem de_din (hu : X.A.units + 65 < cLine) (i : Nat) (he : DE X Wx ms e fe) (hm : ms.contains i = true := by rfl) (hN : X.N[i]? = some x := by rfl) (hv : Vis X.env.scope x := by first | exact Or.inl rfl | exact Or.inr (Or.inl rfl) | exact Or.inr (Or.inr rfl))
    (hd : (x == ("__debug__" : Str)) = false := by decide) (hcd : (x == ("__classdict__" : Str)) = false := by decide) : DE X Wx ms (.Compare e [.In] [.Name x p] pos) (vDIn i fe) := fun B W env σ H Q o h =>
  PE.tm (pe_cmp (pc_din (by omega) pe_tm (pe_var hN hv hd hcd)) rfl) (pc_dinD hu i he hm hN hv hd hcd o h)
theorem de_dnotin (hu : X.A.units + 65 < cLine) (i : Nat) (he : DE X Wx ms e fe) (hm : ms.contains i = true := by rfl) (hN : X.N[i]? = some x := by rfl) (hv : Vis X.env.scope x := by first | exact Or.inl rfl | exact Or.inr (Or.inl rfl) | exact Or.inr (Or.inr rfl))
    (hd : (x == ("__debug__" : Str)) = false := by decide) (hcd : (x == ("__classdict__" : Str)) = false := by decide) : DE X Wx ms (.Compare e [.NotIn] [.Name x p] pos) (vDNotIn i fe) := fun B W env σ H Q o h =>
  PE.tm (pe_cmp (pc_dnotin (by omega) pe_tm (pe_var hN hv hd hcd)) rfl) (pc_dnotinD hu i he hm hN hv hd hcd o h)
theorem po_tB {f : M D} {B : Br} {W : Addr → Prop} {env : En} {σ : L2.St} {H : Hp} {Q : Bool → Hp → Prop} (h : Po (tx X) Wx ms B W σ H (rkB (tx X)) (tB1 f env) Q) : Po (tx X) Wx ms B W σ H (rkD (tx X)) (f env) fun v H1 => ∃ b, v = .bl b ∧ Q b H1 :=
  h.cont (k1 := rkD (tx X)) fun d env1 W1 H1 x n1 o1 r1 h1 => by
    obtain ⟨z, e1, h3⟩ := of_pos h1
    have e2 := asB_some e1
    subst e2
    exact ⟨z, r1, h3.done o1 rfl⟩
theorem dt_din (hu : X.A.units + 65 < cLine) (i : Nat) (he : DE X Wx ms e fe) (hm : ms.contains i = true := by rfl) (hN : X.N[i]? = some x := by rfl) (hv : Vis X.env.scope x := by first | exact Or.inl rfl | exact Or.inr (Or.inl rfl) | exact Or.inr (Or.inr rfl))
    (hd : (x == ("__debug__" : Str)) = false := by decide) (hcd : (x == ("__classdict__" : Str)) = false := by decide) : DT X Wx ms (.Compare e [.In] [.Name x p] pos) (tB1 (vDIn i fe)) := fun B W env σ H Q o h =>
  PT.tm (pt_cmp (pc_din (by omega) pe_tm (pe_var hN hv hd hcd)) rfl) (pc_dinD hu i he hm hN hv hd hcd o (po_tB h))
theorem dt_dnotin (hu : X.A.units + 65 < cLine) (i : Nat) (he : DE X Wx ms e fe) (hm : ms.contains i = true := by rfl) (hN : X.N[i]? = some x := by rfl) (hv : Vis X.env.scope x := by first | exact Or.inl rfl | exact Or.inr (Or.inl rfl) | exact Or.inr (Or.inr rfl))
    (hd : (x == ("__debug__" : Str)) = false := by decide) (hcd : (x == ("__classdict__" : Str)) = false := by decide) : DT X Wx ms (.Compare e [.NotIn] [.Name x p] pos) (tB1 (vDNotIn i fe)) := fun B W env σ H Q o h =>
  PT.tm (pt_cmp (pc_dnotin (by omega) pe_tm (pe_var hN hv hd hcd)) rfl) (pc_dnotinD hu i he hm hN hv hd hcd o (po_tB h))
/-- len(x) -/
def lenDi (d : D) : Option D := match d with
  | .dic false ks _ => some (.int ks.length)
  | _ => none
theorem pu_lenDi : Pure1 X (r1N fun xs H Q => ∃ a kvs, xs = [V.ref a] ∧ H a = some (.dK kvs) ∧ Q (.int kvs.length) H) lenDi := by
  intro B H x d z Q _ r h q
  unfold lenDi at h
  split at h
  · obtain ⟨a, vs, rfl, h1, h2, _⟩ := r
    cases h
    refine ⟨a, _, rfl, h1, ?_⟩
    rw [List.length_zip, List.length_map, h2, Nat.min_self]
    rw [← h2]
    exact q H _ (Same.refl H) rfl
  · cases h
/-- x[k] = v -/
def sDPut_ (i : Nat) (fk fv : M D) : M Fl := fun env => (fv env).bind fun dv env1 => if isDic env1[i]? = true then (fk env1).bind fun dk env2 => (match dk, env2[i]? with
  | .int k, some (some (.dic false ks ds)) => if small ks.length = true then .ok .nx (env2.set i (some (.dic false (putDi false [k] dv ks ds).1 (putDi false [k] dv ks ds).2))) else .stuck
  | _, _ => .stuck) else .stuck
theorem ds_dput (hu : X.A.units + 65 < cLine) (i : Nat) (hk : DE X Wx ms e fk) (hv : DE X Wx ms o fv) (hm : ms.contains i = true := by rfl) (hN : X.N[i]? = some x := by rfl) (hvi : Vis X.env.scope x := by first | exact Or.inl rfl | exact Or.inr (Or.inl rfl) | exact Or.inr (Or.inr rfl))
    (hd : (x == ("__debug__" : Str)) = false := by decide) (hcd : (x == ("__classdict__" : Str)) = false := by decide) (hs : swapsWith o (some (.Subscript (.Name x p) e pos')) pos.line X.env = pure false := by rfl) :
    DS X Wx ms kr (.Assign [.Subscript (.Name x p) e pos'] o pos) (sDPut_ i fk fv) := fun B W env σ H Dn ok h => by
  refine PS.tm (ps_dput (by omega) (pe_var hN hvi hd hcd) pe_tm pe_tm hs) (hv _ _ _ _ _ _ ok (PoS.cont (k1 := rkD (tx X)) h fun dv env1 W1 H1 v n1 o1 r1 h1 => ?_))
  by_cases c : isDic env1[i]? = true
  · rw [if_pos c] at h1
    obtain ⟨ks0, ds0, q0⟩ := isDic_some c
    obtain ⟨a, vs0, e1, _⟩ := o1.dic hm q0
    refine ⟨_, e1, hk _ _ _ _ _ _ o1 (PoS.cont (k1 := rkD (tx X)) h1 fun dk env2 W2 H2 y n2 o2 r2 h2 => ?_)⟩
    cases dk with
    | int k =>
      cases q : env2[i]? with
      | none => rw [q] at h2; exact h2.elim
      | some z =>
        cases z with
        | none => rw [q] at h2; exact h2.elim
        | some d =>
          rw [q] at h2
          cases d with
          | dic t ks ds =>
            cases t with
            | true => exact h2.elim
            | false =>
              obtain ⟨b, vs, f1, f2, f3, f4, f5⟩ := o2.dic hm q
              have eb : b = a := by
                rw [e1] at f1
                have z := Option.some.inj (Option.some.inj f1)
                injection z with z
                exact z.symm
              subst eb
              have h3 : PoS (tx X) Wx ms kr B W2 H2 (if small ks.length = true then .ok .nx (env2.set i (some (.dic false (putDi false [k] dv ks ds).1 (putDi false [k] dv ks ds).2))) else .stuck) Dn := h2
              by_cases c2 : small ks.length = true
              · rw [if_pos c2] at h3
                obtain ⟨vs', p1, p2, p3⟩ := put_rel (key := keyI) (k := [k]) eqK_I (Rel.ext n2.ext dv r1) f4 f5
                have hl : ((ks.map keyI).zip vs).length < sizeLine := by
                  rw [List.length_zip, List.length_map, ← f4, Nat.min_self]
                  exact small_lt c2
                have g := DPut.k (k := .inl k) (v := v) f3 hl
                have e0 : kV (.inl k) = y := Eq.symm r2
                rw [e0, show putK ((ks.map keyI).zip vs) (.inl k) v = _ from p1] at g
                refine ⟨b, _, rfl, g, ?_⟩
                have ex : Ext (Bar B W2) H2 (Bar B W2) (upd H2 b (.dK (((putDi false [k] dv ks ds).1.map keyI).zip vs'))) := Ext.write f2
                exact h3 W2 _ _ (Nxt.write f2 ⟨_, f3⟩) (o2.write hm q e1 f2 ⟨_, f3⟩ ⟨b, vs', rfl, f2, upd_same, p2, RelL.ext ex _ p3⟩)
              · rw [if_neg c2] at h3
                exact h3.elim
          | _ => exact h2.elim
    | _ => exact h2.elim
  · rw [if_neg c] at h1
    exact h1.elim
/-- l.index(d) -/
def indexD (l d : D) : Option D := match l with
  | .lst l => if (okF 12 d && l.all (okF 12)) = true then (l.findIdx? fun z => eqF 12 z d).map fun j => .int (j : Nat) else none
  | _ => none
def vIndex (fo fe : M D) : M D := fun env => (fo env).bind fun l env1 => match l with
  | .lst _ => (fe env1).bind fun d env2 => M.of (indexD l d) env2
  | _ => .stuck
theorem de_index (hu : X.A.units + 65 < cLine) (ho : DE X Wx ms o fo) (ha : DE X Wx ms e fe)
    (hs1 : starEach [e] X.env = (false, eval e X.env) :: starEach [] X.env := by rfl)
    (hbase : attributeBase o "index" X.env (eval o X.env) = eval o X.env := by rfl)
    (hfew : ((backTo cpos (starEach [e] X.env)).all (fun x => !x.1) && (backToKw cpos (keywordEach [] X.env)).all (fun x => x.1.isSome)
      && decide ([e].length + ([] : List Keyword).length + (if ([] : List Keyword).isEmpty then 0 else 1) < 30)) = true := by rfl)
    (hline : (apos.endLine == cpos.line) = true := by rfl) (hplain : (backTo cpos (starEach [] X.env)).any (·.1) = false := by rfl) :
    DE X Wx ms (.Call (.Attribute o "index" apos) [e] [] cpos) (vIndex fo fe) := fun B W env σ H Q ok h => by
  refine PE.tm (pe_bm PySem.F.plainAttrs_list PySem.F.slot_list_index PySem.F.type_list_index (mt_indexD hu) pe_tm pa_tm hbase hfew hline hs1 hplain) ?_
  refine ho _ _ _ _ _ _ ok (h.cont (k1 := rkD (tx X)) fun d env1 W1 H1 x n1 o1 r1 h1 => ?_)
  have key : ∀ l, d = .lst l → tyV X.K "list" x H1 ∧ tmA X [e] σ H1 fun xs H2 => rIndexD X.K x xs H2 Q := fun l el => by
    subst el
    obtain ⟨a, vs, rfl, r2, r3, r4⟩ := r1
    refine ⟨.inl ⟨rfl, _, SqL.of r2⟩, PA.tm (pa_cons pe_tm pa_nil hs1) (ha _ _ _ _ _ _ o1 (h1.cont (k1 := rkD (tx X)) fun d2 env2 W2 H2 v n2 o2 rv h2 => ?_))⟩
    obtain ⟨z, e1, h3⟩ := of_pos h2
    have e2 : (if (okF 12 d2 && l.all (okF 12)) = true then (l.findIdx? fun z => eqF 12 z d2).map fun j => D.int (j : Nat) else none) = some z := e1
    by_cases c : (okF 12 d2 && l.all (okF 12)) = true
    · rw [if_pos c] at e2
      obtain ⟨c1, c2⟩ := Bool.and_eq_true_iff.mp c
      obtain ⟨j, f1, rfl⟩ := Option.map_eq_some_iff.mp e2
      obtain ⟨p, a1, a2⟩ := okF_shaped (by decide) c1
      obtain ⟨p2, b1, b2⟩ := okF_shaped (n := 13) (d := .lst l) (by decide) c2
      obtain ⟨ps, b3, rfl⟩ := Option.map_eq_some_iff.mp (show (toPL l).map .list = some p2 from b1)
      rw [find_eqv c1 a1 c2 b3] at f1
      obtain ⟨hj, g1, g2⟩ := List.findIdx?_eq_some_iff_getElem.mp f1
      refine ⟨a, v, p, ps, j, ps[j], rfl, rfl, .lst (SqL.of (n2.ext.keep _ _ r2 r3)) (rel_dpL l b3 (RelL.ext n2.ext _ r4)), rel_dp d2 a1 rv, b2, a2, List.getElem?_eq_getElem hj, g1, fun m z' hm hz' => ?_, h3.done (v := V.int ((j : Nat) : Int)) o2 (show _ = _ from rfl)⟩
      have hl : m < ps.length := Nat.lt_trans hm hj
      rw [List.getElem?_eq_getElem hl] at hz'
      have ez := Option.some.inj hz'
      rw [← ez]
      exact Bool.eq_false_iff.mpr (g2 m hm)
    · rw [if_neg c] at e2
      cases e2
  cases d with
  | lst l => exact key l rfl
  | _ => exact h1.elim
def tupRg : List D → Option D
  | [.int j] => if (decide (0 ≤ j) && decide (j < 100000)) = true then some (.tup ((List.range' 0 j.toNat).map fun (i : Nat) => D.int (0 + i))) else none
  | _ => none
theorem de_tupRg {a : Expr} {fa : M D} {p1 pos1 : Pos} (hc : X.calm = true) (hg : Gl X "tuple") (hm : X.mg "tuple" = none) (hg1 : Gl X "range") (hm1 : X.mg "range" = none) (ha : DE X Wx ms a fa)
    (na : starEach [a] X.env = (false, eval a X.env) :: starEach [] X.env := by rfl) (na2 : starEach [.Call (.Name "range" p1) [a] [] pos1] X.env = (false, eval (.Call (.Name "range" p1) [a] [] pos1) X.env) :: starEach [] X.env := by rfl) :
    DE X Wx ms (.Call (.Name "tuple" p) [.Call (.Name "range" p1) [a] [] pos1] [] pos) (opN tupRg (aCons fa aNil)) := fun B W env σ H Q o h => by
  refine PE.tm (pe_tupRg hc hg hm (prg_1 hg1 hm1 pe_tm na) na2) ?_
  have e0 : opN tupRg (aCons fa aNil) env = (fa env).bind fun d env1 => M.of (tupRg [d]) env1 := by
    unfold opN aCons aNil
    cases fa env <;> rfl
  rw [e0] at h
  refine ha _ _ _ _ _ _ o (Po.cont (k1 := rkD (tx X)) h fun d env1 W1 H1 v n1 o1 r1 h1 => ?_)
  · obtain ⟨z, e1, h3⟩ := of_pos h1
    cases d with
    | int j =>
      have e2 : (if (decide (0 ≤ j) && decide (j < 100000)) = true then some (D.tup ((List.range' 0 j.toNat).map fun (i : Nat) => D.int (0 + i))) else none) = some z := e1
      obtain ⟨e3, e5⟩ := ite_some e2
      subst e5
      obtain ⟨e3, e4⟩ := Bool.and_eq_true_iff.mp e3
      have hj := of_decide_eq_true e3
      have e4 := of_decide_eq_true e4
      obtain rfl : v = V.int j := r1
      have ev : rgV 0 j = (List.range' 0 j.toNat).map fun (i : Nat) => V.int (0 + i) := by
        unfold rgV
        rw [Int.sub_zero, List.range_eq_range']
      refine ⟨j, rfl, RgOk.of_le (Int.le_refl _) (by omega) (by omega) hj, fun q hq => ?_⟩
      rw [ev]
      exact h3.same o1 (Same.upd hq) ⟨q, _, rfl, .inl ⟨upd_same, fresh_bar o1.wf hq⟩, RelL.ext (Ext.same (Same.upd hq)) _ (rel_rg _ 0)⟩
    | _ => cases e1
end
end DL

set_option Elab.async false
set_option linter.all false
set_option maxRecDepth 100000
set_option maxHeartbeats 4000000
namespace KX
open PySem PySem.Spec PyProof.Rows L2 DL
def ocs : List Nat := [62, 100]
def is_Family : List (Nat × Bool) := [(62, false), (100, true)]
def is_Marks : List (Nat × Bool) := [(62, true), (100, true)]
def L__law_draws_5 : M Fl := sIf (tB1 (op2 gtI (vVar 4) (vC (.int 0)))) (sSeq (sExpr (vMeth 1 mAppend (aCons (op2 modD (op1 intD (vVar 4)) (vC (.int 30))) aNil))) (sSet 4 (op2 fdivD (vVar 4) (vC (.int 30))))) (sNx)
def L__law_draws_5_2 : M Fl := sSeq (sSet 2 (op2 modD (op1 intD (op2 addD (op2 addD (op2 addD (op2 mulI (vVar 2) (vVar 2)) (op2 mulI (vC (.int 5)) (vVar 5))) (vVar 3)) (vC (.int 1)))) (vC (.int 2147483587)))) (sExpr (vMeth 1 mAppend (aCons (op2 modD (op1 intD (op2 fdivD (vVar 2) (vC (.int 11)))) (vC (.int 27720))) aNil)))
def L__law_draws_3 : M Fl := sSeq (sSet 4 (op1 intD (op2 ixD (vVar 0) (vVar 3)))) (sSeq (sIf (tB1 (op2 ltD (vVar 4) (vC (.int 0)))) (sSet 4 (op2 subD (vC (.int 3)) (op2 mulI (vC (.int 2)) (vVar 4)))) (sNx)) (sIf (tB1 (op2 geI (vVar 4) (op2 powD (vC (.int 10)) (vC (.int 18))))) (sFor 5 (iRng rng1 (aCons (vC (.int 44)) (aNil))) (L__law_draws_5)) (sSeq (sSet 2 (op2 modD (op1 intD (op2 addD (op2 addD (op2 mulI (vVar 2) (vC (.int 31))) (op2 mulI (vVar 4) (vC (.int 7919)))) (vVar 3))) (vC (.int 2147483629)))) (sFor 5 (iRng rng1 (aCons (vC (.int 5)) (aNil))) (L__law_draws_5_2)))))
def b__law_draws : M Fl := sSeq (sSet 1 (opN mkL (aNil))) (sSeq (sSet 2 (vC (.int 911))) (sSeq (sFor 3 (iRng rng1 (aCons (opN min2D (aCons (op1 lenD (vVar 0)) (aCons (vC (.int 63)) (aNil)))) (aNil))) (L__law_draws_3)) (sSeq (sExpr (vMeth 1 mReverse aNil)) (sRet (vVarL 1)))))
def m__law_draws : List D → Rs := runF 6 none true b__law_draws
def b__law_take : M Fl := sSeq (sIf (bOr (tB1 (op2 ltD (vVar 1) (vC (.int 2)))) (tB1 (op2 eqD (op1 lenD (vVar 0)) (vC (.int 0))))) (sRet (vC (.int 0))) (sNx)) (sRet (op2 modD (op1 intD (vMeth 0 mPop aNil)) (vVar 1)))
def m__law_take : List D → Rs := runF 2 (some 0) false b__law_take
def b__law_shape : M Fl := sSeq (sSet 1 (opN mkL (aC [.tup [.int 3, .int 2], .tup [.int 4, .int 3], .tup [.int 5, .int 3], .tup [.int 4, .int 2], .tup [.int 5, .int 4], .tup [.int 4, .int 3], .tup [.int 5, .int 3], .tup [.int 3, .int 3]]))) (sSeq (sSet 1 (op2 catD (vVar 1) (opN mkL (aC [.tup [.int 6, .int 4], .tup [.int 5, .int 2], .tup [.int 4, .int 1], .tup [.int 6, .int 5], .tup [.int 2, .int 2], .tup [.int 4, .int 4], .tup [.int 5, .int 3], .tup [.int 6, .int 3]])))) (sRet (op2 ixD (vVar 1) (cCallIo 2 0 m__law_take (aCons (vC (.int 16)) (aNil))))))
def m__law_shape : List D → Rs := runF 2 (some 0) false b__law_shape
def L__law_lots_7 : M Fl := sExpr (vMeth 4 mAppend (aCons (op2 catD (vVar 5) (opN mkL (aCons (vVar 7) (aNil)))) aNil))
def L__law_lots_5 : M Fl := sSeq (sSet 6 (vC (.int 0))) (sSeq (sIf (tB1 (op2 gtI (op1 lenD (vVar 5)) (vC (.int 0)))) (sSet 6 (op2 addD (op2 ixD (vVar 5) (op2 subD (op1 lenD (vVar 5)) (vC (.int 1)))) (vC (.int 1)))) (sNx)) (sFor 7 (iRng rng2 (aCons (vVar 6) (aCons (vVar 0) (aNil)))) (L__law_lots_7)))
def L__law_lots_3 : M Fl := sSeq (sSet 4 (opN mkL (aNil))) (sSeq (sFor 5 (iSeq (vVar 2)) (L__law_lots_5)) (sSet 2 (op1 listD (vVar 4))))
def b__law_lots : M Fl := sSeq (sSet 2 (opN mkL (aCons (opN mkL (aNil)) (aNil)))) (sSeq (sFor 3 (iRng rng1 (aCons (vVar 1) (aNil))) (L__law_lots_3)) (sRet (lcM 5 (iSeq (vVar 2)) (bTrue) (op1 tupleD (vVar 5)))))
def m__law_lots : List D → Rs := runF 8 none false b__law_lots
def L__law_turns_2 : M Fl := sIf (tB1 (op2 neD (op2 ixD (vVar 0) (vVar 2)) (op2 ixD (vVar 0) (op2 subD (vVar 2) (vC (.int 1)))))) (sAug 1 (i2 fun a b => some (.int (a + b))) (vC (.int 1))) (sNx)
def b__law_turns : M Fl := sSeq (sSet 1 (vC (.int 0))) (sSeq (sFor 2 (iRng rng2 (aCons (vC (.int 1)) (aCons (op1 lenD (vVar 0)) (aNil)))) (L__law_turns_2)) (sRet (vVar 1)))
def m__law_turns : List D → Rs := runF 3 none false b__law_turns
def L__law_packet_2 : M Fl := sSeq (sSet 3 (op2 subD (op2 subD (op1 lenD (vVar 0)) (vC (.int 1))) (vVar 2))) (sExpr (vMeth 1 mAppend (aCons (op2 addD (op1 tupleD (vSl slD (vVar 0) (vPart none) (vPart (some (vVar 3))))) (op1 tupleD (vSl slD (vVar 0) (vPart (some (op2 addD (vVar 3) (vC (.int 1))))) (vPart none)))) aNil)))
def b__law_packet : M Fl := sSeq (sSet 1 (opN mkL (aNil))) (sSeq (sFor 2 (iRng rng1 (aCons (op1 lenD (vVar 0)) (aNil))) (L__law_packet_2)) (sRet (vVarL 1)))
def m__law_packet : List D → Rs := runF 4 none true b__law_packet
def L__law_may_3 : M Fl := sIf (tB1 (op2 notInD (vVar 3) (vVar 2))) (sSeq (sSet 4 (op1 tupleD (op1 sortD (op2 catD (op1 listD (vVar 2)) (opN mkL (aCons (vVar 3) (aNil))))))) (sSeq (sSet 6 (lcM 5 (iSeq (cCall 1 m__law_packet (aCons (vVar 4) (aNil)))) (bTrue) (op2 neD (op2 inD (vVar 5) (vVar 1)) (op2 eqD (vVar 5) (vVar 2))))) (sIf (tB1 (op2 gtI (cCall 1 m__law_turns (aCons (vVar 6) (aNil))) (vC (.int 1)))) (sRet (vC (.bl false))) (sNx)))) (sNx)
def b__law_may : M Fl := sSeq (sFor 3 (iRng rng1 (aCons (vVar 0) (aNil))) (L__law_may_3)) (sRet (vC (.bl true)))
def m__law_may : List D → Rs := runF 7 none false b__law_may
def L__law_climb_8 : M Fl := sSeq (sSet 9 (op2 ixD (vVar 3) (op2 modD (op1 intD (op2 addD (vVar 6) (vVar 8))) (op1 lenD (vVar 3))))) (sIf (bAnd (bNot (tTru (vVar 7))) (bAnd (tB1 (op2 notInD (vVar 9) (vVar 4))) (tB1 (cCallRo false 3 m__law_may (aCons (vVar 1) (aOwn 4 (aCons (vVar 9) (aNil)))))))) (sSeq (sExpr (vMeth 4 mAppend (aCons (vVar 9) aNil))) (sSet 7 (vC (.bl true)))) (sNx))
def L__law_climb_5 : M Fl := sSeq (sSet 6 (cCallIo 2 0 m__law_take (aCons (opN min2D (aCons (vC (.int 29)) (aCons (op1 lenD (vVar 3)) (aNil)))) (aNil)))) (sSeq (sSet 7 (vC (.bl false))) (sFor 8 (iRng rng1 (aCons (op1 lenD (vVar 3)) (aNil))) (L__law_climb_8)))
def b__law_climb : M Fl := sSeq (sSet 3 (cCall 2 m__law_lots (aCons (vVar 1) (aCons (vVar 2) (aNil))))) (sSeq (sSet 4 (opN mkL (aNil))) (sSeq (sFor 5 (iRng rng1 (aCons (cCallIo 2 0 m__law_take (aCons (opN min2D (aCons (vC (.int 13)) (aCons (op2 addD (op1 lenD (vVar 3)) (vC (.int 1))) (aNil)))) (aNil))) (aNil))) (L__law_climb_5)) (sRet (op1 sortD (vVar 4)))))
def m__law_climb : List D → Rs := runF 10 (some 0) true b__law_climb
def L__law_places_4 : M Fl := sSeq (sExpr (vMeth 2 mAppend (aCons (vVar 3) aNil))) (sSet 3 (op2 addD (op2 addD (vVar 3) (vC (.int 1))) (cCallIo 2 0 m__law_take (aCons (vC (.int 3)) (aNil)))))
def b__law_places : M Fl := sSeq (sSet 2 (opN mkL (aNil))) (sSeq (sSet 3 (op2 subD (cCallIo 2 0 m__law_take (aCons (vC (.int 5)) (aNil))) (vC (.int 2)))) (sSeq (sFor 4 (iRng rng1 (aCons (vVar 1) (aNil))) (L__law_places_4)) (sRet (vVarL 2))))
def m__law_places : List D → Rs := runF 5 (some 0) true b__law_places
def L__law_spread_4 : M Fl := sSet 2 (op2 mulI (vVar 2) (op2 subD (op2 ixD (vVar 1) (op2 ixD (vVar 0) (vVar 3))) (op2 ixD (vVar 1) (op2 ixD (vVar 0) (vVar 4)))))
def L__law_spread_3 : M Fl := sFor 4 (iRng rng1 (aCons (vVar 3) (aNil))) (L__law_spread_4)
def b__law_spread : M Fl := sSeq (sSet 2 (vC (.int 1))) (sSeq (sFor 3 (iRng rng1 (aCons (op1 lenD (vVar 0)) (aNil))) (L__law_spread_3)) (sRet (vVar 2)))
def m__law_spread : List D → Rs := runF 5 none false b__law_spread
def L__law_top_5 : M Fl := sSeq (sSet 6 (op2 subD (op2 subD (op1 lenD (vVar 0)) (vC (.int 1))) (vVar 5))) (sSeq (sSet 7 (op2 addD (op1 tupleD (vSl slD (vVar 0) (vPart none) (vPart (some (vVar 6))))) (op1 tupleD (vSl slD (vVar 0) (vPart (some (op2 addD (vVar 6) (vC (.int 1))))) (vPart none))))) (sSeq (sSet 3 (op2 addD (vVar 3) (op2 mulI (op2 mulI (vVar 4) (op2 ixD (vVar 2) (op2 ixD (vVar 0) (vVar 6)))) (cCall 2 m__law_spread (aCons (vVar 7) (aCons (vVar 1) (aNil))))))) (sSet 4 (op1 negD (vVar 4)))))
def b__law_top : M Fl := sSeq (sSet 3 (vC (.int 0))) (sSeq (sSet 4 (vC (.int 1))) (sSeq (sFor 5 (iRng rng1 (aCons (op1 lenD (vVar 0)) (aNil))) (L__law_top_5)) (sRet (vVar 3))))
def m__law_top : List D → Rs := runF 8 none false b__law_top
def b__law_below : M Fl := sRet (lcM 4 (iSeq (cCall 2 m__law_lots (aCons (vVar 0) (aCons (vVar 1) (aNil))))) (tB1 (op2 ltD (cCall 3 m__law_top (aCons (vVar 4) (aCons (vVar 2) (aCons (vVar 3) (aNil))))) (vC (.int 0)))) (vVar 4))
def m__law_below : List D → Rs := runF 5 none true b__law_below
def b__law_others : M Fl := sRet (lcM 3 (iSeq (cCall 2 m__law_lots (aCons (vVar 0) (aCons (vVar 1) (aNil))))) (tB1 (op2 notInD (vVar 3) (vVar 2))) (vVar 3))
def m__law_others : List D → Rs := runF 4 none true b__law_others
def b__law_levels : M Fl := sRet (lcM 2 (iRng rng1 (aCons (vVar 1) (aNil))) (bTrue) (op2 addD (op2 subD (op2 mulI (cCallIo 2 0 m__law_take (aCons (vC (.int 30)) (aNil))) (vC (.int 7))) (vC (.int 100))) (cCallIo 2 0 m__law_take (aCons (vC (.int 7)) (aNil)))))
def m__law_levels : List D → Rs := runF 3 (some 0) false b__law_levels
def b__law_family : M Fl := sSeq (sSet 3 (cCallIo 2 0 m__law_take (aCons (vC (.int 6)) (aNil)))) (sSeq (sIf (bAnd (tB1 (op2 geI (vVar 3) (vC (.int 4)))) (tB1 (op2 geI (vVar 2) (vC (.int 1))))) (sSeq (sSet 4 (cCallIo 2 0 m__law_places (aCons (vVar 1) (aNil)))) (sRet (cCall 4 m__law_below (aCons (vVar 1) (aCons (vVar 2) (aCons (vVar 4) (aCons (cCallIo 2 0 m__law_levels (aCons (vVar 1) (aNil))) (aNil)))))))) (sNx)) (sSeq (sSet 5 (cCallIo 3 0 m__law_climb (aCons (vVar 1) (aCons (vVar 2) (aNil))))) (sSeq (sIf (tB1 (op2 eqD (vVar 3) (vC (.int 3)))) (sRet (cCallRo true 3 m__law_others (aCons (vVar 1) (aCons (vVar 2) (aOwn 5 (aNil)))))) (sNx)) (sRet (vVarL 5)))))
def m__law_family : List D → Rs := runF 6 (some 0) true b__law_family
def L__law_marks_6 : M Fl := sIf (tB1 (op2 gtI (op1 lenD (vVar 5)) (vC (.int 0)))) (sSeq (sSet 3 (op2 ixD (vVar 5) (cCallIo 2 0 m__law_take (aCons (opN min2D (aCons (vC (.int 29)) (aCons (op1 lenD (vVar 5)) (aNil)))) (aNil))))) (sIf (tB1 (op2 inD (vVar 3) (vVar 4))) (sExpr (vMeth 4 mRemove (aCons (vVar 3) aNil))) (sExpr (vMeth 4 mAppend (aCons (vVar 3) aNil))))) (sNx)
def b__law_marks : M Fl := sSeq (sIf (tB1 (op2 eqD (cCallIo 2 0 m__law_take (aCons (vC (.int 3)) (aNil))) (vC (.int 2)))) (sRet (lcM 3 (iSeq (cCall 2 m__law_lots (aCons (vVar 1) (aCons (vVar 2) (aNil))))) (tB1 (op2 eqD (cCallIo 2 0 m__law_take (aCons (vC (.int 2)) (aNil))) (vC (.int 1)))) (vVar 3))) (sNx)) (sSeq (sSet 4 (cCallIo 3 0 m__law_family (aCons (vVar 1) (aCons (vVar 2) (aNil))))) (sSeq (sSet 5 (cCall 2 m__law_lots (aCons (vVar 1) (aCons (vVar 2) (aNil))))) (sSeq (sFor 6 (iRng rng1 (aCons (cCallIo 2 0 m__law_take (aCons (vC (.int 3)) (aNil))) (aNil))) (L__law_marks_6)) (sRet (op1 sortD (vVar 4))))))
def m__law_marks : List D → Rs := runF 7 (some 0) false b__law_marks
def L__law_keeps_3 : M Fl := sIf (tB1 (op2 gtI (cCall 1 m__law_turns (aCons (lcM 4 (iSeq (cCall 1 m__law_packet (aCons (vVar 3) (aNil)))) (bTrue) (op2 inD (vVar 4) (vVar 2))) (aNil))) (vC (.int 1)))) (sRet (vC (.bl false))) (sNx)
def b__law_keeps : M Fl := sSeq (sFor 3 (iSeq (cCall 2 m__law_lots (aCons (vVar 0) (aCons (op2 addD (vVar 1) (vC (.int 1))) (aNil))))) (L__law_keeps_3)) (sRet (vC (.bl true)))
def m__law_keeps : List D → Rs := runF 5 none false b__law_keeps
def b_is_int : M Fl := sRet (vAnd (op1 (isa1 .int) (vVar 0)) (op1 notD (op1 (isa1 .bool) (vVar 0))))
def m_is_int : List D → Rs := runF 1 none false b_is_int
def b_check_number : M Fl := sSeq (sIf (bNot (tB1 (cCall 1 m_is_int (aCons (vVar 1) (aNil))))) (sRaise 176 [50] (aCons (vVar 0) (aNil))) (sNx)) (sSeq (sIf (bAnd (tB1 (op2 notNone (vVar 2) (vC .non))) (tB1 (op2 ltD (vVar 1) (vVar 2)))) (sRaise 176 [50] (aCons (vVar 0) (aNil))) (sNx)) (sSeq (sIf (bAnd (tB1 (op2 notNone (vVar 3) (vC .non))) (tB1 (op2 gtI (vVar 1) (vVar 3)))) (sRaise 176 [50] (aCons (vVar 0) (aNil))) (sNx)) (sRet (vVar 1))))
def m_check_number : List D → Rs := runF 4 none false b_check_number
def b__check_shape : M Fl := sSeq (sExpr (cCall 4 m_check_number (aCons (vC (.str 53)) (aCons (vVar 0) (aCons (vC (.int 0)) (aCons (vC (.int 8)) (aNil))))))) (sExpr (cCall 4 m_check_number (aCons (vC (.str 83)) (aCons (vVar 1) (aCons (vC (.int 0)) (aCons (op2 addD (vVar 0) (vC (.int 1))) (aNil)))))))
def m__check_shape : List D → Rs := runF 2 none false b__check_shape
def L__first_wrong_2 : M Fl := sSeq (sSet 3 (op2 ixD (vVar 1) (vVar 2))) (sSeq (sIf (bOr (bNot (tB1 (cCall 1 m_is_int (aCons (vVar 3) (aNil))))) (bOr (tB1 (op2 ltD (vVar 3) (vC (.int 0)))) (tB1 (op2 geI (vVar 3) (vVar 0))))) (sRet (vVar 2)) (sNx)) (sIf (tB1 (op2 inD (vVar 3) (vSl slD (vVar 1) (vPart none) (vPart (some (vVar 2)))))) (sRet (vVar 2)) (sNx)))
def b__first_wrong : M Fl := sSeq (sIf (bNot (tB1 (op1 (isa2 .list .tuple) (vVar 1)))) (sRet (op1 negD (vC (.int 1)))) (sNx)) (sSeq (sFor 2 (iRng rng1 (aCons (op1 lenD (vVar 1)) (aNil))) (L__first_wrong_2)) (sRet (vC .non)))
def m__first_wrong : List D → Rs := runF 4 none false b__first_wrong
def b__check_things : M Fl := sSeq (sSet 3 (cCall 2 m__first_wrong (aCons (vVar 0) (aCons (vVar 2) (aNil))))) (sSeq (sIf (tB1 (op2 notNone (vVar 3) (vC .non))) (sRaise 96 [88] (aCons (vVar 3) (aNil))) (sNx)) (sSeq (sIf (tB1 (op2 neD (op1 lenD (vVar 2)) (vVar 1))) (sRaise 96 [88] (aCons (op1 negD (vC (.int 2))) (aNil))) (sNx)) (sRet (op1 tupleD (op1 sortD (vVar 2))))))
def m__check_things : List D → Rs := runF 4 none false b__check_things
def L_check_lots_4 : M Fl := sSeq (sTry (sSet 5 (cCall 3 m__check_things (aCons (vVar 0) (aCons (vVar 1) (aCons (op2 ixD (vVar 2) (vVar 4)) (aNil)))))) [⟨96, [96], [176, 132, 98, 99, 190], some 6, (fun _ => .stuck)⟩]) (sSeq (sIf (tB1 (op2 inD (vVar 5) (vVar 3))) (sRaise 132 [88] (aCons (vVar 4) (aNil))) (sNx)) (sExpr (vMeth 3 mAppend (aCons (vVar 5) aNil))))
def b_check_lots : M Fl := sSeq (sExpr (cCall 2 m__check_shape (aCons (vVar 0) (aCons (vVar 1) (aNil))))) (sSeq (sIf (bNot (tB1 (op1 (isa2 .list .tuple) (vVar 2)))) (sRaise 132 [88] (aCons (op1 negD (vC (.int 1))) (aNil))) (sNx)) (sSeq (sSet 3 (opN mkL (aNil))) (sSeq (sFor 4 (iRng rng1 (aCons (op1 lenD (vVar 2)) (aNil))) (L_check_lots_4)) (sRet (op1 tupleD (op1 sortD (vVar 3)))))))
def m_check_lots : List D → Rs := runF 7 none false b_check_lots
def b_Marks___init__ : M Fl := sSeq (sSet 4 (cCall 3 m_check_lots (aCons (vVar 1) (aCons (vVar 2) (aCons (vVar 3) (aNil)))))) (sSeq (sFld1 0 ocs 53 (vVar 1)) (sSeq (sFld1 0 ocs 83 (vVar 2)) (sFld1 0 ocs 122 (vVar 4))))
def m_Marks___init__ : List D → Rs := runF 5 (some 0) false b_Marks___init__
def b__law_edge : M Fl := sSeq (sSet 1 (opN mkL (aC [.tup [.int 0, .int 0], .tup [.int 0, .int 1], .tup [.int 1, .int 0], .tup [.int 1, .int 1], .tup [.int 1, .int 2], .tup [.int 2, .int 1], .tup [.int 2, .int 3], .tup [.int 3, .int 0], .tup [.int 3, .int 4], .tup [.int 4, .int 5], .tup [.int 2, .int 0], .tup [.int 3, .int 1]]))) (sRet (op2 ixD (vVar 1) (cCallIo 2 0 m__law_take (aCons (vC (.int 12)) (aNil)))))
def m__law_edge : List D → Rs := runF 2 (some 0) false b__law_edge
def L__lots_3 : M Fl := sSet 2 (lc2M 4 5 (iSeq (vVar 2)) (bTrue) (iRng rng2 (aCons (iff_ (tTru (vVar 4)) (op2 addD (op2 ixD (vVar 4) (op1 negD (vC (.int 1)))) (vC (.int 1))) (vC (.int 0))) (aCons (vVar 0) (aNil)))) (bTrue) (op2 addD (vVar 4) (opN mkT (aCons (vVar 5) (aNil)))))
def b__lots : M Fl := sSeq (sSet 2 (opN mkL (aCons (opN mkT (aNil)) (aNil)))) (sSeq (sFor 3 (iRng rng1 (aCons (vVar 1) (aNil))) (L__lots_3)) (sRet (op1 tupleD (vVar 2))))
def m__lots : List D → Rs := runF 6 none false b__lots
def b__packet : M Fl := sSeq (sSet 1 (op1 lenD (vVar 0))) (sRet (op1 tupleD (lcM 2 (iRng rng3 (aCons (op2 subD (vVar 1) (vC (.int 1))) (aCons (op1 negD (vC (.int 1))) (aCons (op1 negD (vC (.int 1))) (aNil))))) (bTrue) (op2 addD (vSl slD (vVar 0) (vPart none) (vPart (some (vVar 2)))) (vSl slD (vVar 0) (vPart (some (op2 addD (vVar 2) (vC (.int 1))))) (vPart none))))))
def m__packet : List D → Rs := runF 3 none false b__packet
def L__row_break_4 : M Fl := sIf (tB1 (op2 eqD (op2 ixD (vVar 1) (vVar 4)) (vVar 2))) (sRet (opN mkT (aCons (op2 ixD (vVar 0) (vC (.int 0))) (aCons (op2 ixD (vVar 0) (vVar 3)) (aCons (op2 ixD (vVar 0) (vVar 4)) (aNil)))))) (sNx)
def L__row_break_3 : M Fl := sIf (tB1 (op2 neD (op2 ixD (vVar 1) (vVar 3)) (vVar 2))) (sSeq (sFor 4 (iRng rng2 (aCons (op2 addD (vVar 3) (vC (.int 1))) (aCons (op1 lenD (vVar 0)) (aNil)))) (L__row_break_4)) (sRet (vC .non))) (sNx)
def b__row_break : M Fl := sSeq (sSet 2 (op2 ixD (vVar 1) (vC (.int 0)))) (sSeq (sFor 3 (iRng rng2 (aCons (vC (.int 1)) (aCons (op1 lenD (vVar 0)) (aNil)))) (L__row_break_3)) (sRet (vC .non)))
def m__row_break : List D → Rs := runF 5 none false b__row_break
def L__least_break_5 : M Fl := sSeq (sSet 6 (cCall 1 m__packet (aCons (vVar 5) (aNil)))) (sSeq (sSet 8 (cCall 2 m__row_break (aCons (vVar 6) (aCons (lcM 7 (iSeq (vVar 6)) (bTrue) (op2 inD (vVar 7) (vVar 3))) (aNil))))) (sIf (bAnd (tB1 (op2 notNone (vVar 8) (vC .non))) (bOr (tB1 (op2 isNone (vVar 4) (vC .non))) (tB1 (op2 ltD (vVar 8) (vVar 4))))) (sSet 4 (vVar 8)) (sNx)))
def b__least_break : M Fl := sSeq (sSet 3 (op1 setD (vVar 2))) (sSeq (sSet 4 (vC .non)) (sSeq (sFor 5 (iSeq (cCall 2 m__lots (aCons (vVar 0) (aCons (op2 addD (vVar 1) (vC (.int 1))) (aNil))))) (L__least_break_5)) (sRet (vVar 4))))
def m__least_break : List D → Rs := runF 9 none false b__least_break
def g_Family___init__ : M Fl := sSeq (sSet 5 (cCall 3 m__least_break (aCons (op1 (fldD ocs 53) (vVar 0)) (aCons (op1 (fldD ocs 83) (vVar 0)) (aCons (op1 (fldD ocs 122) (vVar 0)) (aNil)))))) (sIf (tB1 (op2 notNone (vVar 5) (vC .non))) (sRaise 99 [47] (aCons (vVar 5) (aNil))) (sNx))
def a_Family___init__ : M (List D) := aCons (vVar 1) (aCons (vVar 2) (aCons (vVar 3) (aNil)))
def b_Family___init__ : M Fl := sSeq (sExpr (vSup 100 4 m_Marks___init__ a_Family___init__)) g_Family___init__
def m_Family___init__ : List D → Rs := runF 6 (some 0) false b_Family___init__
def b__like : M Fl := sSeq (sIf (tB1 (op1 (isaOwn is_Family) (vVar 0))) (sRet (cMake 100 4 m_Family___init__ (aCons (vVar 1) (aCons (vVar 2) (aCons (vVar 3) (aNil)))))) (sNx)) (sRet (cMake 62 4 m_Marks___init__ (aCons (vVar 1) (aCons (vVar 2) (aCons (vVar 3) (aNil))))))
def m__like : List D → Rs := runF 4 none false b__like
def L__inside_5 : M Fl := sIf (tB1 (op2 eqD (op1 lenD (lcM 3 (iSeq (vVar 5)) (tB1 (vDIn 2 (vVar 3))) (vVar 3))) (op1 lenD (vVar 5)))) (sExpr (vMeth 4 mAppend (aCons (op1 tupleD (lcM 3 (iSeq (vVar 5)) (bTrue) (vDGet 2 (vVar 3)))) aNil))) (sNx)
def L__inside_3 : M Fl := sDPut_ 2 (vVar 3) (op1 lenDi (vVar 2))
def b__inside : M Fl := sSeq (sSet 2 (vC (.dic false [] []))) (sSeq (sFor 3 (iSeq (vVar 1)) (L__inside_3)) (sSeq (sSet 4 (opN mkL (aNil))) (sSeq (sFor 5 (iSeq (op1 (fldD ocs 122) (vVar 0))) (L__inside_5)) (sRet (vVarL 4)))))
def m__inside : List D → Rs := runF 6 none true b__inside
def b_left_out : M Fl := sSeq (sExpr (cCall 4 m_check_number (aCons (vC (.str 90)) (aCons (vVar 1) (aCons (vC (.int 0)) (aCons (op2 subD (op1 (fldD ocs 53) (vVar 0)) (vC (.int 1))) (aNil))))))) (sSeq (sIf (tB1 (op2 gtI (op1 (fldD ocs 83) (vVar 0)) (op1 (fldD ocs 53) (vVar 0)))) (sRaise 190 [53, 83] (aCons (op1 (fldD ocs 53) (vVar 0)) (aCons (op1 (fldD ocs 83) (vVar 0)) (aNil)))) (sNx)) (sSeq (sSet 3 (lcM 2 (iRng rng1 (aCons (op1 (fldD ocs 53) (vVar 0)) (aNil))) (tB1 (op2 neD (vVar 2) (vVar 1))) (vVar 2))) (sRet (cCall 4 m__like (aCons (vVar 0) (aCons (op2 subD (op1 (fldD ocs 53) (vVar 0)) (vC (.int 1))) (aCons (op1 (fldD ocs 83) (vVar 0)) (aCons (cCall 2 m__inside (aCons (vVar 0) (aCons (vVar 3) (aNil)))) (aNil)))))))))
def m_left_out : List D → Rs := runF 4 none false b_left_out
def b__law_left_told : M Fl := sSeq (sSet 2 (opN mkT (aCons (vC (.str 51)) (aCons (vC (.int 0)) (aNil))))) (sSeq (sTry (sSet 2 (opN mkT (aCons (vC (.str 44)) (aCons (cCall 2 m_left_out (aCons (vVar 0) (aCons (vVar 1) (aNil)))) (aNil))))) [⟨176, [176], [96, 132, 98, 99, 190], some 3, sSet 2 (opN mkT (aCons (vC (.str 123)) (aCons (vXf 3 [176] 50) (aNil))))⟩, ⟨190, [190], [176, 96, 132, 98, 99], some 3, sSet 2 (opN mkT (aCons (vC (.str 89)) (aCons (vXf 3 [190] 53) (aCons (vXf 3 [190] 83) (aNil)))))⟩]) (sRet (vVar 2)))
def m__law_left_told : List D → Rs := runF 4 none false b__law_left_told
def b_break_of : M Fl := sRet (cCall 3 m__least_break (aCons (op1 (fldD ocs 53) (vVar 0)) (aCons (op1 (fldD ocs 83) (vVar 0)) (aCons (op1 (fldD ocs 122) (vVar 0)) (aNil)))))
def m_break_of : List D → Rs := runF 1 none false b_break_of
def b_keeps : M Fl := sRet (op2 isNone (cCall 1 m_break_of (aCons (vVar 0) (aNil))) (vC .non))
def m_keeps : List D → Rs := runF 1 none false b_keeps
def b__law_is : M Fl := sSeq (sIf (bOr (bNot (tB1 (op1 (isaOwn is_Marks) (vVar 0)))) (tB1 (op2 neD (op1 (isaOwn is_Family) (vVar 0)) (op1 (isaOwn is_Family) (vVar 1))))) (sRet (vC (.bl false))) (sNx)) (sRet (vAnd (op2 eqD (op1 (fldD ocs 53) (vVar 0)) (vVar 2)) (vAnd (op2 eqD (op1 (fldD ocs 83) (vVar 0)) (vVar 3)) (op2 eqD (op1 (fldD ocs 122) (vVar 0)) (op1 tupleD (vVar 4))))))
def m__law_is : List D → Rs := runF 5 none false b__law_is
def b__law_left : M Fl := sSeq (sSet 3 (lcM 2 (iSeq (vVar 0)) (tB1 (op2 notInD (vVar 1) (vVar 2))) (vVar 2))) (sRet (op1 sortD (lcM 2 (iSeq (vVar 3)) (bTrue) (op1 tupleD (lcM 4 (iSeq (vVar 2)) (bTrue) (op2 subD (vVar 4) (op1 intD (op2 gtI (vVar 4) (vVar 1)))))))))
def m__law_left : List D → Rs := runF 5 none false b__law_left
def L__law_all_left_6 : M Fl := sSeq (sSet 7 (cCall 2 m__law_left_told (aCons (vVar 0) (aCons (vVar 6) (aNil))))) (sIf (tB1 (op2 gtI (vVar 4) (vVar 3))) (sIf (tB1 (op2 neD (vVar 7) (opN mkT (aCons (vC (.str 89)) (aCons (vVar 3) (aCons (vVar 4) (aNil))))))) (sRet (vC (.bl false))) (sNx)) (sSeq (sIf (bOr (tB1 (op2 neD (op2 ixD (vVar 7) (vC (.int 0))) (vC (.str 44)))) (bNot (tB1 (cCall 5 m__law_is (aCons (op2 ixD (vVar 7) (vC (.int 1))) (aCons (vVar 0) (aCons (op2 subD (vVar 3) (vC (.int 1))) (aCons (vVar 4) (aCons (cCall 2 m__law_left (aCons (vVar 1) (aCons (vVar 6) (aNil)))) (aNil)))))))))) (sRet (vC (.bl false))) (sNx)) (sSet 5 (vAnd (vVar 5) (cCall 1 m_keeps (aCons (op2 ixD (vVar 7) (vC (.int 1))) (aNil)))))))
def b__law_all_left : M Fl := sSeq (sSet 3 (op1 (fldD ocs 53) (vVar 0))) (sSeq (sSet 4 (op1 (fldD ocs 83) (vVar 0))) (sSeq (sSet 5 (vC (.bl true))) (sSeq (sFor 6 (iRng rng1 (aCons (vVar 3) (aNil))) (L__law_all_left_6)) (sSeq (sIf (tB1 (op2 gtI (vVar 4) (vVar 3))) (sRet (vC (.bl true))) (sNx)) (sSeq (sIf (bAnd (tB1 (op2 eqD (vVar 3) (op2 addD (vVar 4) (vC (.int 1))))) (bNot (tTru (vVar 5)))) (sRet (vC (.bl false))) (sNx)) (sSeq (sIf (bAnd (tB1 (op2 geI (vVar 3) (op2 addD (vVar 4) (vC (.int 2))))) (tB1 (op2 neD (vVar 5) (vVar 2)))) (sRet (vC (.bl false))) (sNx)) (sRet (vOr (vVar 5) (op1 notD (vVar 2))))))))))
def m__law_all_left : List D → Rs := runF 8 none false b__law_all_left
def b_check_set : M Fl := sSeq (sExpr (cCall 4 m_check_number (aCons (vC (.str 53)) (aCons (vVar 0) (aCons (vC (.int 0)) (aCons (vC (.int 8)) (aNil))))))) (sSeq (sSet 2 (cCall 2 m__first_wrong (aCons (vVar 0) (aCons (vVar 1) (aNil))))) (sSeq (sIf (tB1 (op2 notNone (vVar 2) (vC .non))) (sRaise 98 [88] (aCons (vVar 2) (aNil))) (sNx)) (sRet (op1 tupleD (op1 sortD (vVar 1))))))
def m_check_set : List D → Rs := runF 3 none false b_check_set
def b_restricted : M Fl := sSeq (sSet 2 (cCall 2 m_check_set (aCons (op1 (fldD ocs 53) (vVar 0)) (aCons (vVar 1) (aNil))))) (sSeq (sIf (tB1 (op2 ltD (op1 lenD (vVar 2)) (op2 subD (op1 (fldD ocs 83) (vVar 0)) (vC (.int 1))))) (sRaise 190 [53, 83] (aCons (op1 lenD (vVar 2)) (aCons (op1 (fldD ocs 83) (vVar 0)) (aNil)))) (sNx)) (sRet (cCall 4 m__like (aCons (vVar 0) (aCons (op1 lenD (vVar 2)) (aCons (op1 (fldD ocs 83) (vVar 0)) (aCons (cCall 2 m__inside (aCons (vVar 0) (aCons (vVar 2) (aNil)))) (aNil))))))))
def m_restricted : List D → Rs := runF 3 none false b_restricted
def b__law_kept_told : M Fl := sSeq (sSet 2 (opN mkT (aCons (vC (.str 51)) (aCons (vC (.int 0)) (aNil))))) (sSeq (sTry (sSet 2 (opN mkT (aCons (vC (.str 44)) (aCons (cCall 2 m_restricted (aCons (vVar 0) (aCons (vVar 1) (aNil)))) (aNil))))) [⟨98, [98], [176, 96, 132, 99, 190], some 3, sSet 2 (opN mkT (aCons (vC (.str 27)) (aCons (vXf 3 [98] 88) (aNil))))⟩, ⟨190, [190], [176, 96, 132, 98, 99], some 3, sSet 2 (opN mkT (aCons (vC (.str 89)) (aCons (vXf 3 [190] 53) (aCons (vXf 3 [190] 83) (aNil)))))⟩]) (sRet (vVar 2)))
def m__law_kept_told : List D → Rs := runF 4 none false b__law_kept_told
def b_Marks___eq__ : M Fl := sRet (vAnd (op1 (isaOwn is_Marks) (vVar 1)) (vAnd (op2 eqD (op1 (fldD ocs 53) (vVar 0)) (op1 (fldD ocs 53) (vVar 1))) (vAnd (op2 eqD (op1 (fldD ocs 83) (vVar 0)) (op1 (fldD ocs 83) (vVar 1))) (op2 eqD (op1 (fldD ocs 122) (vVar 0)) (op1 (fldD ocs 122) (vVar 1))))))
def m_Marks___eq__ : List D → Rs := runF 2 none false b_Marks___eq__
def t_eq : OT := [(62, [62], m_Marks___eq__), (100, [62, 100], m_Marks___eq__)]
def b_packet_marks : M Fl := sSeq (sSet 2 (cCall 2 m_check_set (aCons (op1 (fldD ocs 53) (vVar 0)) (aCons (vVar 1) (aNil))))) (sSeq (sIf (tB1 (op2 neD (op1 lenD (vVar 2)) (op2 addD (op1 (fldD ocs 83) (vVar 0)) (vC (.int 1))))) (sRaise 98 [88] (aCons (op1 negD (vC (.int 2))) (aNil))) (sNx)) (sRet (op1 tupleD (lcM 3 (iSeq (cCall 1 m__packet (aCons (vVar 2) (aNil)))) (bTrue) (iff_ (tB1 (op2 inD (vVar 3) (op1 (fldD ocs 122) (vVar 0)))) (vC (.int 1)) (vC (.int 0)))))))
def m_packet_marks : List D → Rs := runF 4 none false b_packet_marks
def b__law_inside : M Fl := sSeq (sSet 4 (lcM 2 (iSeq (vVar 0)) (tB1 (op2 eqD (op1 lenD (lcM 3 (iSeq (vVar 2)) (tB1 (op2 inD (vVar 3) (vVar 1))) (vVar 3))) (op1 lenD (vVar 2)))) (vVar 2))) (sRet (op1 sortD (lcM 2 (iSeq (vVar 4)) (bTrue) (op1 tupleD (lcM 3 (iSeq (vVar 2)) (bTrue) (vIndex (vVar 1) (vVar 3)))))))
def m__law_inside : List D → Rs := runF 5 none false b__law_inside
def L__law_share_6 : M Fl := sIf (tB1 (op2 neD (cCall 2 m_packet_marks (aCons (op2 ixD (vVar 5) (vC (.int 1))) (aCons (vVar 6) (aNil)))) (cCall 2 m_packet_marks (aCons (vVar 0) (aCons (lcM 7 (iSeq (vVar 6)) (bTrue) (op2 ixD (vVar 2) (vVar 7))) (aNil)))))) (sRet (vC (.bl false))) (sNx)
def b__law_share : M Fl := sSeq (sSet 3 (op1 (fldD ocs 53) (vVar 0))) (sSeq (sSet 4 (op1 (fldD ocs 83) (vVar 0))) (sSeq (sSet 5 (cCall 2 m__law_kept_told (aCons (vVar 0) (aCons (op1 revD (op1 listD (vVar 2))) (aNil))))) (sSeq (sIf (tB1 (op2 ltD (op1 lenD (vVar 2)) (op2 subD (vVar 4) (vC (.int 1))))) (sRet (op2 eqD (vVar 5) (opN mkT (aCons (vC (.str 89)) (aCons (op1 lenD (vVar 2)) (aCons (vVar 4) (aNil))))))) (sNx)) (sSeq (sIf (bOr (tB1 (op2 neD (op2 ixD (vVar 5) (vC (.int 0))) (vC (.str 44)))) (bNot (tB1 (cCall 5 m__law_is (aCons (op2 ixD (vVar 5) (vC (.int 1))) (aCons (vVar 0) (aCons (op1 lenD (vVar 2)) (aCons (vVar 4) (aCons (cCall 2 m__law_inside (aCons (vVar 1) (aCons (op1 listD (vVar 2)) (aNil)))) (aNil)))))))))) (sRet (vC (.bl false))) (sNx)) (sSeq (sFor 6 (iSeq (cCall 2 m__law_lots (aCons (op1 lenD (vVar 2)) (aCons (op2 addD (vVar 4) (vC (.int 1))) (aNil))))) (L__law_share_6)) (sRet (vAnd (op2 (oEq t_eq) (op2 ixD (cCall 2 m__law_kept_told (aCons (vVar 0) (aCons (opN lstRg (aCons (vVar 3) aNil)) (aNil)))) (vC (.int 1))) (vVar 0)) (op2 eqD (cCall 2 m__law_kept_told (aCons (vVar 0) (aCons (opN mkL (aCons (vVar 3) (aNil))) (aNil)))) (opN mkT (aCons (vC (.str 27)) (aCons (vC (.int 0)) (aNil))))))))))))
def m__law_share : List D → Rs := runF 8 none false b__law_share
def b__law_drawn_set : M Fl := sRet (op1 tupleD (lcM 2 (iRng rng1 (aCons (vVar 1) (aNil))) (tB1 (op2 eqD (cCallIo 2 0 m__law_take (aCons (vC (.int 2)) (aNil))) (vC (.int 1)))) (vVar 2)))
def m__law_drawn_set : List D → Rs := runF 3 (some 0) false b__law_drawn_set
def b__others : M Fl := sSeq (sSet 3 (op1 setD (vVar 2))) (sRet (op1 tupleD (lcM 4 (iSeq (cCall 2 m__lots (aCons (vVar 0) (aCons (vVar 1) (aNil))))) (tB1 (op2 notInD (vVar 4) (vVar 3))) (vVar 4))))
def m__others : List D → Rs := runF 5 none false b__others
def b_Marks_unmarked : M Fl := sRet (cCall 3 m__others (aCons (op1 (fldD ocs 53) (vVar 0)) (aCons (op1 (fldD ocs 83) (vVar 0)) (aCons (op1 (fldD ocs 122) (vVar 0)) (aNil)))))
def m_Marks_unmarked : List D → Rs := runF 1 none false b_Marks_unmarked
def mt_unmarked : MT := [(62, m_Marks_unmarked), (100, m_Marks_unmarked)]
def b_Marks_contrary : M Fl := sRet (cMake 62 4 m_Marks___init__ (aCons (op1 (fldD ocs 53) (vVar 0)) (aCons (op1 (fldD ocs 83) (vVar 0)) (aCons (cMeth 1 173 mt_unmarked (vVar 0) aNil) (aNil)))))
def m_Marks_contrary : List D → Rs := runF 1 none false b_Marks_contrary
def b_Family_contrary : M Fl := sRet (cMake 100 4 m_Family___init__ (aCons (op1 (fldD ocs 53) (vVar 0)) (aCons (op1 (fldD ocs 83) (vVar 0)) (aCons (cMeth 1 173 mt_unmarked (vVar 0) aNil) (aNil)))))
def m_Family_contrary : List D → Rs := runF 1 none false b_Family_contrary
def mt_contrary : MT := [(62, m_Marks_contrary), (100, m_Family_contrary)]
def L_law_8 : M Fl := sIf (tB1 (op2 neD (cCall 2 m__law_left_told (aCons (vVar 7) (aCons (vVar 8) (aNil)))) (opN mkT (aCons (vC (.str 123)) (aCons (vC (.str 90)) (aNil)))))) (sRet (vC (.bl false))) (sNx)
def b_law : M Fl := sSeq (sSet 1 (cCall 1 m__law_draws (aCons (vVar 0) (aNil)))) (sSeq (sSet 2 (cCallIo 1 1 m__law_shape (aNil))) (sSeq (sIf (tB1 (op2 eqD (cCallIo 2 1 m__law_take (aCons (vC (.int 4)) (aNil))) (vC (.int 3)))) (sSet 2 (cCallIo 1 1 m__law_edge (aNil))) (sNx)) (sSeq (sSet 3 (op2 ixD (vVar 2) (vC (.int 0)))) (sSeq (sSet 4 (op2 ixD (vVar 2) (vC (.int 1)))) (sSeq (sSet 5 (cCallIo 3 1 m__law_marks (aCons (vVar 3) (aCons (vVar 4) (aNil))))) (sSeq (sSet 6 (cCall 3 m__law_keeps (aCons (vVar 3) (aCons (vVar 4) (aCons (vVar 5) (aNil)))))) (sSeq (sSet 7 (cMake 62 4 m_Marks___init__ (aCons (vVar 3) (aCons (vVar 4) (aCons (op1 listD (vVar 5)) (aNil)))))) (sSeq (sIf (bAnd (tTru (vVar 6)) (tB1 (op2 eqD (cCallIo 2 1 m__law_take (aCons (vC (.int 2)) (aNil))) (vC (.int 1))))) (sSet 7 (cMake 100 4 m_Family___init__ (aCons (vVar 3) (aCons (vVar 4) (aCons (op1 listD (vVar 5)) (aNil)))))) (sNx)) (sSeq (sIf (bNot (tB1 (cCall 3 m__law_all_left (aCons (vVar 7) (aCons (vVar 5) (aCons (vVar 6) (aNil))))))) (sRet (vC (.bl false))) (sNx)) (sSeq (sIf (bNot (tB1 (cCall 3 m__law_share (aCons (vVar 7) (aCons (vVar 5) (aCons (cCallIo 2 1 m__law_drawn_set (aCons (vVar 3) (aNil))) (aNil))))))) (sRet (vC (.bl false))) (sNx)) (sSeq (sIf (bNot (tB1 (cCall 3 m__law_share (aCons (vVar 7) (aCons (vVar 5) (aCons (opN tupRg (aCons (opN min2D (aCons (vVar 3) (aCons (op2 addD (vVar 4) (vC (.int 1))) (aNil)))) aNil)) (aNil))))))) (sRet (vC (.bl false))) (sNx)) (sSeq (sFor 8 (iSeq (opN mkL (aCons (vVar 3) (aCons (op1 negD (vC (.int 1))) (aCons (vC (.bl true)) (aCons (vC .non) (aNil))))))) (L_law_8)) (sSeq (sIf (tB1 (op2 neD (cCall 2 m__law_kept_told (aCons (vVar 7) (aCons (vC (.int 3)) (aNil)))) (opN mkT (aCons (vC (.str 27)) (aCons (op1 negD (vC (.int 1))) (aNil)))))) (sRet (vC (.bl false))) (sNx)) (sSeq (sSet 9 (cCall 3 m__law_others (aCons (vVar 3) (aCons (vVar 4) (aCons (vVar 5) (aNil)))))) (sRet (vAnd (cCall 5 m__law_is (aCons (cMeth 1 167 mt_contrary (vVar 7) aNil) (aCons (vVar 7) (aCons (vVar 3) (aCons (vVar 4) (aCons (vVar 9) (aNil))))))) (op2 eqD (op1 (fldD ocs 122) (vVar 7)) (op1 tupleD (vVar 5)))))))))))))))))))
def m_law : List D → Rs := runF 10 none false b_law
end KX

set_option Elab.async false
set_option linter.all false
set_option maxRecDepth 100000
set_option maxHeartbeats 4000000
namespace KX
open PySem PySem.Spec PyProof.Rows L2 DL
def top (i : Nat) : Stmt := PySem.Challenge.pw_packetmarks_k03_things_left_out.main.body.getD i (.Pass ⟨0, 0, 0, 0⟩)
abbrev s__law_draws : Stmt := top 41
def d__law_draws : Df := ⟨pGl "_law_draws", "_law_draws", "_law_draws", defArgs s__law_draws, defBody s__law_draws, defScope s__law_draws, [], fun _ => []⟩
abbrev n__law_draws : List PySem.Str := ["_law_script", "_law_drawn", "_law_seed", "_law_at", "_law_cell", "_law_turn"]
theorem n_nd__law_draws : (n__law_draws).Nodup := by decide +kernel
abbrev s__law_take : Stmt := top 42
def d__law_take : Df := ⟨pGl "_law_take", "_law_take", "_law_take", defArgs s__law_take, defBody s__law_take, defScope s__law_take, [], fun _ => []⟩
abbrev n__law_take : List PySem.Str := ["_law_draws_here", "_law_many"]
theorem n_nd__law_take : (n__law_take).Nodup := by decide +kernel
abbrev s__law_shape : Stmt := top 43
def d__law_shape : Df := ⟨pGl "_law_shape", "_law_shape", "_law_shape", defArgs s__law_shape, defBody s__law_shape, defScope s__law_shape, [], fun _ => []⟩
abbrev n__law_shape : List PySem.Str := ["_law_draws_here", "_law_shapes"]
theorem n_nd__law_shape : (n__law_shape).Nodup := by decide +kernel
abbrev s__law_lots : Stmt := top 45
def d__law_lots : Df := ⟨pGl "_law_lots", "_law_lots", "_law_lots", defArgs s__law_lots, defBody s__law_lots, defScope s__law_lots, [], fun _ => []⟩
abbrev n__law_lots : List PySem.Str := ["_law_size", "_law_level", "_law_rows", "_law_k", "_law_longer", "_law_lot", "_law_start", "_law_thing"]
theorem n_nd__law_lots : (n__law_lots).Nodup := by decide +kernel
abbrev s__law_turns : Stmt := top 47
def d__law_turns : Df := ⟨pGl "_law_turns", "_law_turns", "_law_turns", defArgs s__law_turns, defBody s__law_turns, defScope s__law_turns, [], fun _ => []⟩
abbrev n__law_turns : List PySem.Str := ["_law_row", "_law_turns_here", "_law_k"]
theorem n_nd__law_turns : (n__law_turns).Nodup := by decide +kernel
abbrev s__law_packet : Stmt := top 46
def d__law_packet : Df := ⟨pGl "_law_packet", "_law_packet", "_law_packet", defArgs s__law_packet, defBody s__law_packet, defScope s__law_packet, [], fun _ => []⟩
abbrev n__law_packet : List PySem.Str := ["_law_things", "_law_row", "_law_k", "_law_at"]
theorem n_nd__law_packet : (n__law_packet).Nodup := by decide +kernel
abbrev s__law_may : Stmt := top 49
def d__law_may : Df := ⟨pGl "_law_may", "_law_may", "_law_may", defArgs s__law_may, defBody s__law_may, defScope s__law_may, [], fun _ => []⟩
abbrev n__law_may : List PySem.Str := ["_law_size", "_law_marked", "_law_lot", "_law_thing", "_law_things", "_law_one", "_law_row"]
theorem n_nd__law_may : (n__law_may).Nodup := by decide +kernel
abbrev s__law_climb : Stmt := top 50
def d__law_climb : Df := ⟨pGl "_law_climb", "_law_climb", "_law_climb", defArgs s__law_climb, defBody s__law_climb, defScope s__law_climb, [], fun _ => []⟩
abbrev n__law_climb : List PySem.Str := ["_law_draws_here", "_law_size", "_law_level", "_law_lots_here", "_law_marked", "_law_k", "_law_start", "_law_done", "_law_step", "_law_lot"]
theorem n_nd__law_climb : (n__law_climb).Nodup := by decide +kernel
abbrev s__law_places : Stmt := top 53
def d__law_places : Df := ⟨pGl "_law_places", "_law_places", "_law_places", defArgs s__law_places, defBody s__law_places, defScope s__law_places, [], fun _ => []⟩
abbrev n__law_places : List PySem.Str := ["_law_draws_here", "_law_size", "_law_places_here", "_law_at", "_law_k"]
theorem n_nd__law_places : (n__law_places).Nodup := by decide +kernel
abbrev s__law_spread : Stmt := top 51
def d__law_spread : Df := ⟨pGl "_law_spread", "_law_spread", "_law_spread", defArgs s__law_spread, defBody s__law_spread, defScope s__law_spread, [], fun _ => []⟩
abbrev n__law_spread : List PySem.Str := ["_law_things", "_law_places_here", "_law_whole", "_law_k", "_law_j"]
theorem n_nd__law_spread : (n__law_spread).Nodup := by decide +kernel
abbrev s__law_top : Stmt := top 52
def d__law_top : Df := ⟨pGl "_law_top", "_law_top", "_law_top", defArgs s__law_top, defBody s__law_top, defScope s__law_top, [], fun _ => []⟩
abbrev n__law_top : List PySem.Str := ["_law_lot", "_law_places_here", "_law_levels_here", "_law_whole", "_law_sign", "_law_k", "_law_at", "_law_rest"]
theorem n_nd__law_top : (n__law_top).Nodup := by decide +kernel
abbrev s__law_below : Stmt := top 55
def d__law_below : Df := ⟨pGl "_law_below", "_law_below", "_law_below", defArgs s__law_below, defBody s__law_below, defScope s__law_below, [], fun _ => []⟩
abbrev n__law_below : List PySem.Str := ["_law_size", "_law_level", "_law_places_here", "_law_levels_here", "_law_lot"]
theorem n_nd__law_below : (n__law_below).Nodup := by decide +kernel
abbrev s__law_others : Stmt := top 56
def d__law_others : Df := ⟨pGl "_law_others", "_law_others", "_law_others", defArgs s__law_others, defBody s__law_others, defScope s__law_others, [], fun _ => []⟩
abbrev n__law_others : List PySem.Str := ["_law_size", "_law_level", "_law_marked", "_law_lot"]
theorem n_nd__law_others : (n__law_others).Nodup := by decide +kernel
abbrev s__law_levels : Stmt := top 54
def d__law_levels : Df := ⟨pGl "_law_levels", "_law_levels", "_law_levels", defArgs s__law_levels, defBody s__law_levels, defScope s__law_levels, [], fun _ => []⟩
abbrev n__law_levels : List PySem.Str := ["_law_draws_here", "_law_size", "_law_k"]
theorem n_nd__law_levels : (n__law_levels).Nodup := by decide +kernel
abbrev s__law_family : Stmt := top 57
def d__law_family : Df := ⟨pGl "_law_family", "_law_family", "_law_family", defArgs s__law_family, defBody s__law_family, defScope s__law_family, [], fun _ => []⟩
abbrev n__law_family : List PySem.Str := ["_law_draws_here", "_law_size", "_law_level", "_law_word", "_law_places_here", "_law_marked"]
theorem n_nd__law_family : (n__law_family).Nodup := by decide +kernel
abbrev s__law_marks : Stmt := top 58
def d__law_marks : Df := ⟨pGl "_law_marks", "_law_marks", "_law_marks", defArgs s__law_marks, defBody s__law_marks, defScope s__law_marks, [], fun _ => []⟩
abbrev n__law_marks : List PySem.Str := ["_law_draws_here", "_law_size", "_law_level", "_law_lot", "_law_marked", "_law_lots_here", "_law_k"]
theorem n_nd__law_marks : (n__law_marks).Nodup := by decide +kernel
abbrev s__law_keeps : Stmt := top 48
def d__law_keeps : Df := ⟨pGl "_law_keeps", "_law_keeps", "_law_keeps", defArgs s__law_keeps, defBody s__law_keeps, defScope s__law_keeps, [], fun _ => []⟩
abbrev n__law_keeps : List PySem.Str := ["_law_size", "_law_level", "_law_marked", "_law_things", "_law_lot"]
theorem n_nd__law_keeps : (n__law_keeps).Nodup := by decide +kernel
abbrev s_BadNumber___init__ : Stmt := inClass (top 4) 0
def d_BadNumber___init__ : Df := ⟨pMe "BadNumber" "__init__", "__init__", "BadNumber.__init__", defArgs s_BadNumber___init__, defBody s_BadNumber___init__, defScope s_BadNumber___init__, [], fun _ => []⟩
abbrev s_is_int : Stmt := top 12
def d_is_int : Df := ⟨pGl "is_int", "is_int", "is_int", defArgs s_is_int, defBody s_is_int, defScope s_is_int, [], fun _ => []⟩
abbrev n_is_int : List PySem.Str := ["value"]
theorem n_nd_is_int : (n_is_int).Nodup := by decide +kernel
abbrev s_check_number : Stmt := top 13
def d_check_number : Df := ⟨pGl "check_number", "check_number", "check_number", defArgs s_check_number, defBody s_check_number, defScope s_check_number, [], fun _ => []⟩
abbrev n_check_number : List PySem.Str := ["name", "value", "least", "most"]
theorem n_nd_check_number : (n_check_number).Nodup := by decide +kernel
abbrev s__check_shape : Stmt := top 15
def d__check_shape : Df := ⟨pGl "_check_shape", "_check_shape", "_check_shape", defArgs s__check_shape, defBody s__check_shape, defScope s__check_shape, [], fun _ => []⟩
abbrev n__check_shape : List PySem.Str := ["size", "level"]
theorem n_nd__check_shape : (n__check_shape).Nodup := by decide +kernel
abbrev s_BadLots___init__ : Stmt := inClass (top 7) 0
def d_BadLots___init__ : Df := ⟨pMe "BadLots" "__init__", "__init__", "BadLots.__init__", defArgs s_BadLots___init__, defBody s_BadLots___init__, defScope s_BadLots___init__, [], fun _ => []⟩
abbrev s__first_wrong : Stmt := top 17
def d__first_wrong : Df := ⟨pGl "_first_wrong", "_first_wrong", "_first_wrong", defArgs s__first_wrong, defBody s__first_wrong, defScope s__first_wrong, [], fun _ => []⟩
abbrev n__first_wrong : List PySem.Str := ["size", "things", "place", "thing"]
theorem n_nd__first_wrong : (n__first_wrong).Nodup := by decide +kernel
abbrev s_BadLot___init__ : Stmt := inClass (top 6) 0
def d_BadLot___init__ : Df := ⟨pMe "BadLot" "__init__", "__init__", "BadLot.__init__", defArgs s_BadLot___init__, defBody s_BadLot___init__, defScope s_BadLot___init__, [], fun _ => []⟩
abbrev s__check_things : Stmt := top 19
def d__check_things : Df := ⟨pGl "_check_things", "_check_things", "_check_things", defArgs s__check_things, defBody s__check_things, defScope s__check_things, [], fun _ => []⟩
abbrev n__check_things : List PySem.Str := ["size", "level", "things", "wrong"]
theorem n_nd__check_things : (n__check_things).Nodup := by decide +kernel
abbrev s_check_lots : Stmt := top 21
def d_check_lots : Df := ⟨pGl "check_lots", "check_lots", "check_lots", defArgs s_check_lots, defBody s_check_lots, defScope s_check_lots, [], fun _ => []⟩
abbrev n_check_lots : List PySem.Str := ["size", "level", "lots", "found", "place", "lot", "e"]
theorem n_nd_check_lots : (n_check_lots).Nodup := by decide +kernel
abbrev s_Marks___init__ : Stmt := inClass (top 29) 1
def d_Marks___init__ : Df := ⟨pMe "Marks" "__init__", "__init__", "Marks.__init__", defArgs s_Marks___init__, defBody s_Marks___init__, defScope s_Marks___init__, [.adr (He.dflAt ("Marks", some "__init__") 0)], fun _ => []⟩
abbrev n_Marks___init__ : List PySem.Str := ["self", "size", "level", "marked", "found"]
theorem n_nd_Marks___init__ : (n_Marks___init__).Nodup := by decide +kernel
abbrev s__law_edge : Stmt := top 44
def d__law_edge : Df := ⟨pGl "_law_edge", "_law_edge", "_law_edge", defArgs s__law_edge, defBody s__law_edge, defScope s__law_edge, [], fun _ => []⟩
abbrev n__law_edge : List PySem.Str := ["_law_draws_here", "_law_shapes"]
theorem n_nd__law_edge : (n__law_edge).Nodup := by decide +kernel
abbrev s__lots : Stmt := top 22
def d__lots : Df := ⟨pGl "_lots", "_lots", "_lots", defArgs s__lots, defBody s__lots, defScope s__lots, [], fun _ => []⟩
abbrev n__lots : List PySem.Str := ["size", "level", "rows", "_", "row", "thing"]
theorem n_nd__lots : (n__lots).Nodup := by decide +kernel
abbrev s__packet : Stmt := top 23
def d__packet : Df := ⟨pGl "_packet", "_packet", "_packet", defArgs s__packet, defBody s__packet, defScope s__packet, [], fun _ => []⟩
abbrev n__packet : List PySem.Str := ["things", "many", "at"]
theorem n_nd__packet : (n__packet).Nodup := by decide +kernel
abbrev s__row_break : Stmt := top 25
def d__row_break : Df := ⟨pGl "_row_break", "_row_break", "_row_break", defArgs s__row_break, defBody s__row_break, defScope s__row_break, [], fun _ => []⟩
abbrev n__row_break : List PySem.Str := ["row", "held", "first", "second", "third"]
theorem n_nd__row_break : (n__row_break).Nodup := by decide +kernel
abbrev s__least_break : Stmt := top 26
def d__least_break : Df := ⟨pGl "_least_break", "_least_break", "_least_break", defArgs s__least_break, defBody s__least_break, defScope s__least_break, [], fun _ => []⟩
abbrev n__least_break : List PySem.Str := ["size", "level", "marked", "known", "least", "things", "row", "lot", "found"]
theorem n_nd__least_break : (n__least_break).Nodup := by decide +kernel
abbrev s_Broken___init__ : Stmt := inClass (top 9) 0
def d_Broken___init__ : Df := ⟨pMe "Broken" "__init__", "__init__", "Broken.__init__", defArgs s_Broken___init__, defBody s_Broken___init__, defScope s_Broken___init__, [], fun _ => []⟩
abbrev s_Family___init__ : Stmt := inClass (top 30) 1
def d_Family___init__ : Df := ⟨pMe "Family" "__init__", "__init__", "Family.__init__", defArgs s_Family___init__, defBody s_Family___init__, defScope s_Family___init__, [.adr (He.dflAt ("Family", some "__init__") 0)], fun K => [(("__class__" : PySem.Str), ccAt (pMe "Family" "__init__") K)]⟩
abbrev n_Family___init__ : List PySem.Str := ["self", "size", "level", "marked", "__class__", "broken"]
theorem n_nd_Family___init__ : (n_Family___init__).Nodup := by decide +kernel
abbrev s_OtherShape___init__ : Stmt := inClass (top 8) 0
def d_OtherShape___init__ : Df := ⟨pMe "OtherShape" "__init__", "__init__", "OtherShape.__init__", defArgs s_OtherShape___init__, defBody s_OtherShape___init__, defScope s_OtherShape___init__, [], fun _ => []⟩
abbrev s__like : Stmt := top 32
def d__like : Df := ⟨pGl "_like", "_like", "_like", defArgs s__like, defBody s__like, defScope s__like, [], fun _ => []⟩
abbrev n__like : List PySem.Str := ["marks", "size", "level", "lots"]
theorem n_nd__like : (n__like).Nodup := by decide +kernel
abbrev s__inside : Stmt := top 33
def d__inside : Df := ⟨pGl "_inside", "_inside", "_inside", defArgs s__inside, defBody s__inside, defScope s__inside, [], fun _ => []⟩
abbrev n__inside : List PySem.Str := ["marks", "things", "place", "thing", "found", "lot"]
theorem n_nd__inside : (n__inside).Nodup := by decide +kernel
abbrev s_left_out : Stmt := top 34
def d_left_out : Df := ⟨pGl "left_out", "left_out", "left_out", defArgs s_left_out, defBody s_left_out, defScope s_left_out, [], fun _ => []⟩
abbrev n_left_out : List PySem.Str := ["marks", "thing", "one", "others"]
theorem n_nd_left_out : (n_left_out).Nodup := by decide +kernel
abbrev s__law_left_told : Stmt := top 61
def d__law_left_told : Df := ⟨pGl "_law_left_told", "_law_left_told", "_law_left_told", defArgs s__law_left_told, defBody s__law_left_told, defScope s__law_left_told, [], fun _ => []⟩
abbrev n__law_left_told : List PySem.Str := ["_law_made", "_law_thing", "_law_told", "e"]
theorem n_nd__law_left_told : (n__law_left_told).Nodup := by decide +kernel
abbrev s_break_of : Stmt := top 38
def d_break_of : Df := ⟨pGl "break_of", "break_of", "break_of", defArgs s_break_of, defBody s_break_of, defScope s_break_of, [], fun _ => []⟩
abbrev n_break_of : List PySem.Str := ["marks"]
theorem n_nd_break_of : (n_break_of).Nodup := by decide +kernel
abbrev s_keeps : Stmt := top 39
def d_keeps : Df := ⟨pGl "keeps", "keeps", "keeps", defArgs s_keeps, defBody s_keeps, defScope s_keeps, [], fun _ => []⟩
abbrev n_keeps : List PySem.Str := ["marks"]
theorem n_nd_keeps : (n_keeps).Nodup := by decide +kernel
abbrev s__law_is : Stmt := top 63
def d__law_is : Df := ⟨pGl "_law_is", "_law_is", "_law_is", defArgs s__law_is, defBody s__law_is, defScope s__law_is, [], fun _ => []⟩
abbrev n__law_is : List PySem.Str := ["_law_got", "_law_made", "_law_size", "_law_level", "_law_marked"]
theorem n_nd__law_is : (n__law_is).Nodup := by decide +kernel
abbrev s__law_left : Stmt := top 60
def d__law_left : Df := ⟨pGl "_law_left", "_law_left", "_law_left", defArgs s__law_left, defBody s__law_left, defScope s__law_left, [], fun _ => []⟩
abbrev n__law_left : List PySem.Str := ["_law_marked", "_law_thing", "_law_lot", "_law_rows", "_law_one"]
theorem n_nd__law_left : (n__law_left).Nodup := by decide +kernel
abbrev s__law_all_left : Stmt := top 65
def d__law_all_left : Df := ⟨pGl "_law_all_left", "_law_all_left", "_law_all_left", defArgs s__law_all_left, defBody s__law_all_left, defScope s__law_all_left, [], fun _ => []⟩
abbrev n__law_all_left : List PySem.Str := ["_law_made", "_law_marked", "_law_good", "_law_size", "_law_level", "_law_kept", "_law_thing", "_law_told"]
theorem n_nd__law_all_left : (n__law_all_left).Nodup := by decide +kernel
abbrev s_BadSet___init__ : Stmt := inClass (top 5) 0
def d_BadSet___init__ : Df := ⟨pMe "BadSet" "__init__", "__init__", "BadSet.__init__", defArgs s_BadSet___init__, defBody s_BadSet___init__, defScope s_BadSet___init__, [], fun _ => []⟩
abbrev s_check_set : Stmt := top 18
def d_check_set : Df := ⟨pGl "check_set", "check_set", "check_set", defArgs s_check_set, defBody s_check_set, defScope s_check_set, [], fun _ => []⟩
abbrev n_check_set : List PySem.Str := ["size", "things", "wrong"]
theorem n_nd_check_set : (n_check_set).Nodup := by decide +kernel
abbrev s_restricted : Stmt := top 35
def d_restricted : Df := ⟨pGl "restricted", "restricted", "restricted", defArgs s_restricted, defBody s_restricted, defScope s_restricted, [], fun _ => []⟩
abbrev n_restricted : List PySem.Str := ["marks", "things", "found"]
theorem n_nd_restricted : (n_restricted).Nodup := by decide +kernel
abbrev s__law_kept_told : Stmt := top 62
def d__law_kept_told : Df := ⟨pGl "_law_kept_told", "_law_kept_told", "_law_kept_told", defArgs s__law_kept_told, defBody s__law_kept_told, defScope s__law_kept_told, [], fun _ => []⟩
abbrev n__law_kept_told : List PySem.Str := ["_law_made", "_law_things", "_law_told", "e"]
theorem n_nd__law_kept_told : (n__law_kept_told).Nodup := by decide +kernel
abbrev s_Marks___eq__ : Stmt := inClass (top 29) 16
def d_Marks___eq__ : Df := ⟨pMe "Marks" "__eq__", "__eq__", "Marks.__eq__", defArgs s_Marks___eq__, defBody s_Marks___eq__, defScope s_Marks___eq__, [], fun _ => []⟩
abbrev n_Marks___eq__ : List PySem.Str := ["self", "other"]
theorem n_nd_Marks___eq__ : (n_Marks___eq__).Nodup := by decide +kernel
abbrev s_packet_marks : Stmt := top 37
def d_packet_marks : Df := ⟨pGl "packet_marks", "packet_marks", "packet_marks", defArgs s_packet_marks, defBody s_packet_marks, defScope s_packet_marks, [], fun _ => []⟩
abbrev n_packet_marks : List PySem.Str := ["marks", "things", "found", "lot"]
theorem n_nd_packet_marks : (n_packet_marks).Nodup := by decide +kernel
abbrev s__law_inside : Stmt := top 64
def d__law_inside : Df := ⟨pGl "_law_inside", "_law_inside", "_law_inside", defArgs s__law_inside, defBody s__law_inside, defScope s__law_inside, [], fun _ => []⟩
abbrev n__law_inside : List PySem.Str := ["_law_marked", "_law_things", "_law_lot", "_law_one", "_law_rows"]
theorem n_nd__law_inside : (n__law_inside).Nodup := by decide +kernel
abbrev s__law_share : Stmt := top 66
def d__law_share : Df := ⟨pGl "_law_share", "_law_share", "_law_share", defArgs s__law_share, defBody s__law_share, defScope s__law_share, [], fun _ => []⟩
abbrev n__law_share : List PySem.Str := ["_law_made", "_law_marked", "_law_chosen", "_law_size", "_law_level", "_law_told", "_law_things", "_law_at"]
theorem n_nd__law_share : (n__law_share).Nodup := by decide +kernel
abbrev s__law_drawn_set : Stmt := top 59
def d__law_drawn_set : Df := ⟨pGl "_law_drawn_set", "_law_drawn_set", "_law_drawn_set", defArgs s__law_drawn_set, defBody s__law_drawn_set, defScope s__law_drawn_set, [], fun _ => []⟩
abbrev n__law_drawn_set : List PySem.Str := ["_law_draws_here", "_law_size", "_law_thing"]
theorem n_nd__law_drawn_set : (n__law_drawn_set).Nodup := by decide +kernel
abbrev s__others : Stmt := top 27
def d__others : Df := ⟨pGl "_others", "_others", "_others", defArgs s__others, defBody s__others, defScope s__others, [], fun _ => []⟩
abbrev n__others : List PySem.Str := ["size", "level", "marked", "known", "lot"]
theorem n_nd__others : (n__others).Nodup := by decide +kernel
abbrev s_Marks_unmarked : Stmt := inClass (top 29) 8
def d_Marks_unmarked : Df := ⟨pMe "Marks" "unmarked", "unmarked", "Marks.unmarked", defArgs s_Marks_unmarked, defBody s_Marks_unmarked, defScope s_Marks_unmarked, [], fun _ => []⟩
abbrev n_Marks_unmarked : List PySem.Str := ["self"]
theorem n_nd_Marks_unmarked : (n_Marks_unmarked).Nodup := by decide +kernel
abbrev s_Marks_contrary : Stmt := inClass (top 29) 10
def d_Marks_contrary : Df := ⟨pMe "Marks" "contrary", "contrary", "Marks.contrary", defArgs s_Marks_contrary, defBody s_Marks_contrary, defScope s_Marks_contrary, [], fun _ => []⟩
abbrev n_Marks_contrary : List PySem.Str := ["self"]
theorem n_nd_Marks_contrary : (n_Marks_contrary).Nodup := by decide +kernel
abbrev s_Family_contrary : Stmt := inClass (top 30) 6
def d_Family_contrary : Df := ⟨pMe "Family" "contrary", "contrary", "Family.contrary", defArgs s_Family_contrary, defBody s_Family_contrary, defScope s_Family_contrary, [], fun _ => []⟩
abbrev n_Family_contrary : List PySem.Str := ["self"]
theorem n_nd_Family_contrary : (n_Family_contrary).Nodup := by decide +kernel
abbrev s_law : Stmt := top 67
def d_law : Df := ⟨pGl "law", "law", "law", defArgs s_law, defBody s_law, defScope s_law, [], fun _ => []⟩
abbrev n_law : List PySem.Str := ["_law_script", "_law_draws_here", "_law_shape_here", "_law_size", "_law_level", "_law_marked", "_law_good", "_law_made", "_law_wrong", "_law_other"]
theorem n_nd_law : (n_law).Nodup := by decide +kernel
def fns : List Df := [d__law_draws, d__law_take, d__law_shape, d__law_lots, d__law_turns, d__law_packet, d__law_may, d__law_climb, d__law_places, d__law_spread, d__law_top, d__law_below, d__law_others, d__law_levels, d__law_family, d__law_marks, d__law_keeps, d_BadNumber___init__, d_is_int, d_check_number, d__check_shape, d_BadLots___init__, d__first_wrong, d_BadLot___init__, d__check_things, d_check_lots, d_Marks___init__, d__law_edge, d__lots, d__packet, d__row_break, d__least_break, d_Broken___init__, d_Family___init__, d_OtherShape___init__, d__like, d__inside, d_left_out, d__law_left_told, d_break_of, d_keeps, d__law_is, d__law_left, d__law_all_left, d_BadSet___init__, d_check_set, d_restricted, d__law_kept_told, d_Marks___eq__, d_packet_marks, d__law_inside, d__law_share, d__law_drawn_set, d__others, d_Marks_unmarked, d_Marks_contrary, d_Family_contrary, d_law]
def fxs : List Fc := [fHe (.free "len"),
  fHe (.free "min"),
  fHe (.free "range"),
  fHe (.free "int"),
  fHe (.glo "_law_take"),
  fHe (.free "tuple"),
  fHe (.free "list"),
  fHe (.glo "_law_turns"),
  fHe (.glo "_law_packet"),
  fHe (.free "sorted"),
  fHe (.glo "_law_may"),
  fHe (.glo "_law_lots"),
  fHe (.glo "_law_spread"),
  fHe (.glo "_law_top"),
  fHe (.glo "_law_others"),
  fHe (.glo "_law_climb"),
  fHe (.glo "_law_levels"),
  fHe (.glo "_law_below"),
  fHe (.glo "_law_places"),
  fHe (.glo "_law_family"),
  fHe (.free "isinstance"),
  fHe (.free "bool"),
  fHe (.glo "BadNumber"),
  fHe (.glo "is_int"),
  fHe (.glo "check_number"),
  fHe (.int "MOST_THINGS" 8),
  fHe (.glo "BadLot"),
  fHe (.glo "_first_wrong"),
  fHe (.glo "BadLots"),
  fHe (.glo "_check_things"),
  fHe (.glo "_check_shape"),
  fHe (.glo "check_lots"),
  fHe (.glo "_lots"),
  fHe (.glo "_row_break"),
  fHe (.glo "_packet"),
  fHe (.free "set"),
  fHe (.free "super"),
  fHe (.glo "Broken"),
  fHe (.glo "_least_break"),
  fHe (.glo "Marks"),
  fHe (.glo "Family"),
  fHe (.glo "_inside"),
  fHe (.glo "_like"),
  fHe (.glo "OtherShape"),
  fHe (.glo "left_out"),
  fHe (.glo "break_of"),
  fHe (.glo "keeps"),
  fHe (.glo "_law_left"),
  fHe (.glo "_law_is"),
  fHe (.glo "_law_left_told"),
  fHe (.glo "BadSet"),
  fHe (.glo "check_set"),
  fHe (.glo "restricted"),
  fHe (.glo "_law_kept_told"),
  fHe (.glo "packet_marks"),
  fHe (.glo "_law_inside"),
  fHe (.glo "_others"),
  fHe (.glo "_law_share"),
  fHe (.glo "_law_drawn_set"),
  fHe (.glo "_law_all_left"),
  fHe (.glo "_law_keeps"),
  fHe (.glo "_law_marks"),
  fHe (.glo "_law_edge"),
  fHe (.glo "_law_shape"),
  fHe (.glo "_law_draws"),
  fHe (.cls "Marks"),
  fHe (.cls "Family"),
  fHe (.noat "Marks" "marked"),
  fHe (.noat "Family" "marked"),
  fHe (.noat "Marks" "level"),
  fHe (.noat "Family" "level"),
  fHe (.noat "Marks" "size"),
  fHe (.noat "Family" "size"),
  fEx "BadNumber" ["name"],
  fEx "BadLot" ["place"],
  fEx "BadLots" ["place"],
  fHe (.exm "BadNumber" "BadLot" false),
  fHe (.exm "BadLot" "BadLot" true),
  fHe (.exm "BadLots" "BadLot" false),
  fHe (.exm "BadSet" "BadLot" false),
  fHe (.exm "Broken" "BadLot" false),
  fHe (.exm "OtherShape" "BadLot" false),
  fEx "Broken" ["lots"],
  fMk "Marks" "Marks",
  fIsi "Marks",
  fKit "Marks" "Family" false,
  fIsi "Family",
  fKit "Family" "Family" true,
  fMk "Family" "Family",
  fEx "OtherShape" ["size", "level"],
  fXf "BadNumber" "name",
  fHe (.exm "BadNumber" "BadNumber" true),
  fHe (.exm "BadLot" "BadNumber" false),
  fHe (.exm "BadLots" "BadNumber" false),
  fHe (.exm "BadSet" "BadNumber" false),
  fHe (.exm "Broken" "BadNumber" false),
  fHe (.exm "OtherShape" "BadNumber" false),
  fXf "OtherShape" "level",
  fXf "OtherShape" "size",
  fHe (.exm "BadNumber" "OtherShape" false),
  fHe (.exm "BadLot" "OtherShape" false),
  fHe (.exm "BadLots" "OtherShape" false),
  fHe (.exm "BadSet" "OtherShape" false),
  fHe (.exm "Broken" "OtherShape" false),
  fHe (.exm "OtherShape" "OtherShape" true),
  fKit "Marks" "Marks" true,
  fKit "Family" "Marks" true,
  fEx "BadSet" ["place"],
  fXf "BadSet" "place",
  fHe (.exm "BadNumber" "BadSet" false),
  fHe (.exm "BadLot" "BadSet" false),
  fHe (.exm "BadLots" "BadSet" false),
  fHe (.exm "BadSet" "BadSet" true),
  fHe (.exm "Broken" "BadSet" false),
  fHe (.exm "OtherShape" "BadSet" false),
  fMeth "Marks" "unmarked" "Marks",
  fMeth "Family" "unmarked" "Marks",
  fMeth "Marks" "contrary" "Marks",
  fMeth "Family" "contrary" "Family",
  fMeth "Marks" "__eq__" "Marks",
  fNe "Marks",
  fNotFirst "Marks" "Marks",
  fMeth "Family" "__eq__" "Marks",
  fNe "Family",
  fNotFirst "Family" "Marks",
  fNotFirst "Family" "Family",
  fSup "Family" "Marks" "/claim/cut.py"]
section
variable {P : Program} {w : World} {K : PySem.W.Frag} {mg : Str → Option Value} {base : Heap}
structure Cz (P : Program) (w : World) (K : PySem.W.Frag) (mg : Str → Option Value) : Prop where
  told : Told fxs fns K
  hp : ∃ h : Heap, K.In h ∧ h.Ns mainGlobals mg
  prog : P = PySem.Challenge.pw_packetmarks_k03_things_left_out
theorem Cz.gl (c : Cz P w K mg) {x : Str} (z : fHe (.glo x) K = true) : mg x = some (.ref (He.ga K x)) := by
  obtain ⟨h, a, b⟩ := c.hp
  exact He.glo_ok a b z
theorem Cz.fr (c : Cz P w K mg) {x : Str} (z : fHe (.free x) K = true) : mg x = none := by
  obtain ⟨h, a, b⟩ := c.hp
  exact He.free_ok a b z
theorem Cz.it (c : Cz P w K mg) {x : Str} {i : Int} (z : fHe (.int x i) K = true) : ∃ t, mg x = some (.int i t) := by
  obtain ⟨h, a, b⟩ := c.hp
  exact He.int_ok a b z
theorem f_len (c : Cz P w K mg) : mg "len" = none := c.fr (c.told.fact 0 (f := fHe (.free "len")) rfl)
theorem f_min (c : Cz P w K mg) : mg "min" = none := c.fr (c.told.fact 1 (f := fHe (.free "min")) rfl)
theorem f_range (c : Cz P w K mg) : mg "range" = none := c.fr (c.told.fact 2 (f := fHe (.free "range")) rfl)
theorem f_int (c : Cz P w K mg) : mg "int" = none := c.fr (c.told.fact 3 (f := fHe (.free "int")) rfl)
theorem g__law_take (c : Cz P w K mg) : mg "_law_take" = some (.ref (He.ga K "_law_take")) := c.gl (c.told.fact 4 (f := fHe (.glo "_law_take")) rfl)
theorem f_tuple (c : Cz P w K mg) : mg "tuple" = none := c.fr (c.told.fact 5 (f := fHe (.free "tuple")) rfl)
theorem f_list (c : Cz P w K mg) : mg "list" = none := c.fr (c.told.fact 6 (f := fHe (.free "list")) rfl)
theorem g__law_turns (c : Cz P w K mg) : mg "_law_turns" = some (.ref (He.ga K "_law_turns")) := c.gl (c.told.fact 7 (f := fHe (.glo "_law_turns")) rfl)
theorem g__law_packet (c : Cz P w K mg) : mg "_law_packet" = some (.ref (He.ga K "_law_packet")) := c.gl (c.told.fact 8 (f := fHe (.glo "_law_packet")) rfl)
theorem f_sorted (c : Cz P w K mg) : mg "sorted" = none := c.fr (c.told.fact 9 (f := fHe (.free "sorted")) rfl)
theorem g__law_may (c : Cz P w K mg) : mg "_law_may" = some (.ref (He.ga K "_law_may")) := c.gl (c.told.fact 10 (f := fHe (.glo "_law_may")) rfl)
theorem g__law_lots (c : Cz P w K mg) : mg "_law_lots" = some (.ref (He.ga K "_law_lots")) := c.gl (c.told.fact 11 (f := fHe (.glo "_law_lots")) rfl)
theorem g__law_spread (c : Cz P w K mg) : mg "_law_spread" = some (.ref (He.ga K "_law_spread")) := c.gl (c.told.fact 12 (f := fHe (.glo "_law_spread")) rfl)
theorem g__law_top (c : Cz P w K mg) : mg "_law_top" = some (.ref (He.ga K "_law_top")) := c.gl (c.told.fact 13 (f := fHe (.glo "_law_top")) rfl)
theorem g__law_others (c : Cz P w K mg) : mg "_law_others" = some (.ref (He.ga K "_law_others")) := c.gl (c.told.fact 14 (f := fHe (.glo "_law_others")) rfl)
theorem g__law_climb (c : Cz P w K mg) : mg "_law_climb" = some (.ref (He.ga K "_law_climb")) := c.gl (c.told.fact 15 (f := fHe (.glo "_law_climb")) rfl)
theorem g__law_levels (c : Cz P w K mg) : mg "_law_levels" = some (.ref (He.ga K "_law_levels")) := c.gl (c.told.fact 16 (f := fHe (.glo "_law_levels")) rfl)
theorem g__law_below (c : Cz P w K mg) : mg "_law_below" = some (.ref (He.ga K "_law_below")) := c.gl (c.told.fact 17 (f := fHe (.glo "_law_below")) rfl)
theorem g__law_places (c : Cz P w K mg) : mg "_law_places" = some (.ref (He.ga K "_law_places")) := c.gl (c.told.fact 18 (f := fHe (.glo "_law_places")) rfl)
theorem g__law_family (c : Cz P w K mg) : mg "_law_family" = some (.ref (He.ga K "_law_family")) := c.gl (c.told.fact 19 (f := fHe (.glo "_law_family")) rfl)
theorem f_isinstance (c : Cz P w K mg) : mg "isinstance" = none := c.fr (c.told.fact 20 (f := fHe (.free "isinstance")) rfl)
theorem f_bool (c : Cz P w K mg) : mg "bool" = none := c.fr (c.told.fact 21 (f := fHe (.free "bool")) rfl)
theorem g_BadNumber (c : Cz P w K mg) : mg "BadNumber" = some (.ref (He.ga K "BadNumber")) := c.gl (c.told.fact 22 (f := fHe (.glo "BadNumber")) rfl)
theorem g_is_int (c : Cz P w K mg) : mg "is_int" = some (.ref (He.ga K "is_int")) := c.gl (c.told.fact 23 (f := fHe (.glo "is_int")) rfl)
theorem g_check_number (c : Cz P w K mg) : mg "check_number" = some (.ref (He.ga K "check_number")) := c.gl (c.told.fact 24 (f := fHe (.glo "check_number")) rfl)
theorem g_MOST_THINGS (c : Cz P w K mg) : ∃ t, mg "MOST_THINGS" = some (.int 8 t) := c.it (c.told.fact 25 (f := fHe (.int "MOST_THINGS" 8)) rfl)
theorem g_BadLot (c : Cz P w K mg) : mg "BadLot" = some (.ref (He.ga K "BadLot")) := c.gl (c.told.fact 26 (f := fHe (.glo "BadLot")) rfl)
theorem g__first_wrong (c : Cz P w K mg) : mg "_first_wrong" = some (.ref (He.ga K "_first_wrong")) := c.gl (c.told.fact 27 (f := fHe (.glo "_first_wrong")) rfl)
theorem g_BadLots (c : Cz P w K mg) : mg "BadLots" = some (.ref (He.ga K "BadLots")) := c.gl (c.told.fact 28 (f := fHe (.glo "BadLots")) rfl)
theorem g__check_things (c : Cz P w K mg) : mg "_check_things" = some (.ref (He.ga K "_check_things")) := c.gl (c.told.fact 29 (f := fHe (.glo "_check_things")) rfl)
theorem g__check_shape (c : Cz P w K mg) : mg "_check_shape" = some (.ref (He.ga K "_check_shape")) := c.gl (c.told.fact 30 (f := fHe (.glo "_check_shape")) rfl)
theorem g_check_lots (c : Cz P w K mg) : mg "check_lots" = some (.ref (He.ga K "check_lots")) := c.gl (c.told.fact 31 (f := fHe (.glo "check_lots")) rfl)
theorem g__lots (c : Cz P w K mg) : mg "_lots" = some (.ref (He.ga K "_lots")) := c.gl (c.told.fact 32 (f := fHe (.glo "_lots")) rfl)
theorem g__row_break (c : Cz P w K mg) : mg "_row_break" = some (.ref (He.ga K "_row_break")) := c.gl (c.told.fact 33 (f := fHe (.glo "_row_break")) rfl)
theorem g__packet (c : Cz P w K mg) : mg "_packet" = some (.ref (He.ga K "_packet")) := c.gl (c.told.fact 34 (f := fHe (.glo "_packet")) rfl)
theorem f_set (c : Cz P w K mg) : mg "set" = none := c.fr (c.told.fact 35 (f := fHe (.free "set")) rfl)
theorem f_super (c : Cz P w K mg) : mg "super" = none := c.fr (c.told.fact 36 (f := fHe (.free "super")) rfl)
theorem g_Broken (c : Cz P w K mg) : mg "Broken" = some (.ref (He.ga K "Broken")) := c.gl (c.told.fact 37 (f := fHe (.glo "Broken")) rfl)
theorem g__least_break (c : Cz P w K mg) : mg "_least_break" = some (.ref (He.ga K "_least_break")) := c.gl (c.told.fact 38 (f := fHe (.glo "_least_break")) rfl)
theorem g_Marks (c : Cz P w K mg) : mg "Marks" = some (.ref (He.ga K "Marks")) := c.gl (c.told.fact 39 (f := fHe (.glo "Marks")) rfl)
theorem g_Family (c : Cz P w K mg) : mg "Family" = some (.ref (He.ga K "Family")) := c.gl (c.told.fact 40 (f := fHe (.glo "Family")) rfl)
theorem g__inside (c : Cz P w K mg) : mg "_inside" = some (.ref (He.ga K "_inside")) := c.gl (c.told.fact 41 (f := fHe (.glo "_inside")) rfl)
theorem g__like (c : Cz P w K mg) : mg "_like" = some (.ref (He.ga K "_like")) := c.gl (c.told.fact 42 (f := fHe (.glo "_like")) rfl)
theorem g_OtherShape (c : Cz P w K mg) : mg "OtherShape" = some (.ref (He.ga K "OtherShape")) := c.gl (c.told.fact 43 (f := fHe (.glo "OtherShape")) rfl)
theorem g_left_out (c : Cz P w K mg) : mg "left_out" = some (.ref (He.ga K "left_out")) := c.gl (c.told.fact 44 (f := fHe (.glo "left_out")) rfl)
theorem g_break_of (c : Cz P w K mg) : mg "break_of" = some (.ref (He.ga K "break_of")) := c.gl (c.told.fact 45 (f := fHe (.glo "break_of")) rfl)
theorem g_keeps (c : Cz P w K mg) : mg "keeps" = some (.ref (He.ga K "keeps")) := c.gl (c.told.fact 46 (f := fHe (.glo "keeps")) rfl)
theorem g__law_left (c : Cz P w K mg) : mg "_law_left" = some (.ref (He.ga K "_law_left")) := c.gl (c.told.fact 47 (f := fHe (.glo "_law_left")) rfl)
theorem g__law_is (c : Cz P w K mg) : mg "_law_is" = some (.ref (He.ga K "_law_is")) := c.gl (c.told.fact 48 (f := fHe (.glo "_law_is")) rfl)
theorem g__law_left_told (c : Cz P w K mg) : mg "_law_left_told" = some (.ref (He.ga K "_law_left_told")) := c.gl (c.told.fact 49 (f := fHe (.glo "_law_left_told")) rfl)
theorem g_BadSet (c : Cz P w K mg) : mg "BadSet" = some (.ref (He.ga K "BadSet")) := c.gl (c.told.fact 50 (f := fHe (.glo "BadSet")) rfl)
theorem g_check_set (c : Cz P w K mg) : mg "check_set" = some (.ref (He.ga K "check_set")) := c.gl (c.told.fact 51 (f := fHe (.glo "check_set")) rfl)
theorem g_restricted (c : Cz P w K mg) : mg "restricted" = some (.ref (He.ga K "restricted")) := c.gl (c.told.fact 52 (f := fHe (.glo "restricted")) rfl)
theorem g__law_kept_told (c : Cz P w K mg) : mg "_law_kept_told" = some (.ref (He.ga K "_law_kept_told")) := c.gl (c.told.fact 53 (f := fHe (.glo "_law_kept_told")) rfl)
theorem g_packet_marks (c : Cz P w K mg) : mg "packet_marks" = some (.ref (He.ga K "packet_marks")) := c.gl (c.told.fact 54 (f := fHe (.glo "packet_marks")) rfl)
theorem g__law_inside (c : Cz P w K mg) : mg "_law_inside" = some (.ref (He.ga K "_law_inside")) := c.gl (c.told.fact 55 (f := fHe (.glo "_law_inside")) rfl)
theorem g__others (c : Cz P w K mg) : mg "_others" = some (.ref (He.ga K "_others")) := c.gl (c.told.fact 56 (f := fHe (.glo "_others")) rfl)
theorem g__law_share (c : Cz P w K mg) : mg "_law_share" = some (.ref (He.ga K "_law_share")) := c.gl (c.told.fact 57 (f := fHe (.glo "_law_share")) rfl)
theorem g__law_drawn_set (c : Cz P w K mg) : mg "_law_drawn_set" = some (.ref (He.ga K "_law_drawn_set")) := c.gl (c.told.fact 58 (f := fHe (.glo "_law_drawn_set")) rfl)
theorem g__law_all_left (c : Cz P w K mg) : mg "_law_all_left" = some (.ref (He.ga K "_law_all_left")) := c.gl (c.told.fact 59 (f := fHe (.glo "_law_all_left")) rfl)
theorem g__law_keeps (c : Cz P w K mg) : mg "_law_keeps" = some (.ref (He.ga K "_law_keeps")) := c.gl (c.told.fact 60 (f := fHe (.glo "_law_keeps")) rfl)
theorem g__law_marks (c : Cz P w K mg) : mg "_law_marks" = some (.ref (He.ga K "_law_marks")) := c.gl (c.told.fact 61 (f := fHe (.glo "_law_marks")) rfl)
theorem g__law_edge (c : Cz P w K mg) : mg "_law_edge" = some (.ref (He.ga K "_law_edge")) := c.gl (c.told.fact 62 (f := fHe (.glo "_law_edge")) rfl)
theorem g__law_shape (c : Cz P w K mg) : mg "_law_shape" = some (.ref (He.ga K "_law_shape")) := c.gl (c.told.fact 63 (f := fHe (.glo "_law_shape")) rfl)
theorem g__law_draws (c : Cz P w K mg) : mg "_law_draws" = some (.ref (He.ga K "_law_draws")) := c.gl (c.told.fact 64 (f := fHe (.glo "_law_draws")) rfl)
theorem cl_Marks (c : Cz P w K mg) : Cls K (He.ga K "Marks") := He.cls_ok (c.told.fact 65 (f := fHe (.cls "Marks")) rfl)
theorem cl_Family (c : Cz P w K mg) : Cls K (He.ga K "Family") := He.cls_ok (c.told.fact 66 (f := fHe (.cls "Family")) rfl)
theorem na_Marks_marked (c : Cz P w K mg) : NoAttr K (He.ga K "Marks") "marked" := He.noat_ok (c.told.fact 67 (f := fHe (.noat "Marks" "marked")) rfl)
theorem na_Family_marked (c : Cz P w K mg) : NoAttr K (He.ga K "Family") "marked" := He.noat_ok (c.told.fact 68 (f := fHe (.noat "Family" "marked")) rfl)
theorem fld_marked (c : Cz P w K mg) : Fld K ocs 122 := fun i h => by
  have z : i ∈ ([62, 100] : List Nat) := mem_cs h
  simp only [List.mem_cons, List.not_mem_nil, or_false] at z
  rcases z with rfl | rfl
  · exact ⟨cl_Marks c, na_Marks_marked c⟩
  · exact ⟨cl_Family c, na_Family_marked c⟩
theorem na_Marks_level (c : Cz P w K mg) : NoAttr K (He.ga K "Marks") "level" := He.noat_ok (c.told.fact 69 (f := fHe (.noat "Marks" "level")) rfl)
theorem na_Family_level (c : Cz P w K mg) : NoAttr K (He.ga K "Family") "level" := He.noat_ok (c.told.fact 70 (f := fHe (.noat "Family" "level")) rfl)
theorem fld_level (c : Cz P w K mg) : Fld K ocs 83 := fun i h => by
  have z : i ∈ ([62, 100] : List Nat) := mem_cs h
  simp only [List.mem_cons, List.not_mem_nil, or_false] at z
  rcases z with rfl | rfl
  · exact ⟨cl_Marks c, na_Marks_level c⟩
  · exact ⟨cl_Family c, na_Family_level c⟩
theorem na_Marks_size (c : Cz P w K mg) : NoAttr K (He.ga K "Marks") "size" := He.noat_ok (c.told.fact 71 (f := fHe (.noat "Marks" "size")) rfl)
theorem na_Family_size (c : Cz P w K mg) : NoAttr K (He.ga K "Family") "size" := He.noat_ok (c.told.fact 72 (f := fHe (.noat "Family" "size")) rfl)
theorem fld_size (c : Cz P w K mg) : Fld K ocs 53 := fun i h => by
  have z : i ∈ ([62, 100] : List Nat) := mem_cs h
  simp only [List.mem_cons, List.not_mem_nil, or_false] at z
  rcases z with rfl | rfl
  · exact ⟨cl_Marks c, na_Marks_size c⟩
  · exact ⟨cl_Family c, na_Family_size c⟩
theorem exf_BadNumber (c : Cz P w K mg) : fEx "BadNumber" ["name"] K = true := (c.told.fact 73 (f := fEx "BadNumber" ["name"]) rfl)
theorem exf_BadLot (c : Cz P w K mg) : fEx "BadLot" ["place"] K = true := (c.told.fact 74 (f := fEx "BadLot" ["place"]) rfl)
theorem exf_BadLots (c : Cz P w K mg) : fEx "BadLots" ["place"] K = true := (c.told.fact 75 (f := fEx "BadLots" ["place"]) rfl)
theorem exm_BadNumber_BadLot (c : Cz P w K mg) : PySem.W.exmOne K (.ref (He.ga K "BadNumber")) (.ref (He.ga K "BadLot")) = some false := He.exm_ok (c.told.fact 76 (f := fHe (.exm "BadNumber" "BadLot" false)) rfl)
theorem exm_BadLot_BadLot (c : Cz P w K mg) : PySem.W.exmOne K (.ref (He.ga K "BadLot")) (.ref (He.ga K "BadLot")) = some true := He.exm_ok (c.told.fact 77 (f := fHe (.exm "BadLot" "BadLot" true)) rfl)
theorem exm_BadLots_BadLot (c : Cz P w K mg) : PySem.W.exmOne K (.ref (He.ga K "BadLots")) (.ref (He.ga K "BadLot")) = some false := He.exm_ok (c.told.fact 78 (f := fHe (.exm "BadLots" "BadLot" false)) rfl)
theorem exm_BadSet_BadLot (c : Cz P w K mg) : PySem.W.exmOne K (.ref (He.ga K "BadSet")) (.ref (He.ga K "BadLot")) = some false := He.exm_ok (c.told.fact 79 (f := fHe (.exm "BadSet" "BadLot" false)) rfl)
theorem exm_Broken_BadLot (c : Cz P w K mg) : PySem.W.exmOne K (.ref (He.ga K "Broken")) (.ref (He.ga K "BadLot")) = some false := He.exm_ok (c.told.fact 80 (f := fHe (.exm "Broken" "BadLot" false)) rfl)
theorem exm_OtherShape_BadLot (c : Cz P w K mg) : PySem.W.exmOne K (.ref (He.ga K "OtherShape")) (.ref (He.ga K "BadLot")) = some false := He.exm_ok (c.told.fact 81 (f := fHe (.exm "OtherShape" "BadLot" false)) rfl)
theorem exf_Broken (c : Cz P w K mg) : fEx "Broken" ["lots"] K = true := (c.told.fact 82 (f := fEx "Broken" ["lots"]) rfl)
theorem mkf_Marks (c : Cz P w K mg) : Mk K (He.ga K "Marks") (He.ma K (He.ga K "Marks") "__init__") := fMk_ok (c.told.fact 83 (f := fMk "Marks" "Marks") rfl)
theorem isf_Marks (c : Cz P w K mg) : IsiC K (He.ga K "Marks") := fIsi_ok (c.told.fact 84 (f := fIsi "Marks") rfl)
theorem kit_Marks_Family (c : Cz P w K mg) : PySem.W.kitOne K (.ref (He.ga K "Marks")) (.ref (He.ga K "Family")) = some false := of_decide_eq_true (c.told.fact 85 (f := fKit "Marks" "Family" false) rfl)
theorem isf_Family (c : Cz P w K mg) : IsiC K (He.ga K "Family") := fIsi_ok (c.told.fact 86 (f := fIsi "Family") rfl)
theorem kit_Family_Family (c : Cz P w K mg) : PySem.W.kitOne K (.ref (He.ga K "Family")) (.ref (He.ga K "Family")) = some true := of_decide_eq_true (c.told.fact 87 (f := fKit "Family" "Family" true) rfl)
theorem mkf_Family (c : Cz P w K mg) : Mk K (He.ga K "Family") (He.ma K (He.ga K "Family") "__init__") := fMk_ok (c.told.fact 88 (f := fMk "Family" "Family") rfl)
theorem exf_OtherShape (c : Cz P w K mg) : fEx "OtherShape" ["size", "level"] K = true := (c.told.fact 89 (f := fEx "OtherShape" ["size", "level"]) rfl)
theorem xff_BadNumber_name (c : Cz P w K mg) : L2.XfC K (He.ga K "BadNumber") ∧ PySem.W.findIn K (.ref (He.ga K "BadNumber")) "name" = some none := fXf_ok (c.told.fact 90 (f := fXf "BadNumber" "name") rfl)
theorem exm_BadNumber_BadNumber (c : Cz P w K mg) : PySem.W.exmOne K (.ref (He.ga K "BadNumber")) (.ref (He.ga K "BadNumber")) = some true := He.exm_ok (c.told.fact 91 (f := fHe (.exm "BadNumber" "BadNumber" true)) rfl)
theorem exm_BadLot_BadNumber (c : Cz P w K mg) : PySem.W.exmOne K (.ref (He.ga K "BadLot")) (.ref (He.ga K "BadNumber")) = some false := He.exm_ok (c.told.fact 92 (f := fHe (.exm "BadLot" "BadNumber" false)) rfl)
theorem exm_BadLots_BadNumber (c : Cz P w K mg) : PySem.W.exmOne K (.ref (He.ga K "BadLots")) (.ref (He.ga K "BadNumber")) = some false := He.exm_ok (c.told.fact 93 (f := fHe (.exm "BadLots" "BadNumber" false)) rfl)
theorem exm_BadSet_BadNumber (c : Cz P w K mg) : PySem.W.exmOne K (.ref (He.ga K "BadSet")) (.ref (He.ga K "BadNumber")) = some false := He.exm_ok (c.told.fact 94 (f := fHe (.exm "BadSet" "BadNumber" false)) rfl)
theorem exm_Broken_BadNumber (c : Cz P w K mg) : PySem.W.exmOne K (.ref (He.ga K "Broken")) (.ref (He.ga K "BadNumber")) = some false := He.exm_ok (c.told.fact 95 (f := fHe (.exm "Broken" "BadNumber" false)) rfl)
theorem exm_OtherShape_BadNumber (c : Cz P w K mg) : PySem.W.exmOne K (.ref (He.ga K "OtherShape")) (.ref (He.ga K "BadNumber")) = some false := He.exm_ok (c.told.fact 96 (f := fHe (.exm "OtherShape" "BadNumber" false)) rfl)
theorem xff_OtherShape_level (c : Cz P w K mg) : L2.XfC K (He.ga K "OtherShape") ∧ PySem.W.findIn K (.ref (He.ga K "OtherShape")) "level" = some none := fXf_ok (c.told.fact 97 (f := fXf "OtherShape" "level") rfl)
theorem xff_OtherShape_size (c : Cz P w K mg) : L2.XfC K (He.ga K "OtherShape") ∧ PySem.W.findIn K (.ref (He.ga K "OtherShape")) "size" = some none := fXf_ok (c.told.fact 98 (f := fXf "OtherShape" "size") rfl)
theorem exm_BadNumber_OtherShape (c : Cz P w K mg) : PySem.W.exmOne K (.ref (He.ga K "BadNumber")) (.ref (He.ga K "OtherShape")) = some false := He.exm_ok (c.told.fact 99 (f := fHe (.exm "BadNumber" "OtherShape" false)) rfl)
theorem exm_BadLot_OtherShape (c : Cz P w K mg) : PySem.W.exmOne K (.ref (He.ga K "BadLot")) (.ref (He.ga K "OtherShape")) = some false := He.exm_ok (c.told.fact 100 (f := fHe (.exm "BadLot" "OtherShape" false)) rfl)
theorem exm_BadLots_OtherShape (c : Cz P w K mg) : PySem.W.exmOne K (.ref (He.ga K "BadLots")) (.ref (He.ga K "OtherShape")) = some false := He.exm_ok (c.told.fact 101 (f := fHe (.exm "BadLots" "OtherShape" false)) rfl)
theorem exm_BadSet_OtherShape (c : Cz P w K mg) : PySem.W.exmOne K (.ref (He.ga K "BadSet")) (.ref (He.ga K "OtherShape")) = some false := He.exm_ok (c.told.fact 102 (f := fHe (.exm "BadSet" "OtherShape" false)) rfl)
theorem exm_Broken_OtherShape (c : Cz P w K mg) : PySem.W.exmOne K (.ref (He.ga K "Broken")) (.ref (He.ga K "OtherShape")) = some false := He.exm_ok (c.told.fact 103 (f := fHe (.exm "Broken" "OtherShape" false)) rfl)
theorem exm_OtherShape_OtherShape (c : Cz P w K mg) : PySem.W.exmOne K (.ref (He.ga K "OtherShape")) (.ref (He.ga K "OtherShape")) = some true := He.exm_ok (c.told.fact 104 (f := fHe (.exm "OtherShape" "OtherShape" true)) rfl)
theorem kit_Marks_Marks (c : Cz P w K mg) : PySem.W.kitOne K (.ref (He.ga K "Marks")) (.ref (He.ga K "Marks")) = some true := of_decide_eq_true (c.told.fact 105 (f := fKit "Marks" "Marks" true) rfl)
theorem kit_Family_Marks (c : Cz P w K mg) : PySem.W.kitOne K (.ref (He.ga K "Family")) (.ref (He.ga K "Marks")) = some true := of_decide_eq_true (c.told.fact 106 (f := fKit "Family" "Marks" true) rfl)
theorem exf_BadSet (c : Cz P w K mg) : fEx "BadSet" ["place"] K = true := (c.told.fact 107 (f := fEx "BadSet" ["place"]) rfl)
theorem xff_BadSet_place (c : Cz P w K mg) : L2.XfC K (He.ga K "BadSet") ∧ PySem.W.findIn K (.ref (He.ga K "BadSet")) "place" = some none := fXf_ok (c.told.fact 108 (f := fXf "BadSet" "place") rfl)
theorem exm_BadNumber_BadSet (c : Cz P w K mg) : PySem.W.exmOne K (.ref (He.ga K "BadNumber")) (.ref (He.ga K "BadSet")) = some false := He.exm_ok (c.told.fact 109 (f := fHe (.exm "BadNumber" "BadSet" false)) rfl)
theorem exm_BadLot_BadSet (c : Cz P w K mg) : PySem.W.exmOne K (.ref (He.ga K "BadLot")) (.ref (He.ga K "BadSet")) = some false := He.exm_ok (c.told.fact 110 (f := fHe (.exm "BadLot" "BadSet" false)) rfl)
theorem exm_BadLots_BadSet (c : Cz P w K mg) : PySem.W.exmOne K (.ref (He.ga K "BadLots")) (.ref (He.ga K "BadSet")) = some false := He.exm_ok (c.told.fact 111 (f := fHe (.exm "BadLots" "BadSet" false)) rfl)
theorem exm_BadSet_BadSet (c : Cz P w K mg) : PySem.W.exmOne K (.ref (He.ga K "BadSet")) (.ref (He.ga K "BadSet")) = some true := He.exm_ok (c.told.fact 112 (f := fHe (.exm "BadSet" "BadSet" true)) rfl)
theorem exm_Broken_BadSet (c : Cz P w K mg) : PySem.W.exmOne K (.ref (He.ga K "Broken")) (.ref (He.ga K "BadSet")) = some false := He.exm_ok (c.told.fact 113 (f := fHe (.exm "Broken" "BadSet" false)) rfl)
theorem exm_OtherShape_BadSet (c : Cz P w K mg) : PySem.W.exmOne K (.ref (He.ga K "OtherShape")) (.ref (He.ga K "BadSet")) = some false := He.exm_ok (c.told.fact 114 (f := fHe (.exm "OtherShape" "BadSet" false)) rfl)
theorem me_Marks_unmarked (c : Cz P w K mg) : Meth K (He.ga K "Marks") "unmarked" (He.ma K (He.ga K "Marks") "unmarked") := fMeth_ok (c.told.fact 115 (f := fMeth "Marks" "unmarked" "Marks") rfl)
theorem me_Family_unmarked (c : Cz P w K mg) : Meth K (He.ga K "Family") "unmarked" (He.ma K (He.ga K "Marks") "unmarked") := fMeth_ok (c.told.fact 116 (f := fMeth "Family" "unmarked" "Marks") rfl)
theorem me_Marks_contrary (c : Cz P w K mg) : Meth K (He.ga K "Marks") "contrary" (He.ma K (He.ga K "Marks") "contrary") := fMeth_ok (c.told.fact 117 (f := fMeth "Marks" "contrary" "Marks") rfl)
theorem me_Family_contrary (c : Cz P w K mg) : Meth K (He.ga K "Family") "contrary" (He.ma K (He.ga K "Family") "contrary") := fMeth_ok (c.told.fact 118 (f := fMeth "Family" "contrary" "Family") rfl)
theorem me_Marks_eq (c : Cz P w K mg) : Meth K (He.ga K "Marks") "__eq__" (He.ma K (He.ga K "Marks") "__eq__") := fMeth_ok (c.told.fact 119 (f := fMeth "Marks" "__eq__" "Marks") rfl)
theorem ne_Marks (c : Cz P w K mg) : PySem.W.findIn K (.ref (He.ga K "Marks")) "__ne__" = some (some (.builtin "object.__ne__")) ∧ PySem.W.mroIn K (He.ga K "Marks") (.type "object") = some true := fNe_ok (c.told.fact 120 (f := fNe "Marks") rfl)
theorem nf_Marks_Marks (c : Cz P w K mg) : PySem.W.notFirst K (He.ga K "Marks") (.ref (He.ga K "Marks")) = true := (c.told.fact 121 (f := fNotFirst "Marks" "Marks") rfl)
theorem me_Family_eq (c : Cz P w K mg) : Meth K (He.ga K "Family") "__eq__" (He.ma K (He.ga K "Marks") "__eq__") := fMeth_ok (c.told.fact 122 (f := fMeth "Family" "__eq__" "Marks") rfl)
theorem ne_Family (c : Cz P w K mg) : PySem.W.findIn K (.ref (He.ga K "Family")) "__ne__" = some (some (.builtin "object.__ne__")) ∧ PySem.W.mroIn K (He.ga K "Family") (.type "object") = some true := fNe_ok (c.told.fact 123 (f := fNe "Family") rfl)
theorem nf_Family_Marks (c : Cz P w K mg) : PySem.W.notFirst K (He.ga K "Family") (.ref (He.ga K "Marks")) = true := (c.told.fact 124 (f := fNotFirst "Family" "Marks") rfl)
theorem nf_Family_Family (c : Cz P w K mg) : PySem.W.notFirst K (He.ga K "Family") (.ref (He.ga K "Family")) = true := (c.told.fact 125 (f := fNotFirst "Family" "Family") rfl)
theorem supf_Family (c : Cz P w K mg) : fSup "Family" "Marks" "/claim/cut.py" K = true := (c.told.fact 126 (f := fSup "Family" "Marks" "/claim/cut.py") rfl)
theorem kp__law_draws (c : Cz P w K mg) : PySem.W.keepIn K (.ref (He.ga K "_law_draws")) = true := (Df.open_ (c.told.df 0 (d := d__law_draws) rfl)).1
theorem kp__law_take (c : Cz P w K mg) : PySem.W.keepIn K (.ref (He.ga K "_law_take")) = true := (Df.open_ (c.told.df 1 (d := d__law_take) rfl)).1
theorem kp__law_shape (c : Cz P w K mg) : PySem.W.keepIn K (.ref (He.ga K "_law_shape")) = true := (Df.open_ (c.told.df 2 (d := d__law_shape) rfl)).1
theorem kp__law_lots (c : Cz P w K mg) : PySem.W.keepIn K (.ref (He.ga K "_law_lots")) = true := (Df.open_ (c.told.df 3 (d := d__law_lots) rfl)).1
theorem kp__law_turns (c : Cz P w K mg) : PySem.W.keepIn K (.ref (He.ga K "_law_turns")) = true := (Df.open_ (c.told.df 4 (d := d__law_turns) rfl)).1
theorem kp__law_packet (c : Cz P w K mg) : PySem.W.keepIn K (.ref (He.ga K "_law_packet")) = true := (Df.open_ (c.told.df 5 (d := d__law_packet) rfl)).1
theorem kp__law_may (c : Cz P w K mg) : PySem.W.keepIn K (.ref (He.ga K "_law_may")) = true := (Df.open_ (c.told.df 6 (d := d__law_may) rfl)).1
theorem kp__law_climb (c : Cz P w K mg) : PySem.W.keepIn K (.ref (He.ga K "_law_climb")) = true := (Df.open_ (c.told.df 7 (d := d__law_climb) rfl)).1
theorem kp__law_places (c : Cz P w K mg) : PySem.W.keepIn K (.ref (He.ga K "_law_places")) = true := (Df.open_ (c.told.df 8 (d := d__law_places) rfl)).1
theorem kp__law_spread (c : Cz P w K mg) : PySem.W.keepIn K (.ref (He.ga K "_law_spread")) = true := (Df.open_ (c.told.df 9 (d := d__law_spread) rfl)).1
theorem kp__law_top (c : Cz P w K mg) : PySem.W.keepIn K (.ref (He.ga K "_law_top")) = true := (Df.open_ (c.told.df 10 (d := d__law_top) rfl)).1
theorem kp__law_below (c : Cz P w K mg) : PySem.W.keepIn K (.ref (He.ga K "_law_below")) = true := (Df.open_ (c.told.df 11 (d := d__law_below) rfl)).1
theorem kp__law_others (c : Cz P w K mg) : PySem.W.keepIn K (.ref (He.ga K "_law_others")) = true := (Df.open_ (c.told.df 12 (d := d__law_others) rfl)).1
theorem kp__law_levels (c : Cz P w K mg) : PySem.W.keepIn K (.ref (He.ga K "_law_levels")) = true := (Df.open_ (c.told.df 13 (d := d__law_levels) rfl)).1
theorem kp__law_family (c : Cz P w K mg) : PySem.W.keepIn K (.ref (He.ga K "_law_family")) = true := (Df.open_ (c.told.df 14 (d := d__law_family) rfl)).1
theorem kp__law_marks (c : Cz P w K mg) : PySem.W.keepIn K (.ref (He.ga K "_law_marks")) = true := (Df.open_ (c.told.df 15 (d := d__law_marks) rfl)).1
theorem kp__law_keeps (c : Cz P w K mg) : PySem.W.keepIn K (.ref (He.ga K "_law_keeps")) = true := (Df.open_ (c.told.df 16 (d := d__law_keeps) rfl)).1
theorem kp_BadNumber___init__ (c : Cz P w K mg) : PySem.W.keepIn K (.ref (He.ma K (He.ga K "BadNumber") "__init__")) = true := (Df.open_ (c.told.df 17 (d := d_BadNumber___init__) rfl)).1
theorem kp_is_int (c : Cz P w K mg) : PySem.W.keepIn K (.ref (He.ga K "is_int")) = true := (Df.open_ (c.told.df 18 (d := d_is_int) rfl)).1
theorem kp_check_number (c : Cz P w K mg) : PySem.W.keepIn K (.ref (He.ga K "check_number")) = true := (Df.open_ (c.told.df 19 (d := d_check_number) rfl)).1
theorem kp__check_shape (c : Cz P w K mg) : PySem.W.keepIn K (.ref (He.ga K "_check_shape")) = true := (Df.open_ (c.told.df 20 (d := d__check_shape) rfl)).1
theorem kp_BadLots___init__ (c : Cz P w K mg) : PySem.W.keepIn K (.ref (He.ma K (He.ga K "BadLots") "__init__")) = true := (Df.open_ (c.told.df 21 (d := d_BadLots___init__) rfl)).1
theorem kp__first_wrong (c : Cz P w K mg) : PySem.W.keepIn K (.ref (He.ga K "_first_wrong")) = true := (Df.open_ (c.told.df 22 (d := d__first_wrong) rfl)).1
theorem kp_BadLot___init__ (c : Cz P w K mg) : PySem.W.keepIn K (.ref (He.ma K (He.ga K "BadLot") "__init__")) = true := (Df.open_ (c.told.df 23 (d := d_BadLot___init__) rfl)).1
theorem kp__check_things (c : Cz P w K mg) : PySem.W.keepIn K (.ref (He.ga K "_check_things")) = true := (Df.open_ (c.told.df 24 (d := d__check_things) rfl)).1
theorem kp_check_lots (c : Cz P w K mg) : PySem.W.keepIn K (.ref (He.ga K "check_lots")) = true := (Df.open_ (c.told.df 25 (d := d_check_lots) rfl)).1
theorem kp_Marks___init__ (c : Cz P w K mg) : PySem.W.keepIn K (.ref (He.ma K (He.ga K "Marks") "__init__")) = true := (Df.open_ (c.told.df 26 (d := d_Marks___init__) rfl)).1
theorem kp__law_edge (c : Cz P w K mg) : PySem.W.keepIn K (.ref (He.ga K "_law_edge")) = true := (Df.open_ (c.told.df 27 (d := d__law_edge) rfl)).1
theorem kp__lots (c : Cz P w K mg) : PySem.W.keepIn K (.ref (He.ga K "_lots")) = true := (Df.open_ (c.told.df 28 (d := d__lots) rfl)).1
theorem kp__packet (c : Cz P w K mg) : PySem.W.keepIn K (.ref (He.ga K "_packet")) = true := (Df.open_ (c.told.df 29 (d := d__packet) rfl)).1
theorem kp__row_break (c : Cz P w K mg) : PySem.W.keepIn K (.ref (He.ga K "_row_break")) = true := (Df.open_ (c.told.df 30 (d := d__row_break) rfl)).1
theorem kp__least_break (c : Cz P w K mg) : PySem.W.keepIn K (.ref (He.ga K "_least_break")) = true := (Df.open_ (c.told.df 31 (d := d__least_break) rfl)).1
theorem kp_Broken___init__ (c : Cz P w K mg) : PySem.W.keepIn K (.ref (He.ma K (He.ga K "Broken") "__init__")) = true := (Df.open_ (c.told.df 32 (d := d_Broken___init__) rfl)).1
theorem kp_Family___init__ (c : Cz P w K mg) : PySem.W.keepIn K (.ref (He.ma K (He.ga K "Family") "__init__")) = true := (Df.open_ (c.told.df 33 (d := d_Family___init__) rfl)).1
theorem kp_OtherShape___init__ (c : Cz P w K mg) : PySem.W.keepIn K (.ref (He.ma K (He.ga K "OtherShape") "__init__")) = true := (Df.open_ (c.told.df 34 (d := d_OtherShape___init__) rfl)).1
theorem kp__like (c : Cz P w K mg) : PySem.W.keepIn K (.ref (He.ga K "_like")) = true := (Df.open_ (c.told.df 35 (d := d__like) rfl)).1
theorem kp__inside (c : Cz P w K mg) : PySem.W.keepIn K (.ref (He.ga K "_inside")) = true := (Df.open_ (c.told.df 36 (d := d__inside) rfl)).1
theorem kp_left_out (c : Cz P w K mg) : PySem.W.keepIn K (.ref (He.ga K "left_out")) = true := (Df.open_ (c.told.df 37 (d := d_left_out) rfl)).1
theorem kp__law_left_told (c : Cz P w K mg) : PySem.W.keepIn K (.ref (He.ga K "_law_left_told")) = true := (Df.open_ (c.told.df 38 (d := d__law_left_told) rfl)).1
theorem kp_break_of (c : Cz P w K mg) : PySem.W.keepIn K (.ref (He.ga K "break_of")) = true := (Df.open_ (c.told.df 39 (d := d_break_of) rfl)).1
theorem kp_keeps (c : Cz P w K mg) : PySem.W.keepIn K (.ref (He.ga K "keeps")) = true := (Df.open_ (c.told.df 40 (d := d_keeps) rfl)).1
theorem kp__law_is (c : Cz P w K mg) : PySem.W.keepIn K (.ref (He.ga K "_law_is")) = true := (Df.open_ (c.told.df 41 (d := d__law_is) rfl)).1
theorem kp__law_left (c : Cz P w K mg) : PySem.W.keepIn K (.ref (He.ga K "_law_left")) = true := (Df.open_ (c.told.df 42 (d := d__law_left) rfl)).1
theorem kp__law_all_left (c : Cz P w K mg) : PySem.W.keepIn K (.ref (He.ga K "_law_all_left")) = true := (Df.open_ (c.told.df 43 (d := d__law_all_left) rfl)).1
theorem kp_BadSet___init__ (c : Cz P w K mg) : PySem.W.keepIn K (.ref (He.ma K (He.ga K "BadSet") "__init__")) = true := (Df.open_ (c.told.df 44 (d := d_BadSet___init__) rfl)).1
theorem kp_check_set (c : Cz P w K mg) : PySem.W.keepIn K (.ref (He.ga K "check_set")) = true := (Df.open_ (c.told.df 45 (d := d_check_set) rfl)).1
theorem kp_restricted (c : Cz P w K mg) : PySem.W.keepIn K (.ref (He.ga K "restricted")) = true := (Df.open_ (c.told.df 46 (d := d_restricted) rfl)).1
theorem kp__law_kept_told (c : Cz P w K mg) : PySem.W.keepIn K (.ref (He.ga K "_law_kept_told")) = true := (Df.open_ (c.told.df 47 (d := d__law_kept_told) rfl)).1
theorem kp_Marks___eq__ (c : Cz P w K mg) : PySem.W.keepIn K (.ref (He.ma K (He.ga K "Marks") "__eq__")) = true := (Df.open_ (c.told.df 48 (d := d_Marks___eq__) rfl)).1
theorem kp_packet_marks (c : Cz P w K mg) : PySem.W.keepIn K (.ref (He.ga K "packet_marks")) = true := (Df.open_ (c.told.df 49 (d := d_packet_marks) rfl)).1
theorem kp__law_inside (c : Cz P w K mg) : PySem.W.keepIn K (.ref (He.ga K "_law_inside")) = true := (Df.open_ (c.told.df 50 (d := d__law_inside) rfl)).1
theorem kp__law_share (c : Cz P w K mg) : PySem.W.keepIn K (.ref (He.ga K "_law_share")) = true := (Df.open_ (c.told.df 51 (d := d__law_share) rfl)).1
theorem kp__law_drawn_set (c : Cz P w K mg) : PySem.W.keepIn K (.ref (He.ga K "_law_drawn_set")) = true := (Df.open_ (c.told.df 52 (d := d__law_drawn_set) rfl)).1
theorem kp__others (c : Cz P w K mg) : PySem.W.keepIn K (.ref (He.ga K "_others")) = true := (Df.open_ (c.told.df 53 (d := d__others) rfl)).1
theorem kp_Marks_unmarked (c : Cz P w K mg) : PySem.W.keepIn K (.ref (He.ma K (He.ga K "Marks") "unmarked")) = true := (Df.open_ (c.told.df 54 (d := d_Marks_unmarked) rfl)).1
theorem kp_Marks_contrary (c : Cz P w K mg) : PySem.W.keepIn K (.ref (He.ma K (He.ga K "Marks") "contrary")) = true := (Df.open_ (c.told.df 55 (d := d_Marks_contrary) rfl)).1
theorem kp_Family_contrary (c : Cz P w K mg) : PySem.W.keepIn K (.ref (He.ma K (He.ga K "Family") "contrary")) = true := (Df.open_ (c.told.df 56 (d := d_Family_contrary) rfl)).1
theorem kp_law (c : Cz P w K mg) : PySem.W.keepIn K (.ref (He.ga K "law")) = true := (Df.open_ (c.told.df 57 (d := d_law) rfl)).1
theorem ex_BadNumber {X : Cx} (c : Cz X.prog X.w X.K X.mg) : ExOk X 176 [50] := by
  obtain ⟨fd, F⟩ := Df.fun_ (c.told.df 17 (d := d_BadNumber___init__) rfl) rfl
  refine ⟨_, fEx_ok (fs := ["name"]) (exf_BadNumber c) F ⟨_, _, _, _, _, rfl, rfl⟩ ?_ fun doc pm an cdv ct kV u vs hl => match vs, hl with | [_], _ => rfl⟩
  exact ⟨fun L a cd x vs hl => match vs, hl with | [v0], _ => fun p hp => by (simp at hp; rcases hp with rfl | rfl <;> rfl), fun L a cd f hf => by (simp at hf; rcases hf with rfl | rfl <;> rfl), fun x vs hl => match vs, hl with | [_], _ => rfl, rfl, rfl, rfl, by decide, by decide, by decide⟩
theorem ex_BadLot {X : Cx} (c : Cz X.prog X.w X.K X.mg) : ExOk X 96 [88] := by
  obtain ⟨fd, F⟩ := Df.fun_ (c.told.df 23 (d := d_BadLot___init__) rfl) rfl
  refine ⟨_, fEx_ok (fs := ["place"]) (exf_BadLot c) F ⟨_, _, _, _, _, rfl, rfl⟩ ?_ fun doc pm an cdv ct kV u vs hl => match vs, hl with | [_], _ => rfl⟩
  exact ⟨fun L a cd x vs hl => match vs, hl with | [v0], _ => fun p hp => by (simp at hp; rcases hp with rfl | rfl <;> rfl), fun L a cd f hf => by (simp at hf; rcases hf with rfl | rfl <;> rfl), fun x vs hl => match vs, hl with | [_], _ => rfl, rfl, rfl, rfl, by decide, by decide, by decide⟩
theorem ex_BadLots {X : Cx} (c : Cz X.prog X.w X.K X.mg) : ExOk X 132 [88] := by
  obtain ⟨fd, F⟩ := Df.fun_ (c.told.df 21 (d := d_BadLots___init__) rfl) rfl
  refine ⟨_, fEx_ok (fs := ["place"]) (exf_BadLots c) F ⟨_, _, _, _, _, rfl, rfl⟩ ?_ fun doc pm an cdv ct kV u vs hl => match vs, hl with | [_], _ => rfl⟩
  exact ⟨fun L a cd x vs hl => match vs, hl with | [v0], _ => fun p hp => by (simp at hp; rcases hp with rfl | rfl <;> rfl), fun L a cd f hf => by (simp at hf; rcases hf with rfl | rfl <;> rfl), fun x vs hl => match vs, hl with | [_], _ => rfl, rfl, rfl, rfl, by decide, by decide, by decide⟩
theorem hdn_BadLot {X : Cx} (c : Cz X.prog X.w X.K X.mg) (hg : Gl X "BadLot") : Names X "BadLot" (.ref (He.ga X.K "BadLot")) := ⟨hg, by decide, .inl (g_BadLot c)⟩
theorem hdy_BadLot {X : Cx} (c : Cz X.prog X.w X.K X.mg) : ∀ i : Nat, ([96] : List Nat).contains i = true → PySem.W.exmOne X.K (.ref (He.ga X.K (nm i))) (.ref (He.ga X.K "BadLot")) = some true := fun i h => by
  have z : i ∈ ([96] : List Nat) := mem_cs h
  simp only [List.mem_cons, List.not_mem_nil, or_false] at z
  rcases z with rfl
  · exact exm_BadLot_BadLot c
theorem hdno_BadLot {X : Cx} (c : Cz X.prog X.w X.K X.mg) : ∀ i : Nat, ([176, 132, 98, 99, 190] : List Nat).contains i = true → PySem.W.exmOne X.K (.ref (He.ga X.K (nm i))) (.ref (He.ga X.K "BadLot")) = some false := fun i h => by
  have z : i ∈ ([176, 132, 98, 99, 190] : List Nat) := mem_cs h
  simp only [List.mem_cons, List.not_mem_nil, or_false] at z
  rcases z with rfl | rfl | rfl | rfl | rfl
  · exact exm_BadNumber_BadLot c
  · exact exm_BadLots_BadLot c
  · exact exm_BadSet_BadLot c
  · exact exm_Broken_BadLot c
  · exact exm_OtherShape_BadLot c
theorem ex_Broken {X : Cx} (c : Cz X.prog X.w X.K X.mg) : ExOk X 99 [47] := by
  obtain ⟨fd, F⟩ := Df.fun_ (c.told.df 32 (d := d_Broken___init__) rfl) rfl
  refine ⟨_, fEx_ok (fs := ["lots"]) (exf_Broken c) F ⟨_, _, _, _, _, rfl, rfl⟩ ?_ fun doc pm an cdv ct kV u vs hl => match vs, hl with | [_], _ => rfl⟩
  exact ⟨fun L a cd x vs hl => match vs, hl with | [v0], _ => fun p hp => by (simp at hp; rcases hp with rfl | rfl <;> rfl), fun L a cd f hf => by (simp at hf; rcases hf with rfl | rfl <;> rfl), fun x vs hl => match vs, hl with | [_], _ => rfl, rfl, rfl, rfl, by decide, by decide, by decide⟩
theorem isok_Family {X : Cx} (c : Cz X.prog X.w X.K X.mg) : IsiOk X is_Family 100 := fun p h => by
  rcases List.mem_cons.mp h with rfl | h
  · exact ⟨isf_Marks c, kit_Marks_Family c⟩
  rcases List.mem_cons.mp h with rfl | h
  · exact ⟨isf_Family c, kit_Family_Family c⟩
  · cases h
theorem ex_OtherShape {X : Cx} (c : Cz X.prog X.w X.K X.mg) : ExOk X 190 [53, 83] := by
  obtain ⟨fd, F⟩ := Df.fun_ (c.told.df 34 (d := d_OtherShape___init__) rfl) rfl
  refine ⟨_, fEx_ok (fs := ["size", "level"]) (exf_OtherShape c) F ⟨_, _, _, _, _, rfl, ⟨_, _, _, _, _, rfl, rfl⟩⟩ ?_ fun doc pm an cdv ct kV u vs hl => match vs, hl with | [_, _], _ => rfl⟩
  exact ⟨fun L a cd x vs hl => match vs, hl with | [v0, v1], _ => fun p hp => by (simp at hp; rcases hp with rfl | rfl | rfl <;> rfl), fun L a cd f hf => by (simp at hf; rcases hf with rfl | rfl | rfl <;> rfl), fun x vs hl => match vs, hl with | [_, _], _ => rfl, rfl, rfl, rfl, by decide, by decide, by decide⟩
theorem xf_BadNumber_name {X : Cx} (c : Cz X.prog X.w X.K X.mg) : XfOk X [176] 50 := fun i h => by
  have z : i ∈ ([176] : List Nat) := mem_cs h
  simp only [List.mem_cons, List.not_mem_nil, or_false] at z
  rcases z with rfl
  · exact xff_BadNumber_name c
theorem hdn_BadNumber {X : Cx} (c : Cz X.prog X.w X.K X.mg) (hg : Gl X "BadNumber") : Names X "BadNumber" (.ref (He.ga X.K "BadNumber")) := ⟨hg, by decide, .inl (g_BadNumber c)⟩
theorem hdy_BadNumber {X : Cx} (c : Cz X.prog X.w X.K X.mg) : ∀ i : Nat, ([176] : List Nat).contains i = true → PySem.W.exmOne X.K (.ref (He.ga X.K (nm i))) (.ref (He.ga X.K "BadNumber")) = some true := fun i h => by
  have z : i ∈ ([176] : List Nat) := mem_cs h
  simp only [List.mem_cons, List.not_mem_nil, or_false] at z
  rcases z with rfl
  · exact exm_BadNumber_BadNumber c
theorem hdno_BadNumber {X : Cx} (c : Cz X.prog X.w X.K X.mg) : ∀ i : Nat, ([96, 132, 98, 99, 190] : List Nat).contains i = true → PySem.W.exmOne X.K (.ref (He.ga X.K (nm i))) (.ref (He.ga X.K "BadNumber")) = some false := fun i h => by
  have z : i ∈ ([96, 132, 98, 99, 190] : List Nat) := mem_cs h
  simp only [List.mem_cons, List.not_mem_nil, or_false] at z
  rcases z with rfl | rfl | rfl | rfl | rfl
  · exact exm_BadLot_BadNumber c
  · exact exm_BadLots_BadNumber c
  · exact exm_BadSet_BadNumber c
  · exact exm_Broken_BadNumber c
  · exact exm_OtherShape_BadNumber c
theorem xf_OtherShape_level {X : Cx} (c : Cz X.prog X.w X.K X.mg) : XfOk X [190] 83 := fun i h => by
  have z : i ∈ ([190] : List Nat) := mem_cs h
  simp only [List.mem_cons, List.not_mem_nil, or_false] at z
  rcases z with rfl
  · exact xff_OtherShape_level c
theorem xf_OtherShape_size {X : Cx} (c : Cz X.prog X.w X.K X.mg) : XfOk X [190] 53 := fun i h => by
  have z : i ∈ ([190] : List Nat) := mem_cs h
  simp only [List.mem_cons, List.not_mem_nil, or_false] at z
  rcases z with rfl
  · exact xff_OtherShape_size c
theorem hdn_OtherShape {X : Cx} (c : Cz X.prog X.w X.K X.mg) (hg : Gl X "OtherShape") : Names X "OtherShape" (.ref (He.ga X.K "OtherShape")) := ⟨hg, by decide, .inl (g_OtherShape c)⟩
theorem hdy_OtherShape {X : Cx} (c : Cz X.prog X.w X.K X.mg) : ∀ i : Nat, ([190] : List Nat).contains i = true → PySem.W.exmOne X.K (.ref (He.ga X.K (nm i))) (.ref (He.ga X.K "OtherShape")) = some true := fun i h => by
  have z : i ∈ ([190] : List Nat) := mem_cs h
  simp only [List.mem_cons, List.not_mem_nil, or_false] at z
  rcases z with rfl
  · exact exm_OtherShape_OtherShape c
theorem hdno_OtherShape {X : Cx} (c : Cz X.prog X.w X.K X.mg) : ∀ i : Nat, ([176, 96, 132, 98, 99] : List Nat).contains i = true → PySem.W.exmOne X.K (.ref (He.ga X.K (nm i))) (.ref (He.ga X.K "OtherShape")) = some false := fun i h => by
  have z : i ∈ ([176, 96, 132, 98, 99] : List Nat) := mem_cs h
  simp only [List.mem_cons, List.not_mem_nil, or_false] at z
  rcases z with rfl | rfl | rfl | rfl | rfl
  · exact exm_BadNumber_OtherShape c
  · exact exm_BadLot_OtherShape c
  · exact exm_BadLots_OtherShape c
  · exact exm_BadSet_OtherShape c
  · exact exm_Broken_OtherShape c
theorem isok_Marks {X : Cx} (c : Cz X.prog X.w X.K X.mg) : IsiOk X is_Marks 62 := fun p h => by
  rcases List.mem_cons.mp h with rfl | h
  · exact ⟨isf_Marks c, kit_Marks_Marks c⟩
  rcases List.mem_cons.mp h with rfl | h
  · exact ⟨isf_Family c, kit_Family_Marks c⟩
  · cases h
theorem ex_BadSet {X : Cx} (c : Cz X.prog X.w X.K X.mg) : ExOk X 98 [88] := by
  obtain ⟨fd, F⟩ := Df.fun_ (c.told.df 44 (d := d_BadSet___init__) rfl) rfl
  refine ⟨_, fEx_ok (fs := ["place"]) (exf_BadSet c) F ⟨_, _, _, _, _, rfl, rfl⟩ ?_ fun doc pm an cdv ct kV u vs hl => match vs, hl with | [_], _ => rfl⟩
  exact ⟨fun L a cd x vs hl => match vs, hl with | [v0], _ => fun p hp => by (simp at hp; rcases hp with rfl | rfl <;> rfl), fun L a cd f hf => by (simp at hf; rcases hf with rfl | rfl <;> rfl), fun x vs hl => match vs, hl with | [_], _ => rfl, rfl, rfl, rfl, by decide, by decide, by decide⟩
theorem xf_BadSet_place {X : Cx} (c : Cz X.prog X.w X.K X.mg) : XfOk X [98] 88 := fun i h => by
  have z : i ∈ ([98] : List Nat) := mem_cs h
  simp only [List.mem_cons, List.not_mem_nil, or_false] at z
  rcases z with rfl
  · exact xff_BadSet_place c
theorem hdn_BadSet {X : Cx} (c : Cz X.prog X.w X.K X.mg) (hg : Gl X "BadSet") : Names X "BadSet" (.ref (He.ga X.K "BadSet")) := ⟨hg, by decide, .inl (g_BadSet c)⟩
theorem hdy_BadSet {X : Cx} (c : Cz X.prog X.w X.K X.mg) : ∀ i : Nat, ([98] : List Nat).contains i = true → PySem.W.exmOne X.K (.ref (He.ga X.K (nm i))) (.ref (He.ga X.K "BadSet")) = some true := fun i h => by
  have z : i ∈ ([98] : List Nat) := mem_cs h
  simp only [List.mem_cons, List.not_mem_nil, or_false] at z
  rcases z with rfl
  · exact exm_BadSet_BadSet c
theorem hdno_BadSet {X : Cx} (c : Cz X.prog X.w X.K X.mg) : ∀ i : Nat, ([176, 96, 132, 99, 190] : List Nat).contains i = true → PySem.W.exmOne X.K (.ref (He.ga X.K (nm i))) (.ref (He.ga X.K "BadSet")) = some false := fun i h => by
  have z : i ∈ ([176, 96, 132, 99, 190] : List Nat) := mem_cs h
  simp only [List.mem_cons, List.not_mem_nil, or_false] at z
  rcases z with rfl | rfl | rfl | rfl | rfl
  · exact exm_BadNumber_BadSet c
  · exact exm_BadLot_BadSet c
  · exact exm_BadLots_BadSet c
  · exact exm_Broken_BadSet c
  · exact exm_OtherShape_BadSet c
end
end KX

set_option Elab.async false
set_option linter.all false
set_option maxRecDepth 100000
set_option maxHeartbeats 0
namespace KX
open PySem PySem.Spec PyProof.Rows L2 DL
def nms0 : List PySem.Str := ["comb", "_wall", "__name__", "PacketsError", "BadNumber", "BadSet", "BadLot", "BadLots", "OtherShape", "Broken", "MOST_THINGS", "is_int", "check_number", "choose", "_check_shape", "_first_wrong", "check_set", "_check_things", "check_lot", "check_lots", "_lots", "_packet", "_row_break", "_least_break", "_others", "_changed", "Marks", "Family", "_like", "_inside"]
def nms1 : List PySem.Str := ["left_out", "restricted", "packet_marks", "break_of", "keeps", "_law_draws", "_law_take", "_law_shape", "_law_edge", "_law_lots", "_law_packet", "_law_turns", "_law_keeps", "_law_may", "_law_climb", "_law_spread", "_law_top", "_law_places", "_law_levels", "_law_below", "_law_others", "_law_family", "_law_marks", "_law_drawn_set", "_law_left", "_law_left_told", "_law_kept_told", "_law_is", "_law_inside", "_law_all_left"]
def nms2 : List PySem.Str := ["_law_share"]
def tops : List PySem.Str := nms0 ++ nms1 ++ nms2
abbrev row : PySem.W.OpenRow := PySem.W.OpenLaw.row PySem.Challenge.rw_packetmarks_k03_things_left_out
abbrev hk : PySem.W.Hook := hookM 6 fxs fns
def ob (s : PySem.W.SharedT) : Lk := lookM 6 fxs fns (HandSHeadRun.getT s)
theorem ob_eq (s : PySem.W.SharedT) : ob s = hk.obs s.abs := lookM_eq (HandSHeadRun.getT_eq s)
theorem run (w : World) : HandSHeadRun.RunEqI row (PySem.W.view row.prog [0, 67]) hk ob 20000 tops w := by
  unfold HandSHeadRun.RunEqI
  kernel_rfl
end KX

set_option Elab.async false
set_option linter.all false
set_option maxRecDepth 100000
set_option maxHeartbeats 4000000
namespace KX
open PySem PySem.Spec PyProof.Rows L2 DL
section
variable {P : Program} {w : World} {K : PySem.W.Frag} {mg : Str → Option Value} {base : Heap}
theorem ok__law_draws {fd : FuncData} (F : FunD K d__law_draws.name d__law_draws.qual d__law_draws.params d__law_draws.body d__law_draws.scope (d__law_draws.dfl.map (He.Dv.v K)) [] (He.ga K "_law_draws") fd) (c : Cz P w K mg) : FnOk P w K mg base (L2.CX P w) 2 (He.ga K "_law_draws") fd ["_law_script"] (SpD ⟨K, P, w, []⟩ 1 none true m__law_draws) := by
  refine fnD (N := n__law_draws) (ps := ["_law_script"]) (k := 1) (ms := ⟨[1], []⟩) (io := none) (fr := true) (g := b__law_draws) F (fscB_ok (by decide +kernel)) (msB_ok (by decide)) (by decide) ?_
  intro cdv A outer s H E hr
  exact (dss_cons (ds_setF 1 (df_lst da_nil) n_nd__law_draws)
  (dss_cons (ds_set 2 de_int n_nd__law_draws)
  (dss_cons (ds_for 3 (di_rng1 rfl (f_range c) (de_callB (call_min2 rfl) pu_min2 rfl (f_min c) (by first | rfl | kernel_rfl) (da_cons (de_call1B call_len_seq pu_len rfl (f_len c) (by first | rfl | kernel_rfl) (DE.dk (de_var 0))) (da_cons de_int da_nil)))) (dss_cons (ds_set 4 (de_call1T call_int1 pu_int rfl (f_int c) (by first | rfl | kernel_rfl) (DE.dk (de_ix (de_var 0) (DE.dk (de_var 3))))) n_nd__law_draws)
  (dss_cons (ds_if (dt_cmp (op_ltD hr.units) pu_lt (de_var 4) (DE.dk de_int))
  (dss_one (ds_set 4 (de_op op_sub pu_sub de_int (DE.dk (de_op op_mul pu_mulI de_int (DE.dk (de_var 4))))) n_nd__law_draws))
  dss_nil)
  (dss_one (ds_if (dt_cmp op_ge pu_geI (de_var 4) (DE.dk (de_op op_pow pu_pow de_int (DE.dk de_int))))
  (dss_one (ds_for 5 (di_rng1 rfl (f_range c) de_int) (dss_one (ds_if (dt_cmp op_gt pu_gtI (de_var 4) (DE.dk de_int))
  (dss_cons (ds_expr (de_append 1 (de_op op_modN pu_mod (de_call1T call_int1 pu_int rfl (f_int c) (by first | rfl | kernel_rfl) (DE.dk (de_var 4))) (DE.dk de_int))))
  (dss_one (ds_set 4 (de_op op_fdivN pu_fdiv (de_var 4) (DE.dk de_int)) n_nd__law_draws)))
  dss_nil)) ownsD rfl n_nd__law_draws))
  (dss_cons (ds_set 2 (de_op op_modN pu_mod (de_call1T call_int1 pu_int rfl (f_int c) (by first | rfl | kernel_rfl) (DE.dk (de_op op_addA pu_add (de_op op_addA pu_add (de_op op_mul pu_mulI (de_var 2) (DE.dk de_int)) (DE.dk (de_op op_mul pu_mulI (de_var 4) (DE.dk de_int)))) (DE.dk (de_var 3))))) (DE.dk de_int)) n_nd__law_draws)
  (dss_one (ds_for 5 (di_rng1 rfl (f_range c) de_int) (dss_cons (ds_set 2 (de_op op_modN pu_mod (de_call1T call_int1 pu_int rfl (f_int c) (by first | rfl | kernel_rfl) (DE.dk (de_op op_addA pu_add (de_op op_addA pu_add (de_op op_addA pu_add (de_op op_mul pu_mulI (de_var 2) (DE.dk (de_var 2))) (DE.dk (de_op op_mul pu_mulI de_int (DE.dk (de_var 5))))) (DE.dk (de_var 3))) (DE.dk de_int)))) (DE.dk de_int)) n_nd__law_draws)
  (dss_one (ds_expr (de_append 1 (de_op op_modN pu_mod (de_call1T call_int1 pu_int rfl (f_int c) (by first | rfl | kernel_rfl) (DE.dk (de_op op_fdivN pu_fdiv (de_var 2) (DE.dk de_int)))) (DE.dk de_int)))))) ownsD rfl n_nd__law_draws))))))) ownsD rfl n_nd__law_draws)
  (dss_cons (ds_expr (de_reverse 1))
  (dss_one (ds_retMu (e := .Name "" ⟨0, 0, 0, 0⟩) 1))))))
theorem k__law_draws (c : Cz P w K mg) : FnR P w K mg base (L2.CX P w) 2 (He.ga K "_law_draws") (SpD ⟨K, P, w, []⟩ 1 none true m__law_draws) := by
  obtain ⟨fd, F⟩ := Df.fun_ (c.told.df 0 (d := d__law_draws) rfl) rfl
  exact fnR_all (ok__law_draws F c) (F.bindsN fun _ _ _ _ _ _ us hl => match us, hl with | [_], _ => rfl)
theorem ok__law_take {fd : FuncData} (F : FunD K d__law_take.name d__law_take.qual d__law_take.params d__law_take.body d__law_take.scope (d__law_take.dfl.map (He.Dv.v K)) [] (He.ga K "_law_take") fd) (c : Cz P w K mg) : FnOk P w K mg base (L2.CX P w) 2 (He.ga K "_law_take") fd ["_law_draws_here", "_law_many"] (SpD ⟨K, P, w, []⟩ 2 (some 0) false m__law_take) := by
  refine fnD (N := n__law_take) (ps := ["_law_draws_here", "_law_many"]) (k := 1) (ms := ⟨[0], [0]⟩) (io := (some 0)) (fr := false) (g := b__law_take) F (fscB_ok (by decide +kernel)) (msB_ok (by decide)) (by decide) ?_
  intro cdv A outer s H E hr
  exact (dss_cons (ds_if (DW.dt (dw_or (dt_cmp (op_ltD hr.units) pu_lt (de_var 1) (DE.dk de_int)) (dw_or1 (dt_cmp (op_eqD hr.units) pu_eq (de_call1B call_len_seq pu_len rfl (f_len c) (by first | rfl | kernel_rfl) (dk_var 0)) (DE.dk de_int)))))
  (dss_one (ds_ret de_int))
  dss_nil)
  (dss_one (ds_ret (de_op op_modN pu_mod (de_call1T call_int1 pu_int rfl (f_int c) (by first | rfl | kernel_rfl) (DE.dk (de_pop 0))) (DE.dk (de_var 1))))))
theorem k__law_take (c : Cz P w K mg) : FnR P w K mg base (L2.CX P w) 2 (He.ga K "_law_take") (SpD ⟨K, P, w, []⟩ 2 (some 0) false m__law_take) := by
  obtain ⟨fd, F⟩ := Df.fun_ (c.told.df 1 (d := d__law_take) rfl) rfl
  exact fnR_all (ok__law_take F c) (F.bindsN fun _ _ _ _ _ _ us hl => match us, hl with | [_, _], _ => rfl)
theorem ok__law_shape {fd : FuncData} (F : FunD K d__law_shape.name d__law_shape.qual d__law_shape.params d__law_shape.body d__law_shape.scope (d__law_shape.dfl.map (He.Dv.v K)) [] (He.ga K "_law_shape") fd) (c : Cz P w K mg) : FnOk P w K mg base (L2.CX P w) 3 (He.ga K "_law_shape") fd ["_law_draws_here"] (SpD ⟨K, P, w, []⟩ 1 (some 0) false m__law_shape) := by
  refine fnD (N := n__law_shape) (ps := ["_law_draws_here"]) (k := 2) (ms := ⟨[0], [0]⟩) (io := (some 0)) (fr := false) (g := b__law_shape) F (fscB_ok (by decide +kernel)) (msB_ok (by decide)) (by decide) ?_
  intro cdv A outer s H E hr
  exact (dss_cons (ds_set 1 (DF.de (df_lst (da_const 3 (by kernel_rfl)))) n_nd__law_shape)
  (dss_cons (ds_set 1 (DF.de (df_op op_cat pu_cat (de_var 1) (DE.dk (DF.de (df_lst (da_const 3 (by kernel_rfl))))))) n_nd__law_shape)
  (dss_one (ds_ret (de_ix (de_var 1) (DE.dk (de_callIo 0 (k__law_take c) (Room.mono hr (by decide : 2 ≤ 2)) rfl (g__law_take c) (kp__law_take c) takesD (da_cons de_int da_nil))))))))
theorem k__law_shape (c : Cz P w K mg) : FnR P w K mg base (L2.CX P w) 3 (He.ga K "_law_shape") (SpD ⟨K, P, w, []⟩ 1 (some 0) false m__law_shape) := by
  obtain ⟨fd, F⟩ := Df.fun_ (c.told.df 2 (d := d__law_shape) rfl) rfl
  exact fnR_all (ok__law_shape F c) (F.bindsN fun _ _ _ _ _ _ us hl => match us, hl with | [_], _ => rfl)
theorem ok__law_lots {fd : FuncData} (F : FunD K d__law_lots.name d__law_lots.qual d__law_lots.params d__law_lots.body d__law_lots.scope (d__law_lots.dfl.map (He.Dv.v K)) [] (He.ga K "_law_lots") fd) (c : Cz P w K mg) : FnOk P w K mg base (L2.CX P w) 2 (He.ga K "_law_lots") fd ["_law_size", "_law_level"] (SpD ⟨K, P, w, []⟩ 2 none false m__law_lots) := by
  refine fnD (N := n__law_lots) (ps := ["_law_size", "_law_level"]) (k := 1) (ms := ⟨[4], []⟩) (io := none) (fr := false) (g := b__law_lots) F (fscB_ok (by decide +kernel)) (msB_ok (by decide)) (by decide) ?_
  intro cdv A outer s H E hr
  exact (dss_cons (ds_set 2 (DF.de (df_lst (da_cons (DF.de (df_lst da_nil)) da_nil))) n_nd__law_lots)
  (dss_cons (ds_for 3 (di_rng1 rfl (f_range c) (de_var 1)) (dss_cons (ds_setF 4 (df_lst da_nil) n_nd__law_lots)
  (dss_cons (ds_for 5 (di_seq (de_var 2)) (dss_cons (ds_set 6 de_int n_nd__law_lots)
  (dss_cons (ds_if (dt_cmp op_gt pu_gtI (de_call1B call_len_seq pu_len rfl (f_len c) (by first | rfl | kernel_rfl) (DE.dk (de_var 5))) (DE.dk de_int))
  (dss_one (ds_set 6 (de_op op_addA pu_add (de_ix (de_var 5) (DE.dk (de_op op_sub pu_sub (de_call1B call_len_seq pu_len rfl (f_len c) (by first | rfl | kernel_rfl) (DE.dk (de_var 5))) (DE.dk de_int)))) (DE.dk de_int)) n_nd__law_lots))
  dss_nil)
  (dss_one (ds_for 7 (di_rng2 rfl (f_range c) (de_var 6) (de_var 0)) (dss_one (ds_expr (de_append 4 (DF.de (df_op op_cat pu_cat (de_var 5) (DE.dk (DF.de (df_lst (da_cons (de_var 7) da_nil))))))))) ownsD rfl n_nd__law_lots)))) ownsD rfl n_nd__law_lots)
  (dss_one (ds_set 2 (DF.de (df_call1T call_list_of pu_list rfl (f_list c) (by first | rfl | kernel_rfl) (dk_var 4))) n_nd__law_lots)))) ownsD rfl n_nd__law_lots)
  (dss_one (ds_ret (DF.de (df_lc 5 (di_seq (de_var 2)) dts_nil (fun s0 H0 C cl fp => (de_call1T call_tuple_of pu_tuple rfl (f_tuple c) (by first | rfl | kernel_rfl) (DE.dk (de_var 5)))) rfl n_nd__law_lots (blkB_ok rfl) (fun s0 H0 C cl fp => pg_name n_nd__law_lots (i := 5) rfl (by first | exact Or.inl rfl | exact Or.inr rfl))))))))
theorem k__law_lots (c : Cz P w K mg) : FnR P w K mg base (L2.CX P w) 2 (He.ga K "_law_lots") (SpD ⟨K, P, w, []⟩ 2 none false m__law_lots) := by
  obtain ⟨fd, F⟩ := Df.fun_ (c.told.df 3 (d := d__law_lots) rfl) rfl
  exact fnR_all (ok__law_lots F c) (F.bindsN fun _ _ _ _ _ _ us hl => match us, hl with | [_, _], _ => rfl)
theorem ok__law_turns {fd : FuncData} (F : FunD K d__law_turns.name d__law_turns.qual d__law_turns.params d__law_turns.body d__law_turns.scope (d__law_turns.dfl.map (He.Dv.v K)) [] (He.ga K "_law_turns") fd) (c : Cz P w K mg) : FnOk P w K mg base (L2.CX P w) 2 (He.ga K "_law_turns") fd ["_law_row"] (SpD ⟨K, P, w, []⟩ 1 none false m__law_turns) := by
  refine fnD (N := n__law_turns) (ps := ["_law_row"]) (k := 1) (ms := ⟨[], []⟩) (io := none) (fr := false) (g := b__law_turns) F (fscB_ok (by decide +kernel)) (msB_ok (by decide)) (by decide) ?_
  intro cdv A outer s H E hr
  exact (dss_cons (ds_set 1 de_int n_nd__law_turns)
  (dss_cons (ds_for 2 (di_rng2 rfl (f_range c) de_int (de_call1B call_len_seq pu_len rfl (f_len c) (by first | rfl | kernel_rfl) (DE.dk (de_var 0)))) (dss_one (ds_if (dt_cmp (op_neD hr.units) pu_ne (de_ix (de_var 0) (DE.dk (de_var 2))) (DE.dk (de_ix (de_var 0) (DE.dk (de_op op_sub pu_sub (de_var 2) (DE.dk de_int))))))
  (dss_one (ds_augI ip_add 1 de_int n_nd__law_turns))
  dss_nil)) ownsD rfl n_nd__law_turns)
  (dss_one (ds_ret (de_var 1)))))
theorem k__law_turns (c : Cz P w K mg) : FnR P w K mg base (L2.CX P w) 2 (He.ga K "_law_turns") (SpD ⟨K, P, w, []⟩ 1 none false m__law_turns) := by
  obtain ⟨fd, F⟩ := Df.fun_ (c.told.df 4 (d := d__law_turns) rfl) rfl
  exact fnR_all (ok__law_turns F c) (F.bindsN fun _ _ _ _ _ _ us hl => match us, hl with | [_], _ => rfl)
theorem ok__law_packet {fd : FuncData} (F : FunD K d__law_packet.name d__law_packet.qual d__law_packet.params d__law_packet.body d__law_packet.scope (d__law_packet.dfl.map (He.Dv.v K)) [] (He.ga K "_law_packet") fd) (c : Cz P w K mg) : FnOk P w K mg base (L2.CX P w) 2 (He.ga K "_law_packet") fd ["_law_things"] (SpD ⟨K, P, w, []⟩ 1 none true m__law_packet) := by
  refine fnD (N := n__law_packet) (ps := ["_law_things"]) (k := 1) (ms := ⟨[1], []⟩) (io := none) (fr := true) (g := b__law_packet) F (fscB_ok (by decide +kernel)) (msB_ok (by decide)) (by decide) ?_
  intro cdv A outer s H E hr
  exact (dss_cons (ds_setF 1 (df_lst da_nil) n_nd__law_packet)
  (dss_cons (ds_for 2 (di_rng1 rfl (f_range c) (de_call1B call_len_seq pu_len rfl (f_len c) (by first | rfl | kernel_rfl) (DE.dk (de_var 0)))) (dss_cons (ds_set 3 (de_op op_sub pu_sub (de_op op_sub pu_sub (de_call1B call_len_seq pu_len rfl (f_len c) (by first | rfl | kernel_rfl) (DE.dk (de_var 0))) (DE.dk de_int)) (DE.dk (de_var 2))) n_nd__law_packet)
  (dss_one (ds_expr (de_append 1 (de_op op_addA pu_add (de_call1T call_tuple_of pu_tuple rfl (f_tuple c) (by first | rfl | kernel_rfl) (DE.dk (de_slice (de_var 0) dp_none (dp_some (de_var 3))))) (DE.dk (de_call1T call_tuple_of pu_tuple rfl (f_tuple c) (by first | rfl | kernel_rfl) (DE.dk (de_slice (de_var 0) (dp_some (de_op op_addA pu_add (de_var 3) (DE.dk de_int))) dp_none))))))))) ownsD rfl n_nd__law_packet)
  (dss_one (ds_retMu (e := .Name "" ⟨0, 0, 0, 0⟩) 1))))
theorem k__law_packet (c : Cz P w K mg) : FnR P w K mg base (L2.CX P w) 2 (He.ga K "_law_packet") (SpD ⟨K, P, w, []⟩ 1 none true m__law_packet) := by
  obtain ⟨fd, F⟩ := Df.fun_ (c.told.df 5 (d := d__law_packet) rfl) rfl
  exact fnR_all (ok__law_packet F c) (F.bindsN fun _ _ _ _ _ _ us hl => match us, hl with | [_], _ => rfl)
theorem ok__law_may {fd : FuncData} (F : FunD K d__law_may.name d__law_may.qual d__law_may.params d__law_may.body d__law_may.scope (d__law_may.dfl.map (He.Dv.v K)) [] (He.ga K "_law_may") fd) (c : Cz P w K mg) : FnOk P w K mg base (L2.CX P w) 3 (He.ga K "_law_may") fd ["_law_size", "_law_marked", "_law_lot"] (SpD ⟨K, P, w, []⟩ 3 none false m__law_may) := by
  refine fnD (N := n__law_may) (ps := ["_law_size", "_law_marked", "_law_lot"]) (k := 2) (ms := ⟨[], []⟩) (io := none) (fr := false) (g := b__law_may) F (fscB_ok (by decide +kernel)) (msB_ok (by decide)) (by decide) ?_
  intro cdv A outer s H E hr
  exact (dss_cons (ds_for 3 (di_rng1 rfl (f_range c) (de_var 0)) (dss_one (ds_if (dt_cmp (op_notInA (units1 hr)) pu_notIn (de_var 3) (DE.dk (de_var 2)))
  (dss_cons (ds_set 4 (de_call1T call_tuple_of pu_tuple rfl (f_tuple c) (by first | rfl | kernel_rfl) (DE.dk (DF.de (df_call1B (cr_sortedD hr.units) pu_sorted rfl (f_sorted c) (by first | rfl | kernel_rfl) (DE.dk (DF.de (df_op op_cat pu_cat (DF.de (df_call1T call_list_of pu_list rfl (f_list c) (by first | rfl | kernel_rfl) (DE.dk (de_var 2)))) (DE.dk (DF.de (df_lst (da_cons (de_var 3) da_nil))))))))))) n_nd__law_may)
  (dss_cons (tmS_lc 6 5 (di_seq (DF.de (df_call (k__law_packet c) (Room.mono hr (by decide : 2 ≤ 2)) rfl (g__law_packet c) (kp__law_packet c) takesD (da_cons (de_var 4) da_nil)))) dts_nil (fun s0 H0 C cl fp => (de_cmp (op_neD hr.units) pu_ne (de_cmp (op_inA (units1 hr)) pu_in (de_var 5) (DE.dk (de_var 1))) (DE.dk (de_cmp (op_eqD hr.units) pu_eq (de_var 5) (DE.dk (de_var 2)))))) rfl n_nd__law_may (blkB_ok rfl) (fun s0 H0 C cl fp => pg_name n_nd__law_may (i := 5) rfl (by first | exact Or.inl rfl | exact Or.inr rfl)))
  (dss_one (ds_if (dt_cmp op_gt pu_gtI (de_call (k__law_turns c) (Room.mono hr (by decide : 2 ≤ 2)) rfl (g__law_turns c) (kp__law_turns c) takesD (da_cons (de_var 6) da_nil)) (DE.dk de_int))
  (dss_one (ds_ret de_bl))
  dss_nil))))
  dss_nil)) ownsD rfl n_nd__law_may)
  (dss_one (ds_ret de_bl)))
theorem k__law_may (c : Cz P w K mg) : FnR P w K mg base (L2.CX P w) 3 (He.ga K "_law_may") (SpD ⟨K, P, w, []⟩ 3 none false m__law_may) := by
  obtain ⟨fd, F⟩ := Df.fun_ (c.told.df 6 (d := d__law_may) rfl) rfl
  exact fnR_all (ok__law_may F c) (F.bindsN fun _ _ _ _ _ _ us hl => match us, hl with | [_, _, _], _ => rfl)
theorem ok__law_climb {fd : FuncData} (F : FunD K d__law_climb.name d__law_climb.qual d__law_climb.params d__law_climb.body d__law_climb.scope (d__law_climb.dfl.map (He.Dv.v K)) [] (He.ga K "_law_climb") fd) (c : Cz P w K mg) : FnOk P w K mg base (L2.CX P w) 4 (He.ga K "_law_climb") fd ["_law_draws_here", "_law_size", "_law_level"] (SpD ⟨K, P, w, []⟩ 3 (some 0) true m__law_climb) := by
  refine fnD (N := n__law_climb) (ps := ["_law_draws_here", "_law_size", "_law_level"]) (k := 3) (ms := ⟨[0, 4], [0]⟩) (io := (some 0)) (fr := true) (g := b__law_climb) F (fscB_ok (by decide +kernel)) (msB_ok (by decide)) (by decide) ?_
  intro cdv A outer s H E hr
  exact (dss_cons (ds_set 3 (de_call (k__law_lots c) (Room.mono hr (by decide : 2 ≤ 3)) rfl (g__law_lots c) (kp__law_lots c) takesD (da_cons (de_var 1) (da_cons (de_var 2) da_nil))) n_nd__law_climb)
  (dss_cons (ds_setF 4 (df_lst da_nil) n_nd__law_climb)
  (dss_cons (ds_for 5 (di_rng1 rfl (f_range c) (de_callIo 0 (k__law_take c) (Room.mono hr (by decide : 2 ≤ 3)) rfl (g__law_take c) (kp__law_take c) takesD (da_cons (de_callB (call_min2 rfl) pu_min2 rfl (f_min c) (by first | rfl | kernel_rfl) (da_cons de_int (da_cons (de_op op_addA pu_add (de_call1B call_len_seq pu_len rfl (f_len c) (by first | rfl | kernel_rfl) (DE.dk (de_var 3))) (DE.dk de_int)) da_nil))) da_nil))) (dss_cons (ds_set 6 (de_callIo 0 (k__law_take c) (Room.mono hr (by decide : 2 ≤ 3)) rfl (g__law_take c) (kp__law_take c) takesD (da_cons (de_callB (call_min2 rfl) pu_min2 rfl (f_min c) (by first | rfl | kernel_rfl) (da_cons de_int (da_cons (de_call1B call_len_seq pu_len rfl (f_len c) (by first | rfl | kernel_rfl) (DE.dk (de_var 3))) da_nil))) da_nil)) n_nd__law_climb)
  (dss_cons (ds_set 7 de_bl n_nd__law_climb)
  (dss_one (ds_for 8 (di_rng1 rfl (f_range c) (de_call1B call_len_seq pu_len rfl (f_len c) (by first | rfl | kernel_rfl) (DE.dk (de_var 3)))) (dss_cons (ds_set 9 (de_ix (de_var 3) (DE.dk (de_op op_modN pu_mod (de_call1T call_int1 pu_int rfl (f_int c) (by first | rfl | kernel_rfl) (DE.dk (de_op op_addA pu_add (de_var 6) (DE.dk (de_var 8))))) (DE.dk (de_call1B call_len_seq pu_len rfl (f_len c) (by first | rfl | kernel_rfl) (DE.dk (de_var 3))))))) n_nd__law_climb)
  (dss_one (ds_if (DW.dt (dw_and (dt_not (dt_tru (DE.dk (de_var 7)))) (dw_and (dt_cmp (op_notInA (units1 hr)) pu_notIn (de_var 9) (dk_var 4)) (dw_and1 (dt_val (de_callRo (k__law_may c) (Room.mono hr (by decide : 3 ≤ 3)) rfl (g__law_may c) (kp__law_may c) takesD (da0_cons (de_var 1) (da0_own 4 (da0_cons (de_var 9) da0_nil)))))))))
  (dss_cons (ds_expr (de_append 4 (de_var 9)))
  (dss_one (ds_set 7 de_bl n_nd__law_climb)))
  dss_nil))) ownsD rfl n_nd__law_climb)))) ownsD rfl n_nd__law_climb)
  (dss_one (ds_retF (df_call1B (cr_sortedD hr.units) pu_sorted rfl (f_sorted c) (by first | rfl | kernel_rfl) (dk_var 4)))))))
theorem k__law_climb (c : Cz P w K mg) : FnR P w K mg base (L2.CX P w) 4 (He.ga K "_law_climb") (SpD ⟨K, P, w, []⟩ 3 (some 0) true m__law_climb) := by
  obtain ⟨fd, F⟩ := Df.fun_ (c.told.df 7 (d := d__law_climb) rfl) rfl
  exact fnR_all (ok__law_climb F c) (F.bindsN fun _ _ _ _ _ _ us hl => match us, hl with | [_, _, _], _ => rfl)
theorem ok__law_places {fd : FuncData} (F : FunD K d__law_places.name d__law_places.qual d__law_places.params d__law_places.body d__law_places.scope (d__law_places.dfl.map (He.Dv.v K)) [] (He.ga K "_law_places") fd) (c : Cz P w K mg) : FnOk P w K mg base (L2.CX P w) 3 (He.ga K "_law_places") fd ["_law_draws_here", "_law_size"] (SpD ⟨K, P, w, []⟩ 2 (some 0) true m__law_places) := by
  refine fnD (N := n__law_places) (ps := ["_law_draws_here", "_law_size"]) (k := 2) (ms := ⟨[0, 2], [0]⟩) (io := (some 0)) (fr := true) (g := b__law_places) F (fscB_ok (by decide +kernel)) (msB_ok (by decide)) (by decide) ?_
  intro cdv A outer s H E hr
  exact (dss_cons (ds_setF 2 (df_lst da_nil) n_nd__law_places)
  (dss_cons (ds_set 3 (de_op op_sub pu_sub (de_callIo 0 (k__law_take c) (Room.mono hr (by decide : 2 ≤ 2)) rfl (g__law_take c) (kp__law_take c) takesD (da_cons de_int da_nil)) (DE.dk de_int)) n_nd__law_places)
  (dss_cons (ds_for 4 (di_rng1 rfl (f_range c) (de_var 1)) (dss_cons (ds_expr (de_append 2 (de_var 3)))
  (dss_one (ds_set 3 (de_op op_addA pu_add (de_op op_addA pu_add (de_var 3) (DE.dk de_int)) (DE.dk (de_callIo 0 (k__law_take c) (Room.mono hr (by decide : 2 ≤ 2)) rfl (g__law_take c) (kp__law_take c) takesD (da_cons de_int da_nil)))) n_nd__law_places))) ownsD rfl n_nd__law_places)
  (dss_one (ds_retMu (e := .Name "" ⟨0, 0, 0, 0⟩) 2)))))
theorem k__law_places (c : Cz P w K mg) : FnR P w K mg base (L2.CX P w) 3 (He.ga K "_law_places") (SpD ⟨K, P, w, []⟩ 2 (some 0) true m__law_places) := by
  obtain ⟨fd, F⟩ := Df.fun_ (c.told.df 8 (d := d__law_places) rfl) rfl
  exact fnR_all (ok__law_places F c) (F.bindsN fun _ _ _ _ _ _ us hl => match us, hl with | [_, _], _ => rfl)
theorem ok__law_spread {fd : FuncData} (F : FunD K d__law_spread.name d__law_spread.qual d__law_spread.params d__law_spread.body d__law_spread.scope (d__law_spread.dfl.map (He.Dv.v K)) [] (He.ga K "_law_spread") fd) (c : Cz P w K mg) : FnOk P w K mg base (L2.CX P w) 2 (He.ga K "_law_spread") fd ["_law_things", "_law_places_here"] (SpD ⟨K, P, w, []⟩ 2 none false m__law_spread) := by
  refine fnD (N := n__law_spread) (ps := ["_law_things", "_law_places_here"]) (k := 1) (ms := ⟨[], []⟩) (io := none) (fr := false) (g := b__law_spread) F (fscB_ok (by decide +kernel)) (msB_ok (by decide)) (by decide) ?_
  intro cdv A outer s H E hr
  exact (dss_cons (ds_set 2 de_int n_nd__law_spread)
  (dss_cons (ds_for 3 (di_rng1 rfl (f_range c) (de_call1B call_len_seq pu_len rfl (f_len c) (by first | rfl | kernel_rfl) (DE.dk (de_var 0)))) (dss_one (ds_for 4 (di_rng1 rfl (f_range c) (de_var 3)) (dss_one (ds_set 2 (de_op op_mul pu_mulI (de_var 2) (DE.dk (de_op op_sub pu_sub (de_ix (de_var 1) (DE.dk (de_ix (de_var 0) (DE.dk (de_var 3))))) (DE.dk (de_ix (de_var 1) (DE.dk (de_ix (de_var 0) (DE.dk (de_var 4))))))))) n_nd__law_spread)) ownsD rfl n_nd__law_spread)) ownsD rfl n_nd__law_spread)
  (dss_one (ds_ret (de_var 2)))))
theorem k__law_spread (c : Cz P w K mg) : FnR P w K mg base (L2.CX P w) 2 (He.ga K "_law_spread") (SpD ⟨K, P, w, []⟩ 2 none false m__law_spread) := by
  obtain ⟨fd, F⟩ := Df.fun_ (c.told.df 9 (d := d__law_spread) rfl) rfl
  exact fnR_all (ok__law_spread F c) (F.bindsN fun _ _ _ _ _ _ us hl => match us, hl with | [_, _], _ => rfl)
theorem ok__law_top {fd : FuncData} (F : FunD K d__law_top.name d__law_top.qual d__law_top.params d__law_top.body d__law_top.scope (d__law_top.dfl.map (He.Dv.v K)) [] (He.ga K "_law_top") fd) (c : Cz P w K mg) : FnOk P w K mg base (L2.CX P w) 3 (He.ga K "_law_top") fd ["_law_lot", "_law_places_here", "_law_levels_here"] (SpD ⟨K, P, w, []⟩ 3 none false m__law_top) := by
  refine fnD (N := n__law_top) (ps := ["_law_lot", "_law_places_here", "_law_levels_here"]) (k := 2) (ms := ⟨[], []⟩) (io := none) (fr := false) (g := b__law_top) F (fscB_ok (by decide +kernel)) (msB_ok (by decide)) (by decide) ?_
  intro cdv A outer s H E hr
  exact (dss_cons (ds_set 3 de_int n_nd__law_top)
  (dss_cons (ds_set 4 de_int n_nd__law_top)
  (dss_cons (ds_for 5 (di_rng1 rfl (f_range c) (de_call1B call_len_seq pu_len rfl (f_len c) (by first | rfl | kernel_rfl) (DE.dk (de_var 0)))) (dss_cons (ds_set 6 (de_op op_sub pu_sub (de_op op_sub pu_sub (de_call1B call_len_seq pu_len rfl (f_len c) (by first | rfl | kernel_rfl) (DE.dk (de_var 0))) (DE.dk de_int)) (DE.dk (de_var 5))) n_nd__law_top)
  (dss_cons (ds_set 7 (de_op op_addA pu_add (de_call1T call_tuple_of pu_tuple rfl (f_tuple c) (by first | rfl | kernel_rfl) (DE.dk (de_slice (de_var 0) dp_none (dp_some (de_var 6))))) (DE.dk (de_call1T call_tuple_of pu_tuple rfl (f_tuple c) (by first | rfl | kernel_rfl) (DE.dk (de_slice (de_var 0) (dp_some (de_op op_addA pu_add (de_var 6) (DE.dk de_int))) dp_none))))) n_nd__law_top)
  (dss_cons (ds_set 3 (de_op op_addA pu_add (de_var 3) (DE.dk (de_op op_mul pu_mulI (de_op op_mul pu_mulI (de_var 4) (DE.dk (de_ix (de_var 2) (DE.dk (de_ix (de_var 0) (DE.dk (de_var 6))))))) (DE.dk (de_call (k__law_spread c) (Room.mono hr (by decide : 2 ≤ 2)) rfl (g__law_spread c) (kp__law_spread c) takesD (da_cons (de_var 7) (da_cons (de_var 1) da_nil))))))) n_nd__law_top)
  (dss_one (ds_set 4 (de_un un_neg pu_neg (DE.dk (de_var 4))) n_nd__law_top))))) ownsD rfl n_nd__law_top)
  (dss_one (ds_ret (de_var 3))))))
theorem k__law_top (c : Cz P w K mg) : FnR P w K mg base (L2.CX P w) 3 (He.ga K "_law_top") (SpD ⟨K, P, w, []⟩ 3 none false m__law_top) := by
  obtain ⟨fd, F⟩ := Df.fun_ (c.told.df 10 (d := d__law_top) rfl) rfl
  exact fnR_all (ok__law_top F c) (F.bindsN fun _ _ _ _ _ _ us hl => match us, hl with | [_, _, _], _ => rfl)
theorem ok__law_below {fd : FuncData} (F : FunD K d__law_below.name d__law_below.qual d__law_below.params d__law_below.body d__law_below.scope (d__law_below.dfl.map (He.Dv.v K)) [] (He.ga K "_law_below") fd) (c : Cz P w K mg) : FnOk P w K mg base (L2.CX P w) 4 (He.ga K "_law_below") fd ["_law_size", "_law_level", "_law_places_here", "_law_levels_here"] (SpD ⟨K, P, w, []⟩ 4 none true m__law_below) := by
  refine fnD (N := n__law_below) (ps := ["_law_size", "_law_level", "_law_places_here", "_law_levels_here"]) (k := 3) (ms := ⟨[], []⟩) (io := none) (fr := true) (g := b__law_below) F (fscB_ok (by decide +kernel)) (msB_ok (by decide)) (by decide) ?_
  intro cdv A outer s H E hr
  exact (dss_one (ds_retF (df_lc 4 (di_seq (de_call (k__law_lots c) (Room.mono hr (by decide : 2 ≤ 3)) rfl (g__law_lots c) (kp__law_lots c) takesD (da_cons (de_var 0) (da_cons (de_var 1) da_nil)))) (dts_one rfl (fun s0 H0 C cl fp => (dt_cmp (op_ltD hr.units) pu_lt (de_call (k__law_top c) (Room.mono hr (by decide : 3 ≤ 3)) rfl (g__law_top c) (kp__law_top c) takesF (da_cons (de_var 4) (da_cons (de_var 2) (da_cons (de_var 3) da_nil)))) (DE.dk de_int)))) (fun s0 H0 C cl fp => (de_var 4)) rfl n_nd__law_below (blkB_ok rfl) (fun s0 H0 C cl fp => pg_name n_nd__law_below (i := 4) rfl (by first | exact Or.inl rfl | exact Or.inr rfl)))))
theorem k__law_below (c : Cz P w K mg) : FnR P w K mg base (L2.CX P w) 4 (He.ga K "_law_below") (SpD ⟨K, P, w, []⟩ 4 none true m__law_below) := by
  obtain ⟨fd, F⟩ := Df.fun_ (c.told.df 11 (d := d__law_below) rfl) rfl
  exact fnR_all (ok__law_below F c) (F.bindsN fun _ _ _ _ _ _ us hl => match us, hl with | [_, _, _, _], _ => rfl)
theorem ok__law_others {fd : FuncData} (F : FunD K d__law_others.name d__law_others.qual d__law_others.params d__law_others.body d__law_others.scope (d__law_others.dfl.map (He.Dv.v K)) [] (He.ga K "_law_others") fd) (c : Cz P w K mg) : FnOk P w K mg base (L2.CX P w) 3 (He.ga K "_law_others") fd ["_law_size", "_law_level", "_law_marked"] (SpD ⟨K, P, w, []⟩ 3 none true m__law_others) := by
  refine fnD (N := n__law_others) (ps := ["_law_size", "_law_level", "_law_marked"]) (k := 2) (ms := ⟨[], []⟩) (io := none) (fr := true) (g := b__law_others) F (fscB_ok (by decide +kernel)) (msB_ok (by decide)) (by decide) ?_
  intro cdv A outer s H E hr
  exact (dss_one (ds_retF (df_lc 3 (di_seq (de_call (k__law_lots c) (Room.mono hr (by decide : 2 ≤ 2)) rfl (g__law_lots c) (kp__law_lots c) takesD (da_cons (de_var 0) (da_cons (de_var 1) da_nil)))) (dts_one rfl (fun s0 H0 C cl fp => (dt_cmp (op_notInA (units1 hr)) pu_notIn (de_var 3) (DE.dk (de_var 2))))) (fun s0 H0 C cl fp => (de_var 3)) rfl n_nd__law_others (blkB_ok rfl) (fun s0 H0 C cl fp => pg_name n_nd__law_others (i := 3) rfl (by first | exact Or.inl rfl | exact Or.inr rfl)))))
theorem k__law_others (c : Cz P w K mg) : FnR P w K mg base (L2.CX P w) 3 (He.ga K "_law_others") (SpD ⟨K, P, w, []⟩ 3 none true m__law_others) := by
  obtain ⟨fd, F⟩ := Df.fun_ (c.told.df 12 (d := d__law_others) rfl) rfl
  exact fnR_all (ok__law_others F c) (F.bindsN fun _ _ _ _ _ _ us hl => match us, hl with | [_, _, _], _ => rfl)
theorem ok__law_levels {fd : FuncData} (F : FunD K d__law_levels.name d__law_levels.qual d__law_levels.params d__law_levels.body d__law_levels.scope (d__law_levels.dfl.map (He.Dv.v K)) [] (He.ga K "_law_levels") fd) (c : Cz P w K mg) : FnOk P w K mg base (L2.CX P w) 3 (He.ga K "_law_levels") fd ["_law_draws_here", "_law_size"] (SpD ⟨K, P, w, []⟩ 2 (some 0) false m__law_levels) := by
  refine fnD (N := n__law_levels) (ps := ["_law_draws_here", "_law_size"]) (k := 2) (ms := ⟨[0], [0]⟩) (io := (some 0)) (fr := false) (g := b__law_levels) F (fscB_ok (by decide +kernel)) (msB_ok (by decide)) (by decide) ?_
  intro cdv A outer s H E hr
  exact (dss_one (ds_ret (DF.de (df_lc 2 (di_rng1 rfl (f_range c) (de_var 1)) dts_nil (fun s0 H0 C cl fp => (de_op op_addA pu_add (de_op op_sub pu_sub (de_op op_mul pu_mulI (de_callIo 0 (k__law_take c) (Room.mono hr (by decide : 2 ≤ 2)) rfl (g__law_take c) (kp__law_take c) takesF (da_cons de_int da_nil)) (DE.dk de_int)) (DE.dk de_int)) (DE.dk (de_callIo 0 (k__law_take c) (Room.mono hr (by decide : 2 ≤ 2)) rfl (g__law_take c) (kp__law_take c) takesF (da_cons de_int da_nil))))) rfl n_nd__law_levels (blkB_ok rfl) (fun s0 H0 C cl fp => pg_name n_nd__law_levels (i := 2) rfl (by first | exact Or.inl rfl | exact Or.inr rfl))))))
theorem k__law_levels (c : Cz P w K mg) : FnR P w K mg base (L2.CX P w) 3 (He.ga K "_law_levels") (SpD ⟨K, P, w, []⟩ 2 (some 0) false m__law_levels) := by
  obtain ⟨fd, F⟩ := Df.fun_ (c.told.df 13 (d := d__law_levels) rfl) rfl
  exact fnR_all (ok__law_levels F c) (F.bindsN fun _ _ _ _ _ _ us hl => match us, hl with | [_, _], _ => rfl)
theorem ok__law_family {fd : FuncData} (F : FunD K d__law_family.name d__law_family.qual d__law_family.params d__law_family.body d__law_family.scope (d__law_family.dfl.map (He.Dv.v K)) [] (He.ga K "_law_family") fd) (c : Cz P w K mg) : FnOk P w K mg base (L2.CX P w) 5 (He.ga K "_law_family") fd ["_law_draws_here", "_law_size", "_law_level"] (SpD ⟨K, P, w, []⟩ 3 (some 0) true m__law_family) := by
  refine fnD (N := n__law_family) (ps := ["_law_draws_here", "_law_size", "_law_level"]) (k := 4) (ms := ⟨[0, 5], [0]⟩) (io := (some 0)) (fr := true) (g := b__law_family) F (fscB_ok (by decide +kernel)) (msB_ok (by decide)) (by decide) ?_
  intro cdv A outer s H E hr
  exact (dss_cons (ds_set 3 (de_callIo 0 (k__law_take c) (Room.mono hr (by decide : 2 ≤ 4)) rfl (g__law_take c) (kp__law_take c) takesD (da_cons de_int da_nil)) n_nd__law_family)
  (dss_cons (ds_if (DW.dt (dw_and (dt_cmp op_ge pu_geI (de_var 3) (DE.dk de_int)) (dw_and1 (dt_cmp op_ge pu_geI (de_var 2) (DE.dk de_int)))))
  (dss_cons (ds_set 4 (DF.de (df_callIo 0 (k__law_places c) (Room.mono hr (by decide : 3 ≤ 4)) rfl (g__law_places c) (kp__law_places c) takesD (da_cons (de_var 1) da_nil))) n_nd__law_family)
  (dss_one (ds_retF (df_call (k__law_below c) (Room.mono hr (by decide : 4 ≤ 4)) rfl (g__law_below c) (kp__law_below c) takesD (da_cons (de_var 1) (da_cons (de_var 2) (da_cons (de_var 4) (da_cons (de_callIo 0 (k__law_levels c) (Room.mono hr (by decide : 3 ≤ 4)) rfl (g__law_levels c) (kp__law_levels c) takesD (da_cons (de_var 1) da_nil)) da_nil))))))))
  dss_nil)
  (dss_cons (ds_setF 5 (df_callIo 0 (k__law_climb c) (Room.mono hr (by decide : 4 ≤ 4)) rfl (g__law_climb c) (kp__law_climb c) takesD (da_cons (de_var 1) (da_cons (de_var 2) da_nil))) n_nd__law_family)
  (dss_cons (ds_if (dt_cmp (op_eqD hr.units) pu_eq (de_var 3) (DE.dk de_int))
  (dss_one (ds_retF (df_callRo (k__law_others c) (Room.mono hr (by decide : 3 ≤ 4)) rfl (g__law_others c) (kp__law_others c) takesD (da0_cons (de_var 1) (da0_cons (de_var 2) (da0_own 5 da0_nil))))))
  dss_nil)
  (dss_one (ds_retMu (e := .Name "" ⟨0, 0, 0, 0⟩) 5))))))
theorem k__law_family (c : Cz P w K mg) : FnR P w K mg base (L2.CX P w) 5 (He.ga K "_law_family") (SpD ⟨K, P, w, []⟩ 3 (some 0) true m__law_family) := by
  obtain ⟨fd, F⟩ := Df.fun_ (c.told.df 14 (d := d__law_family) rfl) rfl
  exact fnR_all (ok__law_family F c) (F.bindsN fun _ _ _ _ _ _ us hl => match us, hl with | [_, _, _], _ => rfl)
theorem ok__law_marks {fd : FuncData} (F : FunD K d__law_marks.name d__law_marks.qual d__law_marks.params d__law_marks.body d__law_marks.scope (d__law_marks.dfl.map (He.Dv.v K)) [] (He.ga K "_law_marks") fd) (c : Cz P w K mg) : FnOk P w K mg base (L2.CX P w) 6 (He.ga K "_law_marks") fd ["_law_draws_here", "_law_size", "_law_level"] (SpD ⟨K, P, w, []⟩ 3 (some 0) false m__law_marks) := by
  refine fnD (N := n__law_marks) (ps := ["_law_draws_here", "_law_size", "_law_level"]) (k := 5) (ms := ⟨[0, 4], [0]⟩) (io := (some 0)) (fr := false) (g := b__law_marks) F (fscB_ok (by decide +kernel)) (msB_ok (by decide)) (by decide) ?_
  intro cdv A outer s H E hr
  exact (dss_cons (ds_if (dt_cmp (op_eqD hr.units) pu_eq (de_callIo 0 (k__law_take c) (Room.mono hr (by decide : 2 ≤ 5)) rfl (g__law_take c) (kp__law_take c) takesD (da_cons de_int da_nil)) (DE.dk de_int))
  (dss_one (ds_ret (DF.de (df_lc 3 (di_seq (de_call (k__law_lots c) (Room.mono hr (by decide : 2 ≤ 5)) rfl (g__law_lots c) (kp__law_lots c) takesD (da_cons (de_var 1) (da_cons (de_var 2) da_nil)))) (dts_one rfl (fun s0 H0 C cl fp => (dt_cmp (op_eqD hr.units) pu_eq (de_callIo 0 (k__law_take c) (Room.mono hr (by decide : 2 ≤ 5)) rfl (g__law_take c) (kp__law_take c) takesF (da_cons de_int da_nil)) (DE.dk de_int)))) (fun s0 H0 C cl fp => (de_var 3)) rfl n_nd__law_marks (blkB_ok rfl) (fun s0 H0 C cl fp => pg_name n_nd__law_marks (i := 3) rfl (by first | exact Or.inl rfl | exact Or.inr rfl))))))
  dss_nil)
  (dss_cons (ds_setF 4 (df_callIo 0 (k__law_family c) (Room.mono hr (by decide : 5 ≤ 5)) rfl (g__law_family c) (kp__law_family c) takesD (da_cons (de_var 1) (da_cons (de_var 2) da_nil))) n_nd__law_marks)
  (dss_cons (ds_set 5 (de_call (k__law_lots c) (Room.mono hr (by decide : 2 ≤ 5)) rfl (g__law_lots c) (kp__law_lots c) takesD (da_cons (de_var 1) (da_cons (de_var 2) da_nil))) n_nd__law_marks)
  (dss_cons (ds_for 6 (di_rng1 rfl (f_range c) (de_callIo 0 (k__law_take c) (Room.mono hr (by decide : 2 ≤ 5)) rfl (g__law_take c) (kp__law_take c) takesD (da_cons de_int da_nil))) (dss_one (ds_if (dt_cmp op_gt pu_gtI (de_call1B call_len_seq pu_len rfl (f_len c) (by first | rfl | kernel_rfl) (DE.dk (de_var 5))) (DE.dk de_int))
  (dss_cons (ds_set 3 (de_ix (de_var 5) (DE.dk (de_callIo 0 (k__law_take c) (Room.mono hr (by decide : 2 ≤ 5)) rfl (g__law_take c) (kp__law_take c) takesD (da_cons (de_callB (call_min2 rfl) pu_min2 rfl (f_min c) (by first | rfl | kernel_rfl) (da_cons de_int (da_cons (de_call1B call_len_seq pu_len rfl (f_len c) (by first | rfl | kernel_rfl) (DE.dk (de_var 5))) da_nil))) da_nil)))) n_nd__law_marks)
  (dss_one (ds_if (dt_cmp (op_inA (units1 hr)) pu_in (de_var 3) (dk_var 4))
  (dss_one (ds_expr (de_remove (units1 hr) 4 (de_var 3))))
  (dss_one (ds_expr (de_append 4 (de_var 3)))))))
  dss_nil)) ownsD rfl n_nd__law_marks)
  (dss_one (ds_ret (DF.de (df_call1B (cr_sortedD hr.units) pu_sorted rfl (f_sorted c) (by first | rfl | kernel_rfl) (dk_var 4)))))))))
theorem k__law_marks (c : Cz P w K mg) : FnR P w K mg base (L2.CX P w) 6 (He.ga K "_law_marks") (SpD ⟨K, P, w, []⟩ 3 (some 0) false m__law_marks) := by
  obtain ⟨fd, F⟩ := Df.fun_ (c.told.df 15 (d := d__law_marks) rfl) rfl
  exact fnR_all (ok__law_marks F c) (F.bindsN fun _ _ _ _ _ _ us hl => match us, hl with | [_, _, _], _ => rfl)
theorem ok__law_keeps {fd : FuncData} (F : FunD K d__law_keeps.name d__law_keeps.qual d__law_keeps.params d__law_keeps.body d__law_keeps.scope (d__law_keeps.dfl.map (He.Dv.v K)) [] (He.ga K "_law_keeps") fd) (c : Cz P w K mg) : FnOk P w K mg base (L2.CX P w) 3 (He.ga K "_law_keeps") fd ["_law_size", "_law_level", "_law_marked"] (SpD ⟨K, P, w, []⟩ 3 none false m__law_keeps) := by
  refine fnD (N := n__law_keeps) (ps := ["_law_size", "_law_level", "_law_marked"]) (k := 2) (ms := ⟨[], []⟩) (io := none) (fr := false) (g := b__law_keeps) F (fscB_ok (by decide +kernel)) (msB_ok (by decide)) (by decide) ?_
  intro cdv A outer s H E hr
  exact (dss_cons (ds_for 3 (di_seq (de_call (k__law_lots c) (Room.mono hr (by decide : 2 ≤ 2)) rfl (g__law_lots c) (kp__law_lots c) takesD (da_cons (de_var 0) (da_cons (de_op op_addA pu_add (de_var 1) (DE.dk de_int)) da_nil)))) (dss_one (ds_if (dt_cmp op_gt pu_gtI (de_call (k__law_turns c) (Room.mono hr (by decide : 2 ≤ 2)) rfl (g__law_turns c) (kp__law_turns c) takesD (da_cons (DF.de (df_lc 4 (di_seq (DF.de (df_call (k__law_packet c) (Room.mono hr (by decide : 2 ≤ 2)) rfl (g__law_packet c) (kp__law_packet c) takesD (da_cons (de_var 3) da_nil)))) dts_nil (fun s0 H0 C cl fp => (de_cmp (op_inA (units1 hr)) pu_in (de_var 4) (DE.dk (de_var 2)))) rfl n_nd__law_keeps (blkB_ok rfl) (fun s0 H0 C cl fp => pg_name n_nd__law_keeps (i := 4) rfl (by first | exact Or.inl rfl | exact Or.inr rfl)))) da_nil)) (DE.dk de_int))
  (dss_one (ds_ret de_bl))
  dss_nil)) ownsD rfl n_nd__law_keeps)
  (dss_one (ds_ret de_bl)))
theorem k__law_keeps (c : Cz P w K mg) : FnR P w K mg base (L2.CX P w) 3 (He.ga K "_law_keeps") (SpD ⟨K, P, w, []⟩ 3 none false m__law_keeps) := by
  obtain ⟨fd, F⟩ := Df.fun_ (c.told.df 16 (d := d__law_keeps) rfl) rfl
  exact fnR_all (ok__law_keeps F c) (F.bindsN fun _ _ _ _ _ _ us hl => match us, hl with | [_, _, _], _ => rfl)
theorem ok_is_int {fd : FuncData} (F : FunD K d_is_int.name d_is_int.qual d_is_int.params d_is_int.body d_is_int.scope (d_is_int.dfl.map (He.Dv.v K)) [] (He.ga K "is_int") fd) (c : Cz P w K mg) : FnOk P w K mg base (L2.CX P w) 2 (He.ga K "is_int") fd ["value"] (SpD ⟨K, P, w, []⟩ 1 none false m_is_int) := by
  refine fnD (N := n_is_int) (ps := ["value"]) (k := 1) (ms := ⟨[], []⟩) (io := none) (fr := false) (g := b_is_int) F (fscB_ok (by decide +kernel)) (msB_ok (by decide)) (by decide) ?_
  intro cdv A outer s H E hr
  exact (dss_one (ds_ret (de_and (de_isa1 .int (DE.dk (de_var 0)) rfl (f_isinstance c) rfl (f_int c)) (de_one (de_not (de_isa1 .bool (DE.dk (de_var 0)) rfl (f_isinstance c) rfl (f_bool c)))))))
theorem k_is_int (c : Cz P w K mg) : FnR P w K mg base (L2.CX P w) 2 (He.ga K "is_int") (SpD ⟨K, P, w, []⟩ 1 none false m_is_int) := by
  obtain ⟨fd, F⟩ := Df.fun_ (c.told.df 18 (d := d_is_int) rfl) rfl
  exact fnR_all (ok_is_int F c) (F.bindsN fun _ _ _ _ _ _ us hl => match us, hl with | [_], _ => rfl)
theorem ok_check_number {fd : FuncData} (F : FunD K d_check_number.name d_check_number.qual d_check_number.params d_check_number.body d_check_number.scope (d_check_number.dfl.map (He.Dv.v K)) [] (He.ga K "check_number") fd) (c : Cz P w K mg) : FnOk P w K mg base (L2.CX P w) 3 (He.ga K "check_number") fd ["name", "value", "least", "most"] (SpD ⟨K, P, w, []⟩ 4 none false m_check_number) := by
  refine fnD (N := n_check_number) (ps := ["name", "value", "least", "most"]) (k := 2) (ms := ⟨[], []⟩) (io := none) (fr := false) (g := b_check_number) F (fscB_ok (by decide +kernel)) (msB_ok (by decide)) (by decide) ?_
  intro cdv A outer s H E hr
  exact (dss_cons (ds_if (dt_not (dt_val (de_call (k_is_int c) (Room.mono hr (by decide : 2 ≤ 2)) rfl (g_is_int c) (kp_is_int c) takesD (da_cons (de_var 1) da_nil))))
  (dss_one (ds_raise 176 [50] rfl (ex_BadNumber c) (Room.mono hr (by decide : 2 ≤ 2)) rfl (g_BadNumber c) takesD (da_cons (de_var 0) da_nil)))
  dss_nil)
  (dss_cons (ds_if (DW.dt (dw_and (dt_cmp op_notN pu_notN (de_var 2) (DE.dk de_non)) (dw_and1 (dt_cmp (op_ltD hr.units) pu_lt (de_var 1) (DE.dk (de_var 2))))))
  (dss_one (ds_raise 176 [50] rfl (ex_BadNumber c) (Room.mono hr (by decide : 2 ≤ 2)) rfl (g_BadNumber c) takesD (da_cons (de_var 0) da_nil)))
  dss_nil)
  (dss_cons (ds_if (DW.dt (dw_and (dt_cmp op_notN pu_notN (de_var 3) (DE.dk de_non)) (dw_and1 (dt_cmp op_gt pu_gtI (de_var 1) (DE.dk (de_var 3))))))
  (dss_one (ds_raise 176 [50] rfl (ex_BadNumber c) (Room.mono hr (by decide : 2 ≤ 2)) rfl (g_BadNumber c) takesD (da_cons (de_var 0) da_nil)))
  dss_nil)
  (dss_one (ds_ret (de_var 1))))))
theorem k_check_number (c : Cz P w K mg) : FnR P w K mg base (L2.CX P w) 3 (He.ga K "check_number") (SpD ⟨K, P, w, []⟩ 4 none false m_check_number) := by
  obtain ⟨fd, F⟩ := Df.fun_ (c.told.df 19 (d := d_check_number) rfl) rfl
  exact fnR_all (ok_check_number F c) (F.bindsN fun _ _ _ _ _ _ us hl => match us, hl with | [_, _, _, _], _ => rfl)
theorem ok__check_shape {fd : FuncData} (F : FunD K d__check_shape.name d__check_shape.qual d__check_shape.params d__check_shape.body d__check_shape.scope (d__check_shape.dfl.map (He.Dv.v K)) [] (He.ga K "_check_shape") fd) (c : Cz P w K mg) : FnOk P w K mg base (L2.CX P w) 4 (He.ga K "_check_shape") fd ["size", "level"] (SpD ⟨K, P, w, []⟩ 2 none false m__check_shape) := by
  refine fnD (N := n__check_shape) (ps := ["size", "level"]) (k := 3) (ms := ⟨[], []⟩) (io := none) (fr := false) (g := b__check_shape) F (fscB_ok (by decide +kernel)) (msB_ok (by decide)) (by decide) ?_
  intro cdv A outer s H E hr
  exact (dss_cons (ds_expr (de_call (k_check_number c) (Room.mono hr (by decide : 3 ≤ 3)) rfl (g_check_number c) (kp_check_number c) takesD (da_cons (de_str 53) (da_cons (de_var 0) (da_cons de_int (da_cons (de_glob rfl (g_MOST_THINGS c)) da_nil))))))
  (dss_one (ds_expr (de_call (k_check_number c) (Room.mono hr (by decide : 3 ≤ 3)) rfl (g_check_number c) (kp_check_number c) takesD (da_cons (de_str 83) (da_cons (de_var 1) (da_cons de_int (da_cons (de_op op_addA pu_add (de_var 0) (DE.dk de_int)) da_nil))))))))
theorem k__check_shape (c : Cz P w K mg) : FnR P w K mg base (L2.CX P w) 4 (He.ga K "_check_shape") (SpD ⟨K, P, w, []⟩ 2 none false m__check_shape) := by
  obtain ⟨fd, F⟩ := Df.fun_ (c.told.df 20 (d := d__check_shape) rfl) rfl
  exact fnR_all (ok__check_shape F c) (F.bindsN fun _ _ _ _ _ _ us hl => match us, hl with | [_, _], _ => rfl)
theorem ok__first_wrong {fd : FuncData} (F : FunD K d__first_wrong.name d__first_wrong.qual d__first_wrong.params d__first_wrong.body d__first_wrong.scope (d__first_wrong.dfl.map (He.Dv.v K)) [] (He.ga K "_first_wrong") fd) (c : Cz P w K mg) : FnOk P w K mg base (L2.CX P w) 3 (He.ga K "_first_wrong") fd ["size", "things"] (SpD ⟨K, P, w, []⟩ 2 none false m__first_wrong) := by
  refine fnD (N := n__first_wrong) (ps := ["size", "things"]) (k := 2) (ms := ⟨[], []⟩) (io := none) (fr := false) (g := b__first_wrong) F (fscB_ok (by decide +kernel)) (msB_ok (by decide)) (by decide) ?_
  intro cdv A outer s H E hr
  exact (dss_cons (ds_if (dt_not (dt_val (de_isa2 .list .tuple (DE.dk (de_var 1)) rfl (f_isinstance c) rfl (f_list c) rfl (f_tuple c))))
  (dss_one (ds_ret (de_un un_neg pu_neg (DE.dk de_int))))
  dss_nil)
  (dss_cons (ds_for 2 (di_rng1 rfl (f_range c) (de_call1B call_len_seq pu_len rfl (f_len c) (by first | rfl | kernel_rfl) (DE.dk (de_var 1)))) (dss_cons (ds_set 3 (de_ix (de_var 1) (DE.dk (de_var 2))) n_nd__first_wrong)
  (dss_cons (ds_if (DW.dt (dw_or (dt_not (dt_val (de_call (k_is_int c) (Room.mono hr (by decide : 2 ≤ 2)) rfl (g_is_int c) (kp_is_int c) takesD (da_cons (de_var 3) da_nil)))) (dw_or (dt_cmp (op_ltD hr.units) pu_lt (de_var 3) (DE.dk de_int)) (dw_or1 (dt_cmp op_ge pu_geI (de_var 3) (DE.dk (de_var 0)))))))
  (dss_one (ds_ret (de_var 2)))
  dss_nil)
  (dss_one (ds_if (dt_cmp (op_inA (units1 hr)) pu_in (de_var 3) (DE.dk (de_slice (de_var 1) dp_none (dp_some (de_var 2)))))
  (dss_one (ds_ret (de_var 2)))
  dss_nil)))) ownsD rfl n_nd__first_wrong)
  (dss_one (ds_ret de_non))))
theorem k__first_wrong (c : Cz P w K mg) : FnR P w K mg base (L2.CX P w) 3 (He.ga K "_first_wrong") (SpD ⟨K, P, w, []⟩ 2 none false m__first_wrong) := by
  obtain ⟨fd, F⟩ := Df.fun_ (c.told.df 22 (d := d__first_wrong) rfl) rfl
  exact fnR_all (ok__first_wrong F c) (F.bindsN fun _ _ _ _ _ _ us hl => match us, hl with | [_, _], _ => rfl)
theorem ok__check_things {fd : FuncData} (F : FunD K d__check_things.name d__check_things.qual d__check_things.params d__check_things.body d__check_things.scope (d__check_things.dfl.map (He.Dv.v K)) [] (He.ga K "_check_things") fd) (c : Cz P w K mg) : FnOk P w K mg base (L2.CX P w) 4 (He.ga K "_check_things") fd ["size", "level", "things"] (SpD ⟨K, P, w, []⟩ 3 none false m__check_things) := by
  refine fnD (N := n__check_things) (ps := ["size", "level", "things"]) (k := 3) (ms := ⟨[], []⟩) (io := none) (fr := false) (g := b__check_things) F (fscB_ok (by decide +kernel)) (msB_ok (by decide)) (by decide) ?_
  intro cdv A outer s H E hr
  exact (dss_cons (ds_set 3 (de_call (k__first_wrong c) (Room.mono hr (by decide : 3 ≤ 3)) rfl (g__first_wrong c) (kp__first_wrong c) takesD (da_cons (de_var 0) (da_cons (de_var 2) da_nil))) n_nd__check_things)
  (dss_cons (ds_if (dt_cmp op_notN pu_notN (de_var 3) (DE.dk de_non))
  (dss_one (ds_raise 96 [88] rfl (ex_BadLot c) (Room.mono hr (by decide : 2 ≤ 3)) rfl (g_BadLot c) takesD (da_cons (de_var 3) da_nil)))
  dss_nil)
  (dss_cons (ds_if (dt_cmp (op_neD hr.units) pu_ne (de_call1B call_len_seq pu_len rfl (f_len c) (by first | rfl | kernel_rfl) (DE.dk (de_var 2))) (DE.dk (de_var 1)))
  (dss_one (ds_raise 96 [88] rfl (ex_BadLot c) (Room.mono hr (by decide : 2 ≤ 3)) rfl (g_BadLot c) takesD (da_cons (de_un un_neg pu_neg (DE.dk de_int)) da_nil)))
  dss_nil)
  (dss_one (ds_ret (de_call1T call_tuple_of pu_tuple rfl (f_tuple c) (by first | rfl | kernel_rfl) (DE.dk (DF.de (df_call1B (cr_sortedD hr.units) pu_sorted rfl (f_sorted c) (by first | rfl | kernel_rfl) (DE.dk (de_var 2)))))))))))
theorem k__check_things (c : Cz P w K mg) : FnR P w K mg base (L2.CX P w) 4 (He.ga K "_check_things") (SpD ⟨K, P, w, []⟩ 3 none false m__check_things) := by
  obtain ⟨fd, F⟩ := Df.fun_ (c.told.df 24 (d := d__check_things) rfl) rfl
  exact fnR_all (ok__check_things F c) (F.bindsN fun _ _ _ _ _ _ us hl => match us, hl with | [_, _, _], _ => rfl)
theorem ok_check_lots {fd : FuncData} (F : FunD K d_check_lots.name d_check_lots.qual d_check_lots.params d_check_lots.body d_check_lots.scope (d_check_lots.dfl.map (He.Dv.v K)) [] (He.ga K "check_lots") fd) (c : Cz P w K mg) : FnOk P w K mg base (L2.CX P w) 5 (He.ga K "check_lots") fd ["size", "level", "lots"] (SpD ⟨K, P, w, []⟩ 3 none false m_check_lots) := by
  refine fnD (N := n_check_lots) (ps := ["size", "level", "lots"]) (k := 4) (ms := ⟨[3], []⟩) (io := none) (fr := false) (g := b_check_lots) F (fscB_ok (by decide +kernel)) (msB_ok (by decide)) (by decide) ?_
  intro cdv A outer s H E hr
  exact (dss_cons (ds_expr (de_call (k__check_shape c) (Room.mono hr (by decide : 4 ≤ 4)) rfl (g__check_shape c) (kp__check_shape c) takesD (da_cons (de_var 0) (da_cons (de_var 1) da_nil))))
  (dss_cons (ds_if (dt_not (dt_val (de_isa2 .list .tuple (DE.dk (de_var 2)) rfl (f_isinstance c) rfl (f_list c) rfl (f_tuple c))))
  (dss_one (ds_raise 132 [88] rfl (ex_BadLots c) (Room.mono hr (by decide : 2 ≤ 4)) rfl (g_BadLots c) takesD (da_cons (de_un un_neg pu_neg (DE.dk de_int)) da_nil)))
  dss_nil)
  (dss_cons (ds_setF 3 (df_lst da_nil) n_nd_check_lots)
  (dss_cons (ds_for 4 (di_rng1 rfl (f_range c) (de_call1B call_len_seq pu_len rfl (f_len c) (by first | rfl | kernel_rfl) (DE.dk (de_var 2)))) (dss_cons (ds_try (krf := rkD) rfl rfl rfl n_nd_check_lots takesD krt_D (fun Wy pn xe tk po => (dss_one (ds_set 5 (de_call (k__check_things c) (Room.mono hr (by decide : 4 ≤ 4)) rfl (g__check_things c) (kp__check_things c) tk (da_cons (de_var 0) (da_cons (de_var 1) (da_cons (de_ix (de_var 2) (DE.dk (de_var 4))) da_nil)))) n_nd_check_lots))) (.cons ⟨rfl, hdn_BadLot c rfl, hdy_BadLot c, hdno_BadLot c, ⟨rfl, rfl, rfl, rfl⟩, fun a oe pn => (dss_one ds_stuck)⟩ .nil))
  (dss_cons (ds_if (dt_cmp (op_inA (units1 hr)) pu_in (de_var 5) (dk_var 3))
  (dss_one (ds_raise 132 [88] rfl (ex_BadLots c) (Room.mono hr (by decide : 2 ≤ 4)) rfl (g_BadLots c) takesD (da_cons (de_var 4) da_nil)))
  dss_nil)
  (dss_one (ds_expr (de_append 3 (de_var 5)))))) ownsD rfl n_nd_check_lots)
  (dss_one (ds_ret (de_call1T call_tuple_of pu_tuple rfl (f_tuple c) (by first | rfl | kernel_rfl) (DE.dk (DF.de (df_call1B (cr_sortedD hr.units) pu_sorted rfl (f_sorted c) (by first | rfl | kernel_rfl) (dk_var 3)))))))))))
theorem k_check_lots (c : Cz P w K mg) : FnR P w K mg base (L2.CX P w) 5 (He.ga K "check_lots") (SpD ⟨K, P, w, []⟩ 3 none false m_check_lots) := by
  obtain ⟨fd, F⟩ := Df.fun_ (c.told.df 25 (d := d_check_lots) rfl) rfl
  exact fnR_all (ok_check_lots F c) (F.bindsN fun _ _ _ _ _ _ us hl => match us, hl with | [_, _, _], _ => rfl)
theorem ok_Marks___init__ {fd : FuncData} (F : FunD K d_Marks___init__.name d_Marks___init__.qual d_Marks___init__.params d_Marks___init__.body d_Marks___init__.scope (d_Marks___init__.dfl.map (He.Dv.v K)) [] (He.ma K (He.ga K "Marks") "__init__") fd) (c : Cz P w K mg) : FnOk P w K mg base (L2.CX P w) 6 (He.ma K (He.ga K "Marks") "__init__") fd ["self", "size", "level", "marked"] (SpD ⟨K, P, w, []⟩ 4 (some 0) false m_Marks___init__) := by
  refine fnD (N := n_Marks___init__) (ps := ["self", "size", "level", "marked"]) (k := 5) (ms := ⟨[0], [0]⟩) (io := (some 0)) (fr := false) (g := b_Marks___init__) F (fscB_ok (by decide +kernel)) (msB_ok (by decide)) (by decide) ?_
  intro cdv A outer s H E hr
  exact (dss_cons (ds_set 4 (de_call (k_check_lots c) (Room.mono hr (by decide : 5 ≤ 5)) rfl (g_check_lots c) (kp_check_lots c) takesD (da_cons (de_var 1) (da_cons (de_var 2) (da_cons (de_var 3) da_nil)))) n_nd_Marks___init__)
  (dss_cons (ds_fld 0 ocs 53 (fld_size c) (de_var 1))
  (dss_cons (ds_fld 0 ocs 83 (fld_level c) (de_var 2))
  (dss_one (ds_fld 0 ocs 122 (fld_marked c) (de_var 4))))))
theorem k_Marks___init__ (c : Cz P w K mg) : FnR P w K mg base (L2.CX P w) 6 (He.ma K (He.ga K "Marks") "__init__") (SpD ⟨K, P, w, []⟩ 4 (some 0) false m_Marks___init__) := by
  obtain ⟨fd, F⟩ := Df.fun_ (c.told.df 26 (d := d_Marks___init__) rfl) rfl
  obtain ⟨dz, dr, db⟩ := F.binds1 (ps := ["self", "size", "level", "marked"]) 4 1 (by intro z; cases z) rfl fun _ _ _ _ _ _ _ us its h1 h2 => match us, its, h1, h2 with | [_, _, _, _], [_], _, _ => ⟨_, rfl, rfl⟩
  cases dr
  exact fnR_all (ok_Marks___init__ F c) db
theorem mk_Marks_4 {X : Cx} (c : Cz X.prog X.w X.K X.mg) (hx : tx X = ⟨X.K, X.prog, X.w, []⟩) : MkOk X 6 4 62 m_Marks___init__ := ⟨_, mkf_Marks c, by (unfold Fn; rw [hx]; exact FnR.up (k_Marks___init__ c) (by decide))⟩
theorem ok__law_edge {fd : FuncData} (F : FunD K d__law_edge.name d__law_edge.qual d__law_edge.params d__law_edge.body d__law_edge.scope (d__law_edge.dfl.map (He.Dv.v K)) [] (He.ga K "_law_edge") fd) (c : Cz P w K mg) : FnOk P w K mg base (L2.CX P w) 3 (He.ga K "_law_edge") fd ["_law_draws_here"] (SpD ⟨K, P, w, []⟩ 1 (some 0) false m__law_edge) := by
  refine fnD (N := n__law_edge) (ps := ["_law_draws_here"]) (k := 2) (ms := ⟨[0], [0]⟩) (io := (some 0)) (fr := false) (g := b__law_edge) F (fscB_ok (by decide +kernel)) (msB_ok (by decide)) (by decide) ?_
  intro cdv A outer s H E hr
  exact (dss_cons (ds_set 1 (DF.de (df_lst (da_const 3 (by kernel_rfl)))) n_nd__law_edge)
  (dss_one (ds_ret (de_ix (de_var 1) (DE.dk (de_callIo 0 (k__law_take c) (Room.mono hr (by decide : 2 ≤ 2)) rfl (g__law_take c) (kp__law_take c) takesD (da_cons de_int da_nil)))))))
theorem k__law_edge (c : Cz P w K mg) : FnR P w K mg base (L2.CX P w) 3 (He.ga K "_law_edge") (SpD ⟨K, P, w, []⟩ 1 (some 0) false m__law_edge) := by
  obtain ⟨fd, F⟩ := Df.fun_ (c.told.df 27 (d := d__law_edge) rfl) rfl
  exact fnR_all (ok__law_edge F c) (F.bindsN fun _ _ _ _ _ _ us hl => match us, hl with | [_], _ => rfl)
theorem ok__lots {fd : FuncData} (F : FunD K d__lots.name d__lots.qual d__lots.params d__lots.body d__lots.scope (d__lots.dfl.map (He.Dv.v K)) [] (He.ga K "_lots") fd) (c : Cz P w K mg) : FnOk P w K mg base (L2.CX P w) 2 (He.ga K "_lots") fd ["size", "level"] (SpD ⟨K, P, w, []⟩ 2 none false m__lots) := by
  refine fnD (N := n__lots) (ps := ["size", "level"]) (k := 1) (ms := ⟨[], []⟩) (io := none) (fr := false) (g := b__lots) F (fscB_ok (by decide +kernel)) (msB_ok (by decide)) (by decide) ?_
  intro cdv A outer s H E hr
  exact (dss_cons (ds_set 2 (DF.de (df_lst (da_cons (de_tup da_nil) da_nil))) n_nd__lots)
  (dss_cons (ds_for 3 (di_rng1 rfl (f_range c) (de_var 1)) (dss_one (tmS_lc2 2 4 5 (di_seq (de_var 2)) dts_nil (fun s0 H0 C cl fp => (di_rng2 rfl (f_range c) (de_ifExp (dt_tru (DE.dk (de_var 4))) (de_op op_addA pu_add (de_ix (de_var 4) (DE.dk (de_un un_neg pu_neg (DE.dk de_int)))) (DE.dk de_int)) de_int) (de_var 0))) dts_nil (fun s0 H0 C cl fp => (de_op op_addA pu_add (de_var 4) (DE.dk (de_tup (da_cons (de_var 5) da_nil))))) rfl n_nd__lots (blkB_ok rfl) (fun s0 H0 C cl fp => pg_name n_nd__lots (i := 4) rfl (by first | exact Or.inl rfl | exact Or.inr rfl)) (fun s0 H0 C cl fp => pg_name n_nd__lots (i := 5) rfl (by first | exact Or.inl rfl | exact Or.inr rfl)))) ownsD rfl n_nd__lots)
  (dss_one (ds_ret (de_call1T call_tuple_of pu_tuple rfl (f_tuple c) (by first | rfl | kernel_rfl) (DE.dk (de_var 2)))))))
theorem k__lots (c : Cz P w K mg) : FnR P w K mg base (L2.CX P w) 2 (He.ga K "_lots") (SpD ⟨K, P, w, []⟩ 2 none false m__lots) := by
  obtain ⟨fd, F⟩ := Df.fun_ (c.told.df 28 (d := d__lots) rfl) rfl
  exact fnR_all (ok__lots F c) (F.bindsN fun _ _ _ _ _ _ us hl => match us, hl with | [_, _], _ => rfl)
theorem ok__packet {fd : FuncData} (F : FunD K d__packet.name d__packet.qual d__packet.params d__packet.body d__packet.scope (d__packet.dfl.map (He.Dv.v K)) [] (He.ga K "_packet") fd) (c : Cz P w K mg) : FnOk P w K mg base (L2.CX P w) 2 (He.ga K "_packet") fd ["things"] (SpD ⟨K, P, w, []⟩ 1 none false m__packet) := by
  refine fnD (N := n__packet) (ps := ["things"]) (k := 1) (ms := ⟨[], []⟩) (io := none) (fr := false) (g := b__packet) F (fscB_ok (by decide +kernel)) (msB_ok (by decide)) (by decide) ?_
  intro cdv A outer s H E hr
  exact (dss_cons (ds_set 1 (de_call1B call_len_seq pu_len rfl (f_len c) (by first | rfl | kernel_rfl) (DE.dk (de_var 0))) n_nd__packet)
  (dss_one (ds_ret (de_call1T call_tuple_of pu_tuple rfl (f_tuple c) (by first | rfl | kernel_rfl) (DE.dk (DF.de (df_lc 2 (di_rng3 rfl (f_range c) (de_op op_sub pu_sub (de_var 1) (DE.dk de_int)) (de_un un_neg pu_neg (DE.dk de_int)) (de_un un_neg pu_neg (DE.dk de_int))) dts_nil (fun s0 H0 C cl fp => (de_op op_addA pu_add (de_slice (de_var 0) dp_none (dp_some (de_var 2))) (DE.dk (de_slice (de_var 0) (dp_some (de_op op_addA pu_add (de_var 2) (DE.dk de_int))) dp_none)))) rfl n_nd__packet (blkB_ok rfl) (fun s0 H0 C cl fp => pg_name n_nd__packet (i := 2) rfl (by first | exact Or.inl rfl | exact Or.inr rfl)))))))))
theorem k__packet (c : Cz P w K mg) : FnR P w K mg base (L2.CX P w) 2 (He.ga K "_packet") (SpD ⟨K, P, w, []⟩ 1 none false m__packet) := by
  obtain ⟨fd, F⟩ := Df.fun_ (c.told.df 29 (d := d__packet) rfl) rfl
  exact fnR_all (ok__packet F c) (F.bindsN fun _ _ _ _ _ _ us hl => match us, hl with | [_], _ => rfl)
theorem ok__row_break {fd : FuncData} (F : FunD K d__row_break.name d__row_break.qual d__row_break.params d__row_break.body d__row_break.scope (d__row_break.dfl.map (He.Dv.v K)) [] (He.ga K "_row_break") fd) (c : Cz P w K mg) : FnOk P w K mg base (L2.CX P w) 2 (He.ga K "_row_break") fd ["row", "held"] (SpD ⟨K, P, w, []⟩ 2 none false m__row_break) := by
  refine fnD (N := n__row_break) (ps := ["row", "held"]) (k := 1) (ms := ⟨[], []⟩) (io := none) (fr := false) (g := b__row_break) F (fscB_ok (by decide +kernel)) (msB_ok (by decide)) (by decide) ?_
  intro cdv A outer s H E hr
  exact (dss_cons (ds_set 2 (de_ix (de_var 1) (DE.dk de_int)) n_nd__row_break)
  (dss_cons (ds_for 3 (di_rng2 rfl (f_range c) de_int (de_call1B call_len_seq pu_len rfl (f_len c) (by first | rfl | kernel_rfl) (DE.dk (de_var 0)))) (dss_one (ds_if (dt_cmp (op_neD hr.units) pu_ne (de_ix (de_var 1) (DE.dk (de_var 3))) (DE.dk (de_var 2)))
  (dss_cons (ds_for 4 (di_rng2 rfl (f_range c) (de_op op_addA pu_add (de_var 3) (DE.dk de_int)) (de_call1B call_len_seq pu_len rfl (f_len c) (by first | rfl | kernel_rfl) (DE.dk (de_var 0)))) (dss_one (ds_if (dt_cmp (op_eqD hr.units) pu_eq (de_ix (de_var 1) (DE.dk (de_var 4))) (DE.dk (de_var 2)))
  (dss_one (ds_ret (de_tup (da_cons (de_ix (de_var 0) (DE.dk de_int)) (da_cons (de_ix (de_var 0) (DE.dk (de_var 3))) (da_cons (de_ix (de_var 0) (DE.dk (de_var 4))) da_nil))))))
  dss_nil)) ownsD rfl n_nd__row_break)
  (dss_one (ds_ret de_non)))
  dss_nil)) ownsD rfl n_nd__row_break)
  (dss_one (ds_ret de_non))))
theorem k__row_break (c : Cz P w K mg) : FnR P w K mg base (L2.CX P w) 2 (He.ga K "_row_break") (SpD ⟨K, P, w, []⟩ 2 none false m__row_break) := by
  obtain ⟨fd, F⟩ := Df.fun_ (c.told.df 30 (d := d__row_break) rfl) rfl
  exact fnR_all (ok__row_break F c) (F.bindsN fun _ _ _ _ _ _ us hl => match us, hl with | [_, _], _ => rfl)
theorem ok__least_break {fd : FuncData} (F : FunD K d__least_break.name d__least_break.qual d__least_break.params d__least_break.body d__least_break.scope (d__least_break.dfl.map (He.Dv.v K)) [] (He.ga K "_least_break") fd) (c : Cz P w K mg) : FnOk P w K mg base (L2.CX P w) 3 (He.ga K "_least_break") fd ["size", "level", "marked"] (SpD ⟨K, P, w, []⟩ 3 none false m__least_break) := by
  refine fnD (N := n__least_break) (ps := ["size", "level", "marked"]) (k := 2) (ms := ⟨[], []⟩) (io := none) (fr := false) (g := b__least_break) F (fscB_ok (by decide +kernel)) (msB_ok (by decide)) (by decide) ?_
  intro cdv A outer s H E hr
  exact (dss_cons (ds_set 3 (de_call1T (cr_setOfTu rfl hr.units) pu_set rfl (f_set c) (by first | rfl | kernel_rfl) (DE.dk (de_var 2))) n_nd__least_break)
  (dss_cons (ds_set 4 de_non n_nd__least_break)
  (dss_cons (ds_for 5 (di_seq (de_call (k__lots c) (Room.mono hr (by decide : 2 ≤ 2)) rfl (g__lots c) (kp__lots c) takesD (da_cons (de_var 0) (da_cons (de_op op_addA pu_add (de_var 1) (DE.dk de_int)) da_nil)))) (dss_cons (ds_set 6 (de_call (k__packet c) (Room.mono hr (by decide : 2 ≤ 2)) rfl (g__packet c) (kp__packet c) takesD (da_cons (de_var 5) da_nil)) n_nd__least_break)
  (dss_cons (ds_set 8 (de_call (k__row_break c) (Room.mono hr (by decide : 2 ≤ 2)) rfl (g__row_break c) (kp__row_break c) takesD (da_cons (de_var 6) (da_cons (DF.de (df_lc 7 (di_seq (de_var 6)) dts_nil (fun s0 H0 C cl fp => (de_cmp (op_inA (units1 hr)) pu_in (de_var 7) (DE.dk (de_var 3)))) rfl n_nd__least_break (blkB_ok rfl) (fun s0 H0 C cl fp => pg_name n_nd__least_break (i := 7) rfl (by first | exact Or.inl rfl | exact Or.inr rfl)))) da_nil))) n_nd__least_break)
  (dss_one (ds_if (DW.dt (dw_and (dt_cmp op_notN pu_notN (de_var 8) (DE.dk de_non)) (dw_and1 (DW.dt (dw_or (dt_cmp op_isN pu_isN (de_var 4) (DE.dk de_non)) (dw_or1 (dt_cmp (op_ltD hr.units) pu_lt (de_var 8) (DE.dk (de_var 4)))))))))
  (dss_one (ds_set 4 (de_var 8) n_nd__least_break))
  dss_nil)))) ownsD rfl n_nd__least_break)
  (dss_one (ds_ret (de_var 4))))))
theorem k__least_break (c : Cz P w K mg) : FnR P w K mg base (L2.CX P w) 3 (He.ga K "_least_break") (SpD ⟨K, P, w, []⟩ 3 none false m__least_break) := by
  obtain ⟨fd, F⟩ := Df.fun_ (c.told.df 31 (d := d__least_break) rfl) rfl
  exact fnR_all (ok__least_break F c) (F.bindsN fun _ _ _ _ _ _ us hl => match us, hl with | [_, _, _], _ => rfl)
theorem k_Family___init__ (c : Cz P w K mg) : FnR P w K mg base (L2.CX P w) 8 (He.ma K (He.ga K "Family") "__init__") (SpD ⟨K, P, w, []⟩ 4 (some 0) false m_Family___init__) := by
  have hP := c.prog
  subst hP
  have T := fSup_ok (P := PySem.Challenge.pw_packetmarks_k03_things_left_out) (d := d_Family___init__) (N := n_Family___init__) (ps := ["self", "size", "level", "marked"]) (supf_Family c) (c.told.df 33 (d := d_Family___init__) rfl) rfl rfl rfl (NdefX.nscope_by (by decide +kernel)) (f_super c) (by decide +kernel) ⟨_, rfl, rfl⟩ rfl rfl rfl (by decide) (by intro z; cases z)
    fun _ _ _ _ _ _ _ _ us its h1 h2 => match us, its, h1, h2 with | [_, _, _, _], [_], _, _ => ⟨_, rfl, rfl⟩
  refine fnSup (cD := 100) (np2 := 4) (ms := ⟨[0], [0]⟩) (m := m_Marks___init__) (g := g_Family___init__) (fs := a_Family___init__) T rfl (FnR.up (k_Marks___init__ c) (by decide)) (msB_ok (by decide)) rfl (by first | rfl | kernel_rfl) (fun A outer s H E hr => ?_) (fun A outer s H E hr => ?_) (fun _ => rfl) (fun _ => rfl) (fun _ => rfl) (fun _ => rfl)
  · exact (da_cons (de_var 1) (da_cons (de_var 2) (da_cons (de_var 3) da_nil)))
  · exact (dss_cons (ds_set 5 (de_call (k__least_break c) (Room.mono hr (by decide : 3 ≤ 7)) rfl (g__least_break c) (kp__least_break c) (takes_of rfl rfl rfl rfl) (da_cons (de_fld ocs 53 (fld_size c) (dk_var 0)) (da_cons (de_fld ocs 83 (fld_level c) (dk_var 0)) (da_cons (de_fld ocs 122 (fld_marked c) (dk_var 0)) da_nil)))) n_nd_Family___init__)
  (dss_one (ds_if (dt_cmp op_notN pu_notN (de_var 5) (DE.dk de_non))
  (dss_one (ds_raise 99 [47] rfl (ex_Broken c) (Room.mono hr (by decide : 2 ≤ 7)) rfl (g_Broken c) (takes_of rfl rfl rfl rfl) (da_cons (de_var 5) da_nil)))
  dss_nil)))
theorem mk_Family_4 {X : Cx} (c : Cz X.prog X.w X.K X.mg) (hx : tx X = ⟨X.K, X.prog, X.w, []⟩) : MkOk X 8 4 100 m_Family___init__ := ⟨_, mkf_Family c, by (unfold Fn; rw [hx]; exact FnR.up (k_Family___init__ c) (by decide))⟩
theorem ok__like {fd : FuncData} (F : FunD K d__like.name d__like.qual d__like.params d__like.body d__like.scope (d__like.dfl.map (He.Dv.v K)) [] (He.ga K "_like") fd) (c : Cz P w K mg) : FnOk P w K mg base (L2.CX P w) 10 (He.ga K "_like") fd ["marks", "size", "level", "lots"] (SpD ⟨K, P, w, []⟩ 4 none false m__like) := by
  refine fnD (N := n__like) (ps := ["marks", "size", "level", "lots"]) (k := 9) (ms := ⟨[], []⟩) (io := none) (fr := false) (g := b__like) F (fscB_ok (by decide +kernel)) (msB_ok (by decide)) (by decide) ?_
  intro cdv A outer s H E hr
  exact (dss_cons (ds_if (dt_val (de_isaC is_Family 100 (isok_Family c) (DE.dk (de_var 0)) rfl (f_isinstance c) rfl (g_Family c)))
  (dss_one (ds_ret (de_make 100 (mk_Family_4 c rfl) (Room.mono hr (by decide : 9 ≤ 9)) rfl (g_Family c) takesD (da_cons (de_var 1) (da_cons (de_var 2) (da_cons (de_var 3) da_nil))))))
  dss_nil)
  (dss_one (ds_ret (de_make 62 (mk_Marks_4 c rfl) (Room.mono hr (by decide : 7 ≤ 9)) rfl (g_Marks c) takesD (da_cons (de_var 1) (da_cons (de_var 2) (da_cons (de_var 3) da_nil)))))))
theorem k__like (c : Cz P w K mg) : FnR P w K mg base (L2.CX P w) 10 (He.ga K "_like") (SpD ⟨K, P, w, []⟩ 4 none false m__like) := by
  obtain ⟨fd, F⟩ := Df.fun_ (c.told.df 35 (d := d__like) rfl) rfl
  exact fnR_all (ok__like F c) (F.bindsN fun _ _ _ _ _ _ us hl => match us, hl with | [_, _, _, _], _ => rfl)
theorem ok__inside {fd : FuncData} (F : FunD K d__inside.name d__inside.qual d__inside.params d__inside.body d__inside.scope (d__inside.dfl.map (He.Dv.v K)) [] (He.ga K "_inside") fd) (c : Cz P w K mg) : FnOk P w K mg base (L2.CX P w) 2 (He.ga K "_inside") fd ["marks", "things"] (SpD ⟨K, P, w, []⟩ 2 none true m__inside) := by
  refine fnD (N := n__inside) (ps := ["marks", "things"]) (k := 1) (ms := ⟨[2, 4], []⟩) (io := none) (fr := true) (g := b__inside) F (fscB_ok (by decide +kernel)) (msB_ok (by decide)) (by decide) ?_
  intro cdv A outer s H E hr
  exact (dss_cons (ds_dnew 2 n_nd__inside)
  (dss_cons (ds_for 3 (di_seq (de_var 1)) (dss_one (ds_dput (units1 hr) 2 (de_var 3) (de_call1B call_lenD pu_lenDi rfl (f_len c) (by first | rfl | kernel_rfl) (dk_var 2)))) ownsD rfl n_nd__inside)
  (dss_cons (ds_setF 4 (df_lst da_nil) n_nd__inside)
  (dss_cons (ds_for 5 (di_seq (de_fld ocs 122 (fld_marked c) (DE.dk (de_var 0)))) (dss_one (ds_if (dt_cmp (op_eqD hr.units) pu_eq (de_call1B call_len_seq pu_len rfl (f_len c) (by first | rfl | kernel_rfl) (DE.dk (DF.de (df_lc 3 (di_seq (de_var 5)) (dts_one rfl (fun s0 H0 C cl fp => (dt_din (units1 hr) 2 (de_var 3)))) (fun s0 H0 C cl fp => (de_var 3)) rfl n_nd__inside (blkB_ok rfl) (fun s0 H0 C cl fp => pg_name n_nd__inside (i := 3) rfl (by first | exact Or.inl rfl | exact Or.inr rfl)))))) (DE.dk (de_call1B call_len_seq pu_len rfl (f_len c) (by first | rfl | kernel_rfl) (DE.dk (de_var 5)))))
  (dss_one (ds_expr (de_append 4 (de_call1T call_tuple_of pu_tuple rfl (f_tuple c) (by first | rfl | kernel_rfl) (DE.dk (DF.de (df_lc 3 (di_seq (de_var 5)) dts_nil (fun s0 H0 C cl fp => (de_dget (units1 hr) 2 (de_var 3))) rfl n_nd__inside (blkB_ok rfl) (fun s0 H0 C cl fp => pg_name n_nd__inside (i := 3) rfl (by first | exact Or.inl rfl | exact Or.inr rfl)))))))))
  dss_nil)) ownsD rfl n_nd__inside)
  (dss_one (ds_retMu (e := .Name "" ⟨0, 0, 0, 0⟩) 4))))))
theorem k__inside (c : Cz P w K mg) : FnR P w K mg base (L2.CX P w) 2 (He.ga K "_inside") (SpD ⟨K, P, w, []⟩ 2 none true m__inside) := by
  obtain ⟨fd, F⟩ := Df.fun_ (c.told.df 36 (d := d__inside) rfl) rfl
  exact fnR_all (ok__inside F c) (F.bindsN fun _ _ _ _ _ _ us hl => match us, hl with | [_, _], _ => rfl)
theorem ok_left_out {fd : FuncData} (F : FunD K d_left_out.name d_left_out.qual d_left_out.params d_left_out.body d_left_out.scope (d_left_out.dfl.map (He.Dv.v K)) [] (He.ga K "left_out") fd) (c : Cz P w K mg) : FnOk P w K mg base (L2.CX P w) 11 (He.ga K "left_out") fd ["marks", "thing"] (SpD ⟨K, P, w, []⟩ 2 none false m_left_out) := by
  refine fnD (N := n_left_out) (ps := ["marks", "thing"]) (k := 10) (ms := ⟨[], []⟩) (io := none) (fr := false) (g := b_left_out) F (fscB_ok (by decide +kernel)) (msB_ok (by decide)) (by decide) ?_
  intro cdv A outer s H E hr
  exact (dss_cons (ds_expr (de_call (k_check_number c) (Room.mono hr (by decide : 3 ≤ 10)) rfl (g_check_number c) (kp_check_number c) takesD (da_cons (de_str 90) (da_cons (de_var 1) (da_cons de_int (da_cons (de_op op_sub pu_sub (de_fld ocs 53 (fld_size c) (DE.dk (de_var 0))) (DE.dk de_int)) da_nil))))))
  (dss_cons (ds_if (dt_cmp op_gt pu_gtI (de_fld ocs 83 (fld_level c) (DE.dk (de_var 0))) (DE.dk (de_fld ocs 53 (fld_size c) (DE.dk (de_var 0)))))
  (dss_one (ds_raise 190 [53, 83] rfl (ex_OtherShape c) (Room.mono hr (by decide : 2 ≤ 10)) rfl (g_OtherShape c) takesD (da_cons (de_fld ocs 53 (fld_size c) (DE.dk (de_var 0))) (da_cons (de_fld ocs 83 (fld_level c) (DE.dk (de_var 0))) da_nil))))
  dss_nil)
  (dss_cons (tmS_lc 3 2 (di_rng1 rfl (f_range c) (de_fld ocs 53 (fld_size c) (DE.dk (de_var 0)))) (dts_one rfl (fun s0 H0 C cl fp => (dt_cmp (op_neD hr.units) pu_ne (de_var 2) (DE.dk (de_var 1))))) (fun s0 H0 C cl fp => (de_var 2)) rfl n_nd_left_out (blkB_ok rfl) (fun s0 H0 C cl fp => pg_name n_nd_left_out (i := 2) rfl (by first | exact Or.inl rfl | exact Or.inr rfl)))
  (dss_one (ds_ret (de_call (k__like c) (Room.mono hr (by decide : 10 ≤ 10)) rfl (g__like c) (kp__like c) takesD (da_cons (de_var 0) (da_cons (de_op op_sub pu_sub (de_fld ocs 53 (fld_size c) (DE.dk (de_var 0))) (DE.dk de_int)) (da_cons (de_fld ocs 83 (fld_level c) (DE.dk (de_var 0))) (da_cons (DF.de (df_call (k__inside c) (Room.mono hr (by decide : 2 ≤ 10)) rfl (g__inside c) (kp__inside c) takesD (da_cons (de_var 0) (da_cons (de_var 3) da_nil)))) da_nil))))))))))
theorem k_left_out (c : Cz P w K mg) : FnR P w K mg base (L2.CX P w) 11 (He.ga K "left_out") (SpD ⟨K, P, w, []⟩ 2 none false m_left_out) := by
  obtain ⟨fd, F⟩ := Df.fun_ (c.told.df 37 (d := d_left_out) rfl) rfl
  exact fnR_all (ok_left_out F c) (F.bindsN fun _ _ _ _ _ _ us hl => match us, hl with | [_, _], _ => rfl)
theorem ok__law_left_told {fd : FuncData} (F : FunD K d__law_left_told.name d__law_left_told.qual d__law_left_told.params d__law_left_told.body d__law_left_told.scope (d__law_left_told.dfl.map (He.Dv.v K)) [] (He.ga K "_law_left_told") fd) (c : Cz P w K mg) : FnOk P w K mg base (L2.CX P w) 12 (He.ga K "_law_left_told") fd ["_law_made", "_law_thing"] (SpD ⟨K, P, w, []⟩ 2 none false m__law_left_told) := by
  refine fnD (N := n__law_left_told) (ps := ["_law_made", "_law_thing"]) (k := 11) (ms := ⟨[], []⟩) (io := none) (fr := false) (g := b__law_left_told) F (fscB_ok (by decide +kernel)) (msB_ok (by decide)) (by decide) ?_
  intro cdv A outer s H E hr
  exact (dss_cons (ds_set 2 (de_tup (da_cons (de_str 51) (da_cons de_int da_nil))) n_nd__law_left_told)
  (dss_cons (ds_try (krf := rkD) rfl rfl rfl n_nd__law_left_told takesD krt_D (fun Wy pn xe tk po => (dss_one (ds_set 2 (de_tup (da_cons (de_str 44) (da_cons (de_call (k_left_out c) (Room.mono hr (by decide : 11 ≤ 11)) rfl (g_left_out c) (kp_left_out c) tk (da_cons (de_var 0) (da_cons (de_var 1) da_nil))) da_nil))) n_nd__law_left_told))) (.cons ⟨rfl, hdn_BadNumber c rfl, hdy_BadNumber c, hdno_BadNumber c, ⟨rfl, rfl, rfl, rfl⟩, fun a oe pn => (dss_one (ds_set 2 (de_tup (da_cons (de_str 123) (da_cons (de_xf 3 [176] 50 (xf_BadNumber_name c)) da_nil))) n_nd__law_left_told))⟩ (.cons ⟨rfl, hdn_OtherShape c rfl, hdy_OtherShape c, hdno_OtherShape c, ⟨rfl, rfl, rfl, rfl⟩, fun a oe pn => (dss_one (ds_set 2 (de_tup (da_cons (de_str 89) (da_cons (de_xf 3 [190] 53 (xf_OtherShape_size c)) (da_cons (de_xf 3 [190] 83 (xf_OtherShape_level c)) da_nil)))) n_nd__law_left_told))⟩ .nil)))
  (dss_one (ds_ret (de_var 2)))))
theorem k__law_left_told (c : Cz P w K mg) : FnR P w K mg base (L2.CX P w) 12 (He.ga K "_law_left_told") (SpD ⟨K, P, w, []⟩ 2 none false m__law_left_told) := by
  obtain ⟨fd, F⟩ := Df.fun_ (c.told.df 38 (d := d__law_left_told) rfl) rfl
  exact fnR_all (ok__law_left_told F c) (F.bindsN fun _ _ _ _ _ _ us hl => match us, hl with | [_, _], _ => rfl)
theorem ok_break_of {fd : FuncData} (F : FunD K d_break_of.name d_break_of.qual d_break_of.params d_break_of.body d_break_of.scope (d_break_of.dfl.map (He.Dv.v K)) [] (He.ga K "break_of") fd) (c : Cz P w K mg) : FnOk P w K mg base (L2.CX P w) 4 (He.ga K "break_of") fd ["marks"] (SpD ⟨K, P, w, []⟩ 1 none false m_break_of) := by
  refine fnD (N := n_break_of) (ps := ["marks"]) (k := 3) (ms := ⟨[], []⟩) (io := none) (fr := false) (g := b_break_of) F (fscB_ok (by decide +kernel)) (msB_ok (by decide)) (by decide) ?_
  intro cdv A outer s H E hr
  exact (dss_one (ds_ret (de_call (k__least_break c) (Room.mono hr (by decide : 3 ≤ 3)) rfl (g__least_break c) (kp__least_break c) takesD (da_cons (de_fld ocs 53 (fld_size c) (DE.dk (de_var 0))) (da_cons (de_fld ocs 83 (fld_level c) (DE.dk (de_var 0))) (da_cons (de_fld ocs 122 (fld_marked c) (DE.dk (de_var 0))) da_nil))))))
theorem k_break_of (c : Cz P w K mg) : FnR P w K mg base (L2.CX P w) 4 (He.ga K "break_of") (SpD ⟨K, P, w, []⟩ 1 none false m_break_of) := by
  obtain ⟨fd, F⟩ := Df.fun_ (c.told.df 39 (d := d_break_of) rfl) rfl
  exact fnR_all (ok_break_of F c) (F.bindsN fun _ _ _ _ _ _ us hl => match us, hl with | [_], _ => rfl)
theorem ok_keeps {fd : FuncData} (F : FunD K d_keeps.name d_keeps.qual d_keeps.params d_keeps.body d_keeps.scope (d_keeps.dfl.map (He.Dv.v K)) [] (He.ga K "keeps") fd) (c : Cz P w K mg) : FnOk P w K mg base (L2.CX P w) 5 (He.ga K "keeps") fd ["marks"] (SpD ⟨K, P, w, []⟩ 1 none false m_keeps) := by
  refine fnD (N := n_keeps) (ps := ["marks"]) (k := 4) (ms := ⟨[], []⟩) (io := none) (fr := false) (g := b_keeps) F (fscB_ok (by decide +kernel)) (msB_ok (by decide)) (by decide) ?_
  intro cdv A outer s H E hr
  exact (dss_one (ds_ret (de_cmp op_isN pu_isN (de_call (k_break_of c) (Room.mono hr (by decide : 4 ≤ 4)) rfl (g_break_of c) (kp_break_of c) takesD (da_cons (de_var 0) da_nil)) (DE.dk de_non))))
theorem k_keeps (c : Cz P w K mg) : FnR P w K mg base (L2.CX P w) 5 (He.ga K "keeps") (SpD ⟨K, P, w, []⟩ 1 none false m_keeps) := by
  obtain ⟨fd, F⟩ := Df.fun_ (c.told.df 40 (d := d_keeps) rfl) rfl
  exact fnR_all (ok_keeps F c) (F.bindsN fun _ _ _ _ _ _ us hl => match us, hl with | [_], _ => rfl)
theorem ok__law_is {fd : FuncData} (F : FunD K d__law_is.name d__law_is.qual d__law_is.params d__law_is.body d__law_is.scope (d__law_is.dfl.map (He.Dv.v K)) [] (He.ga K "_law_is") fd) (c : Cz P w K mg) : FnOk P w K mg base (L2.CX P w) 2 (He.ga K "_law_is") fd ["_law_got", "_law_made", "_law_size", "_law_level", "_law_marked"] (SpD ⟨K, P, w, []⟩ 5 none false m__law_is) := by
  refine fnD (N := n__law_is) (ps := ["_law_got", "_law_made", "_law_size", "_law_level", "_law_marked"]) (k := 1) (ms := ⟨[], []⟩) (io := none) (fr := false) (g := b__law_is) F (fscB_ok (by decide +kernel)) (msB_ok (by decide)) (by decide) ?_
  intro cdv A outer s H E hr
  exact (dss_cons (ds_if (DW.dt (dw_or (dt_not (dt_val (de_isaC is_Marks 62 (isok_Marks c) (DE.dk (de_var 0)) rfl (f_isinstance c) rfl (g_Marks c)))) (dw_or1 (dt_cmp (op_neD hr.units) pu_ne (de_isaC is_Family 100 (isok_Family c) (DE.dk (de_var 0)) rfl (f_isinstance c) rfl (g_Family c)) (DE.dk (de_isaC is_Family 100 (isok_Family c) (DE.dk (de_var 1)) rfl (f_isinstance c) rfl (g_Family c)))))))
  (dss_one (ds_ret de_bl))
  dss_nil)
  (dss_one (ds_ret (de_and (de_cmp (op_eqD hr.units) pu_eq (de_fld ocs 53 (fld_size c) (DE.dk (de_var 0))) (DE.dk (de_var 2))) (de_and (de_cmp (op_eqD hr.units) pu_eq (de_fld ocs 83 (fld_level c) (DE.dk (de_var 0))) (DE.dk (de_var 3))) (de_one (de_cmp (op_eqD hr.units) pu_eq (de_fld ocs 122 (fld_marked c) (DE.dk (de_var 0))) (DE.dk (de_call1T call_tuple_of pu_tuple rfl (f_tuple c) (by first | rfl | kernel_rfl) (DE.dk (de_var 4)))))))))))
theorem k__law_is (c : Cz P w K mg) : FnR P w K mg base (L2.CX P w) 2 (He.ga K "_law_is") (SpD ⟨K, P, w, []⟩ 5 none false m__law_is) := by
  obtain ⟨fd, F⟩ := Df.fun_ (c.told.df 41 (d := d__law_is) rfl) rfl
  exact fnR_all (ok__law_is F c) (F.bindsN fun _ _ _ _ _ _ us hl => match us, hl with | [_, _, _, _, _], _ => rfl)
theorem ok__law_left {fd : FuncData} (F : FunD K d__law_left.name d__law_left.qual d__law_left.params d__law_left.body d__law_left.scope (d__law_left.dfl.map (He.Dv.v K)) [] (He.ga K "_law_left") fd) (c : Cz P w K mg) : FnOk P w K mg base (L2.CX P w) 2 (He.ga K "_law_left") fd ["_law_marked", "_law_thing"] (SpD ⟨K, P, w, []⟩ 2 none false m__law_left) := by
  refine fnD (N := n__law_left) (ps := ["_law_marked", "_law_thing"]) (k := 1) (ms := ⟨[], []⟩) (io := none) (fr := false) (g := b__law_left) F (fscB_ok (by decide +kernel)) (msB_ok (by decide)) (by decide) ?_
  intro cdv A outer s H E hr
  exact (dss_cons (tmS_lc 3 2 (di_seq (de_var 0)) (dts_one rfl (fun s0 H0 C cl fp => (dt_cmp (op_notInA (units1 hr)) pu_notIn (de_var 1) (DE.dk (de_var 2))))) (fun s0 H0 C cl fp => (de_var 2)) rfl n_nd__law_left (blkB_ok rfl) (fun s0 H0 C cl fp => pg_name n_nd__law_left (i := 2) rfl (by first | exact Or.inl rfl | exact Or.inr rfl)))
  (dss_one (ds_ret (DF.de (df_call1B (cr_sortedD hr.units) pu_sorted rfl (f_sorted c) (by first | rfl | kernel_rfl) (DE.dk (DF.de (df_lc 2 (di_seq (de_var 3)) dts_nil (fun s0 H0 C cl fp => (de_call1T call_tuple_of pu_tuple rfl (f_tuple c) (by first | rfl | kernel_rfl) (DE.dk (DF.de (df_lc 4 (di_seq (de_var 2)) dts_nil (fun s0 H0 C cl fp => (de_op op_sub pu_sub (de_var 4) (DE.dk (de_call1T call_int1 pu_int rfl (f_int c) (by first | rfl | kernel_rfl) (DE.dk (de_cmp op_gt pu_gtI (de_var 4) (DE.dk (de_var 1)))))))) rfl n_nd__law_left (blkB_ok rfl) (fun s0 H0 C cl fp => pg_name n_nd__law_left (i := 4) rfl (by first | exact Or.inl rfl | exact Or.inr rfl))))))) rfl n_nd__law_left (blkB_ok rfl) (fun s0 H0 C cl fp => pg_name n_nd__law_left (i := 2) rfl (by first | exact Or.inl rfl | exact Or.inr rfl))))))))))
theorem k__law_left (c : Cz P w K mg) : FnR P w K mg base (L2.CX P w) 2 (He.ga K "_law_left") (SpD ⟨K, P, w, []⟩ 2 none false m__law_left) := by
  obtain ⟨fd, F⟩ := Df.fun_ (c.told.df 42 (d := d__law_left) rfl) rfl
  exact fnR_all (ok__law_left F c) (F.bindsN fun _ _ _ _ _ _ us hl => match us, hl with | [_, _], _ => rfl)
theorem ok__law_all_left {fd : FuncData} (F : FunD K d__law_all_left.name d__law_all_left.qual d__law_all_left.params d__law_all_left.body d__law_all_left.scope (d__law_all_left.dfl.map (He.Dv.v K)) [] (He.ga K "_law_all_left") fd) (c : Cz P w K mg) : FnOk P w K mg base (L2.CX P w) 13 (He.ga K "_law_all_left") fd ["_law_made", "_law_marked", "_law_good"] (SpD ⟨K, P, w, []⟩ 3 none false m__law_all_left) := by
  refine fnD (N := n__law_all_left) (ps := ["_law_made", "_law_marked", "_law_good"]) (k := 12) (ms := ⟨[], []⟩) (io := none) (fr := false) (g := b__law_all_left) F (fscB_ok (by decide +kernel)) (msB_ok (by decide)) (by decide) ?_
  intro cdv A outer s H E hr
  exact (dss_cons (ds_set 3 (de_fld ocs 53 (fld_size c) (DE.dk (de_var 0))) n_nd__law_all_left)
  (dss_cons (ds_set 4 (de_fld ocs 83 (fld_level c) (DE.dk (de_var 0))) n_nd__law_all_left)
  (dss_cons (ds_set 5 de_bl n_nd__law_all_left)
  (dss_cons (ds_for 6 (di_rng1 rfl (f_range c) (de_var 3)) (dss_cons (ds_set 7 (de_call (k__law_left_told c) (Room.mono hr (by decide : 12 ≤ 12)) rfl (g__law_left_told c) (kp__law_left_told c) takesD (da_cons (de_var 0) (da_cons (de_var 6) da_nil))) n_nd__law_all_left)
  (dss_one (ds_if (dt_cmp op_gt pu_gtI (de_var 4) (DE.dk (de_var 3)))
  (dss_one (ds_if (dt_cmp (op_neD hr.units) pu_ne (de_var 7) (DE.dk (de_tup (da_cons (de_str 89) (da_cons (de_var 3) (da_cons (de_var 4) da_nil))))))
  (dss_one (ds_ret de_bl))
  dss_nil))
  (dss_cons (ds_if (DW.dt (dw_or (dt_cmp (op_neD hr.units) pu_ne (de_ix (de_var 7) (DE.dk de_int)) (DE.dk (de_str 44))) (dw_or1 (dt_not (dt_val (de_call (k__law_is c) (Room.mono hr (by decide : 2 ≤ 12)) rfl (g__law_is c) (kp__law_is c) takesD (da_cons (de_ix (de_var 7) (DE.dk de_int)) (da_cons (de_var 0) (da_cons (de_op op_sub pu_sub (de_var 3) (DE.dk de_int)) (da_cons (de_var 4) (da_cons (de_call (k__law_left c) (Room.mono hr (by decide : 2 ≤ 12)) rfl (g__law_left c) (kp__law_left c) takesD (da_cons (de_var 1) (da_cons (de_var 6) da_nil))) da_nil)))))))))))
  (dss_one (ds_ret de_bl))
  dss_nil)
  (dss_one (ds_set 5 (de_and (de_var 5) (de_one (de_call (k_keeps c) (Room.mono hr (by decide : 5 ≤ 12)) rfl (g_keeps c) (kp_keeps c) takesD (da_cons (de_ix (de_var 7) (DE.dk de_int)) da_nil)))) n_nd__law_all_left)))))) ownsD rfl n_nd__law_all_left)
  (dss_cons (ds_if (dt_cmp op_gt pu_gtI (de_var 4) (DE.dk (de_var 3)))
  (dss_one (ds_ret de_bl))
  dss_nil)
  (dss_cons (ds_if (DW.dt (dw_and (dt_cmp (op_eqD hr.units) pu_eq (de_var 3) (DE.dk (de_op op_addA pu_add (de_var 4) (DE.dk de_int)))) (dw_and1 (dt_not (dt_tru (DE.dk (de_var 5)))))))
  (dss_one (ds_ret de_bl))
  dss_nil)
  (dss_cons (ds_if (DW.dt (dw_and (dt_cmp op_ge pu_geI (de_var 3) (DE.dk (de_op op_addA pu_add (de_var 4) (DE.dk de_int)))) (dw_and1 (dt_cmp (op_neD hr.units) pu_ne (de_var 5) (DE.dk (de_var 2))))))
  (dss_one (ds_ret de_bl))
  dss_nil)
  (dss_one (ds_ret (de_or (de_var 5) (de_one (de_not (de_var 2)))))))))))))
theorem k__law_all_left (c : Cz P w K mg) : FnR P w K mg base (L2.CX P w) 13 (He.ga K "_law_all_left") (SpD ⟨K, P, w, []⟩ 3 none false m__law_all_left) := by
  obtain ⟨fd, F⟩ := Df.fun_ (c.told.df 43 (d := d__law_all_left) rfl) rfl
  exact fnR_all (ok__law_all_left F c) (F.bindsN fun _ _ _ _ _ _ us hl => match us, hl with | [_, _, _], _ => rfl)
theorem ok_check_set {fd : FuncData} (F : FunD K d_check_set.name d_check_set.qual d_check_set.params d_check_set.body d_check_set.scope (d_check_set.dfl.map (He.Dv.v K)) [] (He.ga K "check_set") fd) (c : Cz P w K mg) : FnOk P w K mg base (L2.CX P w) 4 (He.ga K "check_set") fd ["size", "things"] (SpD ⟨K, P, w, []⟩ 2 none false m_check_set) := by
  refine fnD (N := n_check_set) (ps := ["size", "things"]) (k := 3) (ms := ⟨[], []⟩) (io := none) (fr := false) (g := b_check_set) F (fscB_ok (by decide +kernel)) (msB_ok (by decide)) (by decide) ?_
  intro cdv A outer s H E hr
  exact (dss_cons (ds_expr (de_call (k_check_number c) (Room.mono hr (by decide : 3 ≤ 3)) rfl (g_check_number c) (kp_check_number c) takesD (da_cons (de_str 53) (da_cons (de_var 0) (da_cons de_int (da_cons (de_glob rfl (g_MOST_THINGS c)) da_nil))))))
  (dss_cons (ds_set 2 (de_call (k__first_wrong c) (Room.mono hr (by decide : 3 ≤ 3)) rfl (g__first_wrong c) (kp__first_wrong c) takesD (da_cons (de_var 0) (da_cons (de_var 1) da_nil))) n_nd_check_set)
  (dss_cons (ds_if (dt_cmp op_notN pu_notN (de_var 2) (DE.dk de_non))
  (dss_one (ds_raise 98 [88] rfl (ex_BadSet c) (Room.mono hr (by decide : 2 ≤ 3)) rfl (g_BadSet c) takesD (da_cons (de_var 2) da_nil)))
  dss_nil)
  (dss_one (ds_ret (de_call1T call_tuple_of pu_tuple rfl (f_tuple c) (by first | rfl | kernel_rfl) (DE.dk (DF.de (df_call1B (cr_sortedD hr.units) pu_sorted rfl (f_sorted c) (by first | rfl | kernel_rfl) (DE.dk (de_var 1)))))))))))
theorem k_check_set (c : Cz P w K mg) : FnR P w K mg base (L2.CX P w) 4 (He.ga K "check_set") (SpD ⟨K, P, w, []⟩ 2 none false m_check_set) := by
  obtain ⟨fd, F⟩ := Df.fun_ (c.told.df 45 (d := d_check_set) rfl) rfl
  exact fnR_all (ok_check_set F c) (F.bindsN fun _ _ _ _ _ _ us hl => match us, hl with | [_, _], _ => rfl)
theorem ok_restricted {fd : FuncData} (F : FunD K d_restricted.name d_restricted.qual d_restricted.params d_restricted.body d_restricted.scope (d_restricted.dfl.map (He.Dv.v K)) [] (He.ga K "restricted") fd) (c : Cz P w K mg) : FnOk P w K mg base (L2.CX P w) 11 (He.ga K "restricted") fd ["marks", "things"] (SpD ⟨K, P, w, []⟩ 2 none false m_restricted) := by
  refine fnD (N := n_restricted) (ps := ["marks", "things"]) (k := 10) (ms := ⟨[], []⟩) (io := none) (fr := false) (g := b_restricted) F (fscB_ok (by decide +kernel)) (msB_ok (by decide)) (by decide) ?_
  intro cdv A outer s H E hr
  exact (dss_cons (ds_set 2 (de_call (k_check_set c) (Room.mono hr (by decide : 4 ≤ 10)) rfl (g_check_set c) (kp_check_set c) takesD (da_cons (de_fld ocs 53 (fld_size c) (DE.dk (de_var 0))) (da_cons (de_var 1) da_nil))) n_nd_restricted)
  (dss_cons (ds_if (dt_cmp (op_ltD hr.units) pu_lt (de_call1B call_len_seq pu_len rfl (f_len c) (by first | rfl | kernel_rfl) (DE.dk (de_var 2))) (DE.dk (de_op op_sub pu_sub (de_fld ocs 83 (fld_level c) (DE.dk (de_var 0))) (DE.dk de_int))))
  (dss_one (ds_raise 190 [53, 83] rfl (ex_OtherShape c) (Room.mono hr (by decide : 2 ≤ 10)) rfl (g_OtherShape c) takesD (da_cons (de_call1B call_len_seq pu_len rfl (f_len c) (by first | rfl | kernel_rfl) (DE.dk (de_var 2))) (da_cons (de_fld ocs 83 (fld_level c) (DE.dk (de_var 0))) da_nil))))
  dss_nil)
  (dss_one (ds_ret (de_call (k__like c) (Room.mono hr (by decide : 10 ≤ 10)) rfl (g__like c) (kp__like c) takesD (da_cons (de_var 0) (da_cons (de_call1B call_len_seq pu_len rfl (f_len c) (by first | rfl | kernel_rfl) (DE.dk (de_var 2))) (da_cons (de_fld ocs 83 (fld_level c) (DE.dk (de_var 0))) (da_cons (DF.de (df_call (k__inside c) (Room.mono hr (by decide : 2 ≤ 10)) rfl (g__inside c) (kp__inside c) takesD (da_cons (de_var 0) (da_cons (de_var 2) da_nil)))) da_nil)))))))))
theorem k_restricted (c : Cz P w K mg) : FnR P w K mg base (L2.CX P w) 11 (He.ga K "restricted") (SpD ⟨K, P, w, []⟩ 2 none false m_restricted) := by
  obtain ⟨fd, F⟩ := Df.fun_ (c.told.df 46 (d := d_restricted) rfl) rfl
  exact fnR_all (ok_restricted F c) (F.bindsN fun _ _ _ _ _ _ us hl => match us, hl with | [_, _], _ => rfl)
theorem ok__law_kept_told {fd : FuncData} (F : FunD K d__law_kept_told.name d__law_kept_told.qual d__law_kept_told.params d__law_kept_told.body d__law_kept_told.scope (d__law_kept_told.dfl.map (He.Dv.v K)) [] (He.ga K "_law_kept_told") fd) (c : Cz P w K mg) : FnOk P w K mg base (L2.CX P w) 12 (He.ga K "_law_kept_told") fd ["_law_made", "_law_things"] (SpD ⟨K, P, w, []⟩ 2 none false m__law_kept_told) := by
  refine fnD (N := n__law_kept_told) (ps := ["_law_made", "_law_things"]) (k := 11) (ms := ⟨[], []⟩) (io := none) (fr := false) (g := b__law_kept_told) F (fscB_ok (by decide +kernel)) (msB_ok (by decide)) (by decide) ?_
  intro cdv A outer s H E hr
  exact (dss_cons (ds_set 2 (de_tup (da_cons (de_str 51) (da_cons de_int da_nil))) n_nd__law_kept_told)
  (dss_cons (ds_try (krf := rkD) rfl rfl rfl n_nd__law_kept_told takesD krt_D (fun Wy pn xe tk po => (dss_one (ds_set 2 (de_tup (da_cons (de_str 44) (da_cons (de_call (k_restricted c) (Room.mono hr (by decide : 11 ≤ 11)) rfl (g_restricted c) (kp_restricted c) tk (da_cons (de_var 0) (da_cons (de_var 1) da_nil))) da_nil))) n_nd__law_kept_told))) (.cons ⟨rfl, hdn_BadSet c rfl, hdy_BadSet c, hdno_BadSet c, ⟨rfl, rfl, rfl, rfl⟩, fun a oe pn => (dss_one (ds_set 2 (de_tup (da_cons (de_str 27) (da_cons (de_xf 3 [98] 88 (xf_BadSet_place c)) da_nil))) n_nd__law_kept_told))⟩ (.cons ⟨rfl, hdn_OtherShape c rfl, hdy_OtherShape c, hdno_OtherShape c, ⟨rfl, rfl, rfl, rfl⟩, fun a oe pn => (dss_one (ds_set 2 (de_tup (da_cons (de_str 89) (da_cons (de_xf 3 [190] 53 (xf_OtherShape_size c)) (da_cons (de_xf 3 [190] 83 (xf_OtherShape_level c)) da_nil)))) n_nd__law_kept_told))⟩ .nil)))
  (dss_one (ds_ret (de_var 2)))))
theorem k__law_kept_told (c : Cz P w K mg) : FnR P w K mg base (L2.CX P w) 12 (He.ga K "_law_kept_told") (SpD ⟨K, P, w, []⟩ 2 none false m__law_kept_told) := by
  obtain ⟨fd, F⟩ := Df.fun_ (c.told.df 47 (d := d__law_kept_told) rfl) rfl
  exact fnR_all (ok__law_kept_told F c) (F.bindsN fun _ _ _ _ _ _ us hl => match us, hl with | [_, _], _ => rfl)
theorem ok_Marks___eq__ {fd : FuncData} (F : FunD K d_Marks___eq__.name d_Marks___eq__.qual d_Marks___eq__.params d_Marks___eq__.body d_Marks___eq__.scope (d_Marks___eq__.dfl.map (He.Dv.v K)) [] (He.ma K (He.ga K "Marks") "__eq__") fd) (c : Cz P w K mg) : FnOk P w K mg base (L2.CX P w) 2 (He.ma K (He.ga K "Marks") "__eq__") fd ["self", "other"] (SpD ⟨K, P, w, []⟩ 2 none false m_Marks___eq__) := by
  refine fnD (N := n_Marks___eq__) (ps := ["self", "other"]) (k := 1) (ms := ⟨[], []⟩) (io := none) (fr := false) (g := b_Marks___eq__) F (fscB_ok (by decide +kernel)) (msB_ok (by decide)) (by decide) ?_
  intro cdv A outer s H E hr
  exact (dss_one (ds_ret (de_and (de_isaC is_Marks 62 (isok_Marks c) (DE.dk (de_var 1)) rfl (f_isinstance c) rfl (g_Marks c)) (de_and (de_cmp (op_eqD hr.units) pu_eq (de_fld ocs 53 (fld_size c) (DE.dk (de_var 0))) (DE.dk (de_fld ocs 53 (fld_size c) (DE.dk (de_var 1))))) (de_and (de_cmp (op_eqD hr.units) pu_eq (de_fld ocs 83 (fld_level c) (DE.dk (de_var 0))) (DE.dk (de_fld ocs 83 (fld_level c) (DE.dk (de_var 1))))) (de_one (de_cmp (op_eqD hr.units) pu_eq (de_fld ocs 122 (fld_marked c) (DE.dk (de_var 0))) (DE.dk (de_fld ocs 122 (fld_marked c) (DE.dk (de_var 1)))))))))))
theorem k_Marks___eq__ (c : Cz P w K mg) : FnR P w K mg base (L2.CX P w) 2 (He.ma K (He.ga K "Marks") "__eq__") (SpD ⟨K, P, w, []⟩ 2 none false m_Marks___eq__) := by
  obtain ⟨fd, F⟩ := Df.fun_ (c.told.df 48 (d := d_Marks___eq__) rfl) rfl
  exact fnR_all (ok_Marks___eq__ F c) (F.bindsN fun _ _ _ _ _ _ us hl => match us, hl with | [_, _], _ => rfl)
theorem to_eq {X : Cx} (c : Cz X.prog X.w X.K X.mg) (hx : tx X = ⟨X.K, X.prog, X.w, []⟩) : EqOk X 2 t_eq := fun p h => by
  rcases List.mem_cons.mp h with rfl | h
  · exact ⟨⟨_, me_Marks_eq c, by (unfold Fn; rw [hx]; exact FnR.up (k_Marks___eq__ c) (by decide))⟩, (ne_Marks c).1, (ne_Marks c).2, fun i hi => by (have z : i ∈ ([62] : List Nat) := mem_cs hi; simp only [List.mem_cons, List.not_mem_nil, or_false] at z; rcases z with rfl <;> first | exact nf_Marks_Marks c)⟩
  rcases List.mem_cons.mp h with rfl | h
  · exact ⟨⟨_, me_Family_eq c, by (unfold Fn; rw [hx]; exact FnR.up (k_Marks___eq__ c) (by decide))⟩, (ne_Family c).1, (ne_Family c).2, fun i hi => by (have z : i ∈ ([62, 100] : List Nat) := mem_cs hi; simp only [List.mem_cons, List.not_mem_nil, or_false] at z; rcases z with rfl | rfl <;> first | exact nf_Family_Marks c | exact nf_Family_Family c)⟩
  · cases h
theorem ok_packet_marks {fd : FuncData} (F : FunD K d_packet_marks.name d_packet_marks.qual d_packet_marks.params d_packet_marks.body d_packet_marks.scope (d_packet_marks.dfl.map (He.Dv.v K)) [] (He.ga K "packet_marks") fd) (c : Cz P w K mg) : FnOk P w K mg base (L2.CX P w) 5 (He.ga K "packet_marks") fd ["marks", "things"] (SpD ⟨K, P, w, []⟩ 2 none false m_packet_marks) := by
  refine fnD (N := n_packet_marks) (ps := ["marks", "things"]) (k := 4) (ms := ⟨[], []⟩) (io := none) (fr := false) (g := b_packet_marks) F (fscB_ok (by decide +kernel)) (msB_ok (by decide)) (by decide) ?_
  intro cdv A outer s H E hr
  exact (dss_cons (ds_set 2 (de_call (k_check_set c) (Room.mono hr (by decide : 4 ≤ 4)) rfl (g_check_set c) (kp_check_set c) takesD (da_cons (de_fld ocs 53 (fld_size c) (DE.dk (de_var 0))) (da_cons (de_var 1) da_nil))) n_nd_packet_marks)
  (dss_cons (ds_if (dt_cmp (op_neD hr.units) pu_ne (de_call1B call_len_seq pu_len rfl (f_len c) (by first | rfl | kernel_rfl) (DE.dk (de_var 2))) (DE.dk (de_op op_addA pu_add (de_fld ocs 83 (fld_level c) (DE.dk (de_var 0))) (DE.dk de_int))))
  (dss_one (ds_raise 98 [88] rfl (ex_BadSet c) (Room.mono hr (by decide : 2 ≤ 4)) rfl (g_BadSet c) takesD (da_cons (de_un un_neg pu_neg (DE.dk de_int)) da_nil)))
  dss_nil)
  (dss_one (ds_ret (de_call1T call_tuple_of pu_tuple rfl (f_tuple c) (by first | rfl | kernel_rfl) (DE.dk (DF.de (df_lc 3 (di_seq (de_call (k__packet c) (Room.mono hr (by decide : 2 ≤ 4)) rfl (g__packet c) (kp__packet c) takesD (da_cons (de_var 2) da_nil))) dts_nil (fun s0 H0 C cl fp => (de_ifExp (dt_cmp (op_inA (units1 hr)) pu_in (de_var 3) (DE.dk (de_fld ocs 122 (fld_marked c) (DE.dk (de_var 0))))) de_int de_int)) rfl n_nd_packet_marks (blkB_ok rfl) (fun s0 H0 C cl fp => pg_name n_nd_packet_marks (i := 3) rfl (by first | exact Or.inl rfl | exact Or.inr rfl))))))))))
theorem k_packet_marks (c : Cz P w K mg) : FnR P w K mg base (L2.CX P w) 5 (He.ga K "packet_marks") (SpD ⟨K, P, w, []⟩ 2 none false m_packet_marks) := by
  obtain ⟨fd, F⟩ := Df.fun_ (c.told.df 49 (d := d_packet_marks) rfl) rfl
  exact fnR_all (ok_packet_marks F c) (F.bindsN fun _ _ _ _ _ _ us hl => match us, hl with | [_, _], _ => rfl)
theorem ok__law_inside {fd : FuncData} (F : FunD K d__law_inside.name d__law_inside.qual d__law_inside.params d__law_inside.body d__law_inside.scope (d__law_inside.dfl.map (He.Dv.v K)) [] (He.ga K "_law_inside") fd) (c : Cz P w K mg) : FnOk P w K mg base (L2.CX P w) 2 (He.ga K "_law_inside") fd ["_law_marked", "_law_things"] (SpD ⟨K, P, w, []⟩ 2 none false m__law_inside) := by
  refine fnD (N := n__law_inside) (ps := ["_law_marked", "_law_things"]) (k := 1) (ms := ⟨[], []⟩) (io := none) (fr := false) (g := b__law_inside) F (fscB_ok (by decide +kernel)) (msB_ok (by decide)) (by decide) ?_
  intro cdv A outer s H E hr
  exact (dss_cons (tmS_lc 4 2 (di_seq (de_var 0)) (dts_one rfl (fun s0 H0 C cl fp => (dt_cmp (op_eqD hr.units) pu_eq (de_call1B call_len_seq pu_len rfl (f_len c) (by first | rfl | kernel_rfl) (DE.dk (DF.de (df_lc 3 (di_seq (de_var 2)) (dts_one rfl (fun s0 H0 C cl fp => (dt_cmp (op_inA (units1 hr)) pu_in (de_var 3) (DE.dk (de_var 1))))) (fun s0 H0 C cl fp => (de_var 3)) rfl n_nd__law_inside (blkB_ok rfl) (fun s0 H0 C cl fp => pg_name n_nd__law_inside (i := 3) rfl (by first | exact Or.inl rfl | exact Or.inr rfl)))))) (DE.dk (de_call1B call_len_seq pu_len rfl (f_len c) (by first | rfl | kernel_rfl) (DE.dk (de_var 2))))))) (fun s0 H0 C cl fp => (de_var 2)) rfl n_nd__law_inside (blkB_ok rfl) (fun s0 H0 C cl fp => pg_name n_nd__law_inside (i := 2) rfl (by first | exact Or.inl rfl | exact Or.inr rfl)))
  (dss_one (ds_ret (DF.de (df_call1B (cr_sortedD hr.units) pu_sorted rfl (f_sorted c) (by first | rfl | kernel_rfl) (DE.dk (DF.de (df_lc 2 (di_seq (de_var 4)) dts_nil (fun s0 H0 C cl fp => (de_call1T call_tuple_of pu_tuple rfl (f_tuple c) (by first | rfl | kernel_rfl) (DE.dk (DF.de (df_lc 3 (di_seq (de_var 2)) dts_nil (fun s0 H0 C cl fp => (de_index (units1 hr) (de_var 1) (de_var 3))) rfl n_nd__law_inside (blkB_ok rfl) (fun s0 H0 C cl fp => pg_name n_nd__law_inside (i := 3) rfl (by first | exact Or.inl rfl | exact Or.inr rfl))))))) rfl n_nd__law_inside (blkB_ok rfl) (fun s0 H0 C cl fp => pg_name n_nd__law_inside (i := 2) rfl (by first | exact Or.inl rfl | exact Or.inr rfl))))))))))
theorem k__law_inside (c : Cz P w K mg) : FnR P w K mg base (L2.CX P w) 2 (He.ga K "_law_inside") (SpD ⟨K, P, w, []⟩ 2 none false m__law_inside) := by
  obtain ⟨fd, F⟩ := Df.fun_ (c.told.df 50 (d := d__law_inside) rfl) rfl
  exact fnR_all (ok__law_inside F c) (F.bindsN fun _ _ _ _ _ _ us hl => match us, hl with | [_, _], _ => rfl)
theorem ok__law_share {fd : FuncData} (F : FunD K d__law_share.name d__law_share.qual d__law_share.params d__law_share.body d__law_share.scope (d__law_share.dfl.map (He.Dv.v K)) [] (He.ga K "_law_share") fd) (c : Cz P w K mg) : FnOk P w K mg base (L2.CX P w) 13 (He.ga K "_law_share") fd ["_law_made", "_law_marked", "_law_chosen"] (SpD ⟨K, P, w, []⟩ 3 none false m__law_share) := by
  refine fnD (N := n__law_share) (ps := ["_law_made", "_law_marked", "_law_chosen"]) (k := 12) (ms := ⟨[], []⟩) (io := none) (fr := false) (g := b__law_share) F (fscB_ok (by decide +kernel)) (msB_ok (by decide)) (by decide) ?_
  intro cdv A outer s H E hr
  exact (dss_cons (ds_set 3 (de_fld ocs 53 (fld_size c) (DE.dk (de_var 0))) n_nd__law_share)
  (dss_cons (ds_set 4 (de_fld ocs 83 (fld_level c) (DE.dk (de_var 0))) n_nd__law_share)
  (dss_cons (ds_set 5 (de_call (k__law_kept_told c) (Room.mono hr (by decide : 12 ≤ 12)) rfl (g__law_kept_told c) (kp__law_kept_told c) takesD (da_cons (de_var 0) (da_cons (DF.de (df_rev (DE.dk (DF.de (df_call1T call_list_of pu_list rfl (f_list c) (by first | rfl | kernel_rfl) (DE.dk (de_var 2))))))) da_nil))) n_nd__law_share)
  (dss_cons (ds_if (dt_cmp (op_ltD hr.units) pu_lt (de_call1B call_len_seq pu_len rfl (f_len c) (by first | rfl | kernel_rfl) (DE.dk (de_var 2))) (DE.dk (de_op op_sub pu_sub (de_var 4) (DE.dk de_int))))
  (dss_one (ds_ret (de_cmp (op_eqD hr.units) pu_eq (de_var 5) (DE.dk (de_tup (da_cons (de_str 89) (da_cons (de_call1B call_len_seq pu_len rfl (f_len c) (by first | rfl | kernel_rfl) (DE.dk (de_var 2))) (da_cons (de_var 4) da_nil))))))))
  dss_nil)
  (dss_cons (ds_if (DW.dt (dw_or (dt_cmp (op_neD hr.units) pu_ne (de_ix (de_var 5) (DE.dk de_int)) (DE.dk (de_str 44))) (dw_or1 (dt_not (dt_val (de_call (k__law_is c) (Room.mono hr (by decide : 2 ≤ 12)) rfl (g__law_is c) (kp__law_is c) takesD (da_cons (de_ix (de_var 5) (DE.dk de_int)) (da_cons (de_var 0) (da_cons (de_call1B call_len_seq pu_len rfl (f_len c) (by first | rfl | kernel_rfl) (DE.dk (de_var 2))) (da_cons (de_var 4) (da_cons (de_call (k__law_inside c) (Room.mono hr (by decide : 2 ≤ 12)) rfl (g__law_inside c) (kp__law_inside c) takesD (da_cons (de_var 1) (da_cons (DF.de (df_call1T call_list_of pu_list rfl (f_list c) (by first | rfl | kernel_rfl) (DE.dk (de_var 2)))) da_nil))) da_nil)))))))))))
  (dss_one (ds_ret de_bl))
  dss_nil)
  (dss_cons (ds_for 6 (di_seq (de_call (k__law_lots c) (Room.mono hr (by decide : 2 ≤ 12)) rfl (g__law_lots c) (kp__law_lots c) takesD (da_cons (de_call1B call_len_seq pu_len rfl (f_len c) (by first | rfl | kernel_rfl) (DE.dk (de_var 2))) (da_cons (de_op op_addA pu_add (de_var 4) (DE.dk de_int)) da_nil)))) (dss_one (ds_if (dt_cmp (op_neD hr.units) pu_ne (de_call (k_packet_marks c) (Room.mono hr (by decide : 5 ≤ 12)) rfl (g_packet_marks c) (kp_packet_marks c) takesD (da_cons (de_ix (de_var 5) (DE.dk de_int)) (da_cons (de_var 6) da_nil))) (DE.dk (de_call (k_packet_marks c) (Room.mono hr (by decide : 5 ≤ 12)) rfl (g_packet_marks c) (kp_packet_marks c) takesD (da_cons (de_var 0) (da_cons (DF.de (df_lc 7 (di_seq (de_var 6)) dts_nil (fun s0 H0 C cl fp => (de_ix (de_var 2) (DE.dk (de_var 7)))) rfl n_nd__law_share (blkB_ok rfl) (fun s0 H0 C cl fp => pg_name n_nd__law_share (i := 7) rfl (by first | exact Or.inl rfl | exact Or.inr rfl)))) da_nil)))))
  (dss_one (ds_ret de_bl))
  dss_nil)) ownsD rfl n_nd__law_share)
  (dss_one (ds_ret (de_and (de_cmpR (op_ownEq (Room.mono hr (by decide : 2 ≤ 12))) (pu_ownEq (to_eq c rfl)) (de_ix (de_call (k__law_kept_told c) (Room.mono hr (by decide : 12 ≤ 12)) rfl (g__law_kept_told c) (kp__law_kept_told c) takesD (da_cons (de_var 0) (da_cons (DF.de (df_listRg rfl rfl (f_list c) rfl (f_range c) (de_var 3))) da_nil))) (DE.dk de_int)) (de_var 0)) (de_one (de_cmp (op_eqD hr.units) pu_eq (de_call (k__law_kept_told c) (Room.mono hr (by decide : 12 ≤ 12)) rfl (g__law_kept_told c) (kp__law_kept_told c) takesD (da_cons (de_var 0) (da_cons (DF.de (df_lst (da_cons (de_var 3) da_nil))) da_nil))) (DE.dk (de_tup (da_cons (de_str 27) (da_cons de_int da_nil)))))))))))))))
theorem k__law_share (c : Cz P w K mg) : FnR P w K mg base (L2.CX P w) 13 (He.ga K "_law_share") (SpD ⟨K, P, w, []⟩ 3 none false m__law_share) := by
  obtain ⟨fd, F⟩ := Df.fun_ (c.told.df 51 (d := d__law_share) rfl) rfl
  exact fnR_all (ok__law_share F c) (F.bindsN fun _ _ _ _ _ _ us hl => match us, hl with | [_, _, _], _ => rfl)
theorem ok__law_drawn_set {fd : FuncData} (F : FunD K d__law_drawn_set.name d__law_drawn_set.qual d__law_drawn_set.params d__law_drawn_set.body d__law_drawn_set.scope (d__law_drawn_set.dfl.map (He.Dv.v K)) [] (He.ga K "_law_drawn_set") fd) (c : Cz P w K mg) : FnOk P w K mg base (L2.CX P w) 3 (He.ga K "_law_drawn_set") fd ["_law_draws_here", "_law_size"] (SpD ⟨K, P, w, []⟩ 2 (some 0) false m__law_drawn_set) := by
  refine fnD (N := n__law_drawn_set) (ps := ["_law_draws_here", "_law_size"]) (k := 2) (ms := ⟨[0], [0]⟩) (io := (some 0)) (fr := false) (g := b__law_drawn_set) F (fscB_ok (by decide +kernel)) (msB_ok (by decide)) (by decide) ?_
  intro cdv A outer s H E hr
  exact (dss_one (ds_ret (de_call1T call_tuple_of pu_tuple rfl (f_tuple c) (by first | rfl | kernel_rfl) (DE.dk (DF.de (df_lc 2 (di_rng1 rfl (f_range c) (de_var 1)) (dts_one rfl (fun s0 H0 C cl fp => (dt_cmp (op_eqD hr.units) pu_eq (de_callIo 0 (k__law_take c) (Room.mono hr (by decide : 2 ≤ 2)) rfl (g__law_take c) (kp__law_take c) takesF (da_cons de_int da_nil)) (DE.dk de_int)))) (fun s0 H0 C cl fp => (de_var 2)) rfl n_nd__law_drawn_set (blkB_ok rfl) (fun s0 H0 C cl fp => pg_name n_nd__law_drawn_set (i := 2) rfl (by first | exact Or.inl rfl | exact Or.inr rfl))))))))
theorem k__law_drawn_set (c : Cz P w K mg) : FnR P w K mg base (L2.CX P w) 3 (He.ga K "_law_drawn_set") (SpD ⟨K, P, w, []⟩ 2 (some 0) false m__law_drawn_set) := by
  obtain ⟨fd, F⟩ := Df.fun_ (c.told.df 52 (d := d__law_drawn_set) rfl) rfl
  exact fnR_all (ok__law_drawn_set F c) (F.bindsN fun _ _ _ _ _ _ us hl => match us, hl with | [_, _], _ => rfl)
theorem ok__others {fd : FuncData} (F : FunD K d__others.name d__others.qual d__others.params d__others.body d__others.scope (d__others.dfl.map (He.Dv.v K)) [] (He.ga K "_others") fd) (c : Cz P w K mg) : FnOk P w K mg base (L2.CX P w) 3 (He.ga K "_others") fd ["size", "level", "marked"] (SpD ⟨K, P, w, []⟩ 3 none false m__others) := by
  refine fnD (N := n__others) (ps := ["size", "level", "marked"]) (k := 2) (ms := ⟨[], []⟩) (io := none) (fr := false) (g := b__others) F (fscB_ok (by decide +kernel)) (msB_ok (by decide)) (by decide) ?_
  intro cdv A outer s H E hr
  exact (dss_cons (ds_set 3 (de_call1T (cr_setOfTu rfl hr.units) pu_set rfl (f_set c) (by first | rfl | kernel_rfl) (DE.dk (de_var 2))) n_nd__others)
  (dss_one (ds_ret (de_call1T call_tuple_of pu_tuple rfl (f_tuple c) (by first | rfl | kernel_rfl) (DE.dk (DF.de (df_lc 4 (di_seq (de_call (k__lots c) (Room.mono hr (by decide : 2 ≤ 2)) rfl (g__lots c) (kp__lots c) takesD (da_cons (de_var 0) (da_cons (de_var 1) da_nil)))) (dts_one rfl (fun s0 H0 C cl fp => (dt_cmp (op_notInA (units1 hr)) pu_notIn (de_var 4) (DE.dk (de_var 3))))) (fun s0 H0 C cl fp => (de_var 4)) rfl n_nd__others (blkB_ok rfl) (fun s0 H0 C cl fp => pg_name n_nd__others (i := 4) rfl (by first | exact Or.inl rfl | exact Or.inr rfl)))))))))
theorem k__others (c : Cz P w K mg) : FnR P w K mg base (L2.CX P w) 3 (He.ga K "_others") (SpD ⟨K, P, w, []⟩ 3 none false m__others) := by
  obtain ⟨fd, F⟩ := Df.fun_ (c.told.df 53 (d := d__others) rfl) rfl
  exact fnR_all (ok__others F c) (F.bindsN fun _ _ _ _ _ _ us hl => match us, hl with | [_, _, _], _ => rfl)
theorem ok_Marks_unmarked {fd : FuncData} (F : FunD K d_Marks_unmarked.name d_Marks_unmarked.qual d_Marks_unmarked.params d_Marks_unmarked.body d_Marks_unmarked.scope (d_Marks_unmarked.dfl.map (He.Dv.v K)) [] (He.ma K (He.ga K "Marks") "unmarked") fd) (c : Cz P w K mg) : FnOk P w K mg base (L2.CX P w) 4 (He.ma K (He.ga K "Marks") "unmarked") fd ["self"] (SpD ⟨K, P, w, []⟩ 1 none false m_Marks_unmarked) := by
  refine fnD (N := n_Marks_unmarked) (ps := ["self"]) (k := 3) (ms := ⟨[], []⟩) (io := none) (fr := false) (g := b_Marks_unmarked) F (fscB_ok (by decide +kernel)) (msB_ok (by decide)) (by decide) ?_
  intro cdv A outer s H E hr
  exact (dss_one (ds_ret (de_call (k__others c) (Room.mono hr (by decide : 3 ≤ 3)) rfl (g__others c) (kp__others c) takesD (da_cons (de_fld ocs 53 (fld_size c) (DE.dk (de_var 0))) (da_cons (de_fld ocs 83 (fld_level c) (DE.dk (de_var 0))) (da_cons (de_fld ocs 122 (fld_marked c) (DE.dk (de_var 0))) da_nil))))))
theorem k_Marks_unmarked (c : Cz P w K mg) : FnR P w K mg base (L2.CX P w) 4 (He.ma K (He.ga K "Marks") "unmarked") (SpD ⟨K, P, w, []⟩ 1 none false m_Marks_unmarked) := by
  obtain ⟨fd, F⟩ := Df.fun_ (c.told.df 54 (d := d_Marks_unmarked) rfl) rfl
  exact fnR_all (ok_Marks_unmarked F c) (F.bindsN fun _ _ _ _ _ _ us hl => match us, hl with | [_], _ => rfl)
theorem mtok_unmarked {X : Cx} (c : Cz X.prog X.w X.K X.mg) (hx : tx X = ⟨X.K, X.prog, X.w, []⟩) : MtOk X 4 1 173 false mt_unmarked := fun p h => by
  rcases List.mem_cons.mp h with rfl | h
  · exact ⟨cl_Marks c, _, me_Marks_unmarked c, by (unfold Fn; rw [hx]; exact FnR.up (k_Marks_unmarked c) (by decide))⟩
  rcases List.mem_cons.mp h with rfl | h
  · exact ⟨cl_Family c, _, me_Family_unmarked c, by (unfold Fn; rw [hx]; exact FnR.up (k_Marks_unmarked c) (by decide))⟩
  · cases h
theorem ok_Marks_contrary {fd : FuncData} (F : FunD K d_Marks_contrary.name d_Marks_contrary.qual d_Marks_contrary.params d_Marks_contrary.body d_Marks_contrary.scope (d_Marks_contrary.dfl.map (He.Dv.v K)) [] (He.ma K (He.ga K "Marks") "contrary") fd) (c : Cz P w K mg) : FnOk P w K mg base (L2.CX P w) 8 (He.ma K (He.ga K "Marks") "contrary") fd ["self"] (SpD ⟨K, P, w, []⟩ 1 none false m_Marks_contrary) := by
  refine fnD (N := n_Marks_contrary) (ps := ["self"]) (k := 7) (ms := ⟨[], []⟩) (io := none) (fr := false) (g := b_Marks_contrary) F (fscB_ok (by decide +kernel)) (msB_ok (by decide)) (by decide) ?_
  intro cdv A outer s H E hr
  exact (dss_one (ds_ret (de_make 62 (mk_Marks_4 c rfl) (Room.mono hr (by decide : 7 ≤ 7)) rfl (g_Marks c) takesD (da_cons (de_fld ocs 53 (fld_size c) (DE.dk (de_var 0))) (da_cons (de_fld ocs 83 (fld_level c) (DE.dk (de_var 0))) (da_cons (de_mth0 173 (mtok_unmarked c rfl) (Room.mono hr (by decide : 4 ≤ 7)) takesD (de_var 0)) da_nil))))))
theorem k_Marks_contrary (c : Cz P w K mg) : FnR P w K mg base (L2.CX P w) 8 (He.ma K (He.ga K "Marks") "contrary") (SpD ⟨K, P, w, []⟩ 1 none false m_Marks_contrary) := by
  obtain ⟨fd, F⟩ := Df.fun_ (c.told.df 55 (d := d_Marks_contrary) rfl) rfl
  exact fnR_all (ok_Marks_contrary F c) (F.bindsN fun _ _ _ _ _ _ us hl => match us, hl with | [_], _ => rfl)
theorem ok_Family_contrary {fd : FuncData} (F : FunD K d_Family_contrary.name d_Family_contrary.qual d_Family_contrary.params d_Family_contrary.body d_Family_contrary.scope (d_Family_contrary.dfl.map (He.Dv.v K)) [] (He.ma K (He.ga K "Family") "contrary") fd) (c : Cz P w K mg) : FnOk P w K mg base (L2.CX P w) 10 (He.ma K (He.ga K "Family") "contrary") fd ["self"] (SpD ⟨K, P, w, []⟩ 1 none false m_Family_contrary) := by
  refine fnD (N := n_Family_contrary) (ps := ["self"]) (k := 9) (ms := ⟨[], []⟩) (io := none) (fr := false) (g := b_Family_contrary) F (fscB_ok (by decide +kernel)) (msB_ok (by decide)) (by decide) ?_
  intro cdv A outer s H E hr
  exact (dss_one (ds_ret (de_make 100 (mk_Family_4 c rfl) (Room.mono hr (by decide : 9 ≤ 9)) rfl (g_Family c) takesD (da_cons (de_fld ocs 53 (fld_size c) (DE.dk (de_var 0))) (da_cons (de_fld ocs 83 (fld_level c) (DE.dk (de_var 0))) (da_cons (de_mth0 173 (mtok_unmarked c rfl) (Room.mono hr (by decide : 4 ≤ 9)) takesD (de_var 0)) da_nil))))))
theorem k_Family_contrary (c : Cz P w K mg) : FnR P w K mg base (L2.CX P w) 10 (He.ma K (He.ga K "Family") "contrary") (SpD ⟨K, P, w, []⟩ 1 none false m_Family_contrary) := by
  obtain ⟨fd, F⟩ := Df.fun_ (c.told.df 56 (d := d_Family_contrary) rfl) rfl
  exact fnR_all (ok_Family_contrary F c) (F.bindsN fun _ _ _ _ _ _ us hl => match us, hl with | [_], _ => rfl)
theorem mtok_contrary {X : Cx} (c : Cz X.prog X.w X.K X.mg) (hx : tx X = ⟨X.K, X.prog, X.w, []⟩) : MtOk X 10 1 167 false mt_contrary := fun p h => by
  rcases List.mem_cons.mp h with rfl | h
  · exact ⟨cl_Marks c, _, me_Marks_contrary c, by (unfold Fn; rw [hx]; exact FnR.up (k_Marks_contrary c) (by decide))⟩
  rcases List.mem_cons.mp h with rfl | h
  · exact ⟨cl_Family c, _, me_Family_contrary c, by (unfold Fn; rw [hx]; exact FnR.up (k_Family_contrary c) (by decide))⟩
  · cases h
theorem ok_law {fd : FuncData} (F : FunD K d_law.name d_law.qual d_law.params d_law.body d_law.scope (d_law.dfl.map (He.Dv.v K)) [] (He.ga K "law") fd) (c : Cz P w K mg) : FnOk P w K mg base (L2.CX P w) 14 (He.ga K "law") fd ["_law_script"] (SpD ⟨K, P, w, []⟩ 1 none false m_law) := by
  refine fnD (N := n_law) (ps := ["_law_script"]) (k := 13) (ms := ⟨[1], []⟩) (io := none) (fr := false) (g := b_law) F (fscB_ok (by decide +kernel)) (msB_ok (by decide)) (by decide) ?_
  intro cdv A outer s H E hr
  exact (dss_cons (ds_setF 1 (df_call (k__law_draws c) (Room.mono hr (by decide : 2 ≤ 13)) rfl (g__law_draws c) (kp__law_draws c) takesD (da_cons (de_var 0) da_nil)) n_nd_law)
  (dss_cons (ds_set 2 (de_callIo 1 (k__law_shape c) (Room.mono hr (by decide : 3 ≤ 13)) rfl (g__law_shape c) (kp__law_shape c) takesD da_nil) n_nd_law)
  (dss_cons (ds_if (dt_cmp (op_eqD hr.units) pu_eq (de_callIo 1 (k__law_take c) (Room.mono hr (by decide : 2 ≤ 13)) rfl (g__law_take c) (kp__law_take c) takesD (da_cons de_int da_nil)) (DE.dk de_int))
  (dss_one (ds_set 2 (de_callIo 1 (k__law_edge c) (Room.mono hr (by decide : 3 ≤ 13)) rfl (g__law_edge c) (kp__law_edge c) takesD da_nil) n_nd_law))
  dss_nil)
  (dss_cons (ds_set 3 (de_ix (de_var 2) (DE.dk de_int)) n_nd_law)
  (dss_cons (ds_set 4 (de_ix (de_var 2) (DE.dk de_int)) n_nd_law)
  (dss_cons (ds_set 5 (de_callIo 1 (k__law_marks c) (Room.mono hr (by decide : 6 ≤ 13)) rfl (g__law_marks c) (kp__law_marks c) takesD (da_cons (de_var 3) (da_cons (de_var 4) da_nil))) n_nd_law)
  (dss_cons (ds_set 6 (de_call (k__law_keeps c) (Room.mono hr (by decide : 3 ≤ 13)) rfl (g__law_keeps c) (kp__law_keeps c) takesD (da_cons (de_var 3) (da_cons (de_var 4) (da_cons (de_var 5) da_nil)))) n_nd_law)
  (dss_cons (ds_set 7 (de_make 62 (mk_Marks_4 c rfl) (Room.mono hr (by decide : 7 ≤ 13)) rfl (g_Marks c) takesD (da_cons (de_var 3) (da_cons (de_var 4) (da_cons (DF.de (df_call1T call_list_of pu_list rfl (f_list c) (by first | rfl | kernel_rfl) (DE.dk (de_var 5)))) da_nil)))) n_nd_law)
  (dss_cons (ds_if (DW.dt (dw_and (dt_tru (DE.dk (de_var 6))) (dw_and1 (dt_cmp (op_eqD hr.units) pu_eq (de_callIo 1 (k__law_take c) (Room.mono hr (by decide : 2 ≤ 13)) rfl (g__law_take c) (kp__law_take c) takesD (da_cons de_int da_nil)) (DE.dk de_int)))))
  (dss_one (ds_set 7 (de_make 100 (mk_Family_4 c rfl) (Room.mono hr (by decide : 9 ≤ 13)) rfl (g_Family c) takesD (da_cons (de_var 3) (da_cons (de_var 4) (da_cons (DF.de (df_call1T call_list_of pu_list rfl (f_list c) (by first | rfl | kernel_rfl) (DE.dk (de_var 5)))) da_nil)))) n_nd_law))
  dss_nil)
  (dss_cons (ds_if (dt_not (dt_val (de_call (k__law_all_left c) (Room.mono hr (by decide : 13 ≤ 13)) rfl (g__law_all_left c) (kp__law_all_left c) takesD (da_cons (de_var 7) (da_cons (de_var 5) (da_cons (de_var 6) da_nil))))))
  (dss_one (ds_ret de_bl))
  dss_nil)
  (dss_cons (ds_if (dt_not (dt_val (de_call (k__law_share c) (Room.mono hr (by decide : 13 ≤ 13)) rfl (g__law_share c) (kp__law_share c) takesD (da_cons (de_var 7) (da_cons (de_var 5) (da_cons (de_callIo 1 (k__law_drawn_set c) (Room.mono hr (by decide : 3 ≤ 13)) rfl (g__law_drawn_set c) (kp__law_drawn_set c) takesD (da_cons (de_var 3) da_nil)) da_nil))))))
  (dss_one (ds_ret de_bl))
  dss_nil)
  (dss_cons (ds_if (dt_not (dt_val (de_call (k__law_share c) (Room.mono hr (by decide : 13 ≤ 13)) rfl (g__law_share c) (kp__law_share c) takesD (da_cons (de_var 7) (da_cons (de_var 5) (da_cons (de_tupRg rfl rfl (f_tuple c) rfl (f_range c) (de_callB (call_min2 rfl) pu_min2 rfl (f_min c) (by first | rfl | kernel_rfl) (da_cons (de_var 3) (da_cons (de_op op_addA pu_add (de_var 4) (DE.dk de_int)) da_nil)))) da_nil))))))
  (dss_one (ds_ret de_bl))
  dss_nil)
  (dss_cons (ds_for 8 (di_seq (DF.de (df_lst (da_cons (de_var 3) (da_cons (de_un un_neg pu_neg (DE.dk de_int)) (da_cons de_bl (da_cons de_non da_nil))))))) (dss_one (ds_if (dt_cmp (op_neD hr.units) pu_ne (de_call (k__law_left_told c) (Room.mono hr (by decide : 12 ≤ 13)) rfl (g__law_left_told c) (kp__law_left_told c) takesD (da_cons (de_var 7) (da_cons (de_var 8) da_nil))) (DE.dk (de_tup (da_cons (de_str 123) (da_cons (de_str 90) da_nil)))))
  (dss_one (ds_ret de_bl))
  dss_nil)) ownsD rfl n_nd_law)
  (dss_cons (ds_if (dt_cmp (op_neD hr.units) pu_ne (de_call (k__law_kept_told c) (Room.mono hr (by decide : 12 ≤ 13)) rfl (g__law_kept_told c) (kp__law_kept_told c) takesD (da_cons (de_var 7) (da_cons de_int da_nil))) (DE.dk (de_tup (da_cons (de_str 27) (da_cons (de_un un_neg pu_neg (DE.dk de_int)) da_nil)))))
  (dss_one (ds_ret de_bl))
  dss_nil)
  (dss_cons (ds_set 9 (DF.de (df_call (k__law_others c) (Room.mono hr (by decide : 3 ≤ 13)) rfl (g__law_others c) (kp__law_others c) takesD (da_cons (de_var 3) (da_cons (de_var 4) (da_cons (de_var 5) da_nil))))) n_nd_law)
  (dss_one (ds_ret (de_and (de_call (k__law_is c) (Room.mono hr (by decide : 2 ≤ 13)) rfl (g__law_is c) (kp__law_is c) takesD (da_cons (de_mth0 167 (mtok_contrary c rfl) (Room.mono hr (by decide : 10 ≤ 13)) takesD (de_var 7)) (da_cons (de_var 7) (da_cons (de_var 3) (da_cons (de_var 4) (da_cons (de_var 9) da_nil)))))) (de_one (de_cmp (op_eqD hr.units) pu_eq (de_fld ocs 122 (fld_marked c) (DE.dk (de_var 7))) (DE.dk (de_call1T call_tuple_of pu_tuple rfl (f_tuple c) (by first | rfl | kernel_rfl) (DE.dk (de_var 5))))))))))))))))))))))))
theorem k_law (c : Cz P w K mg) : FnR P w K mg base (L2.CX P w) 14 (He.ga K "law") (SpD ⟨K, P, w, []⟩ 1 none false m_law) := by
  obtain ⟨fd, F⟩ := Df.fun_ (c.told.df 57 (d := d_law) rfl) rfl
  exact fnR_all (ok_law F c) (F.bindsN fun _ _ _ _ _ _ us hl => match us, hl with | [_], _ => rfl)
end
end KX

set_option Elab.async false
set_option linter.all false
set_option maxRecDepth 100000
set_option maxHeartbeats 4000000
/-! running mirrors by rewriting -/
open L2
namespace DL
section
variable {α β : Type} {a : α} {e env : En} {c : Nat} {n : List Nat} {d d' : D} {ds : List D} {k : α → En → R β}
@[simp] theorem bind_ok : (R.ok a e).bind k = k a e := id rfl
@[simp] theorem bind_err : (R.err c n ds e : R α).bind k = .err c n ds e := id rfl
@[simp] theorem bind_stuck : (R.stuck : R α).bind k = .stuck := id rfl
@[simp] theorem of_some : M.of (some a) e = .ok a e := id rfl
@[simp] theorem of_none : M.of (none : Option α) e = .stuck := id rfl
theorem bind_ite {p : Prop} [Decidable p] {x y : R α} : (if p then x else y).bind k = if p then x.bind k else y.bind k := by split <;> rfl
end
section
variable {f g : M Fl} {fd fd' : M D} {fs : M (List D)} {c c' : M Bool} {env : En} {i : Nat} {d : D}
@[simp] theorem sSeq_ap : sSeq f g env = (f env).bind fun fl e => match fl with
  | .nx => g e
  | fl => .ok fl e := id rfl
@[simp] theorem sIf_ap : sIf c f g env = (c env).bind fun b e => if b = true then f e else g e := id rfl
@[simp] theorem sExpr_ap : sExpr fd env = (fd env).bind fun _ e => .ok .nx e := id rfl
@[simp] theorem sRet_ap : sRet fd env = (fd env).bind fun d e => .ok (.rt d) e := id rfl
@[simp] theorem sSet_ap : sSet i fd env = (fd env).bind fun d e => .ok .nx (e.set i (some d)) := id rfl
@[simp] theorem sNx_ap : sNx env = .ok .nx env := id rfl
@[simp] theorem vC_ap : vC d env = .ok d env := id rfl
@[simp] theorem vVar_ap : vVar i env = match env[i]? with
  | some (some d) => .ok d env
  | _ => .stuck := id rfl
@[simp] theorem vVarL_ap : vVarL i env = match env[i]? with
  | some (some (.lst l)) => .ok (.lst l) env
  | _ => .stuck := id rfl
@[simp] theorem op1_ap {h : D → Option D} : op1 h fd env = (fd env).bind fun d e => M.of (h d) e := id rfl
@[simp] theorem op2_ap {h : D → D → Option D} : op2 h fd fd' env = (fd env).bind fun d e => (fd' e).bind fun d' e' => M.of (h d d') e' := id rfl
@[simp] theorem opN_ap {h : List D → Option D} : opN h fs env = (fs env).bind fun ds e => M.of (h ds) e := id rfl
@[simp] theorem aNil_ap : aNil env = .ok [] env := id rfl
@[simp] theorem aCons_ap : aCons fd fs env = (fd env).bind fun d e => (fs e).bind fun ds e' => .ok (d :: ds) e' := id rfl
@[simp] theorem tB1_ap : tB1 fd env = (fd env).bind fun d e => M.of (asB d) e := id rfl
@[simp] theorem asB_ap {b : Bool} : asB (.bl b) = some b := id rfl
@[simp] theorem tTru_ap : tTru fd env = (fd env).bind fun d e => M.of (truD d) e := id rfl
@[simp] theorem bNot_ap : bNot c env = (c env).bind fun b e => .ok (!b) e := id rfl
@[simp] theorem bAnd_ap : bAnd c c' env = (c env).bind fun b e => if b = true then c' e else .ok false e := id rfl
@[simp] theorem bOr_ap : bOr c c' env = (c env).bind fun b e => if b = true then .ok true e else c' e := id rfl
@[simp] theorem bTrue_ap : bTrue env = .ok true env := id rfl
@[simp] theorem iff_ap {α : Type} {x y : M α} : iff_ c x y env = (c env).bind fun b e => if b = true then x e else y e := id rfl
@[simp] theorem vAnd_ap : vAnd fd fd' env = (fd env).bind fun d e => match d with
  | .bl true => fd' e
  | .bl false => .ok (.bl false) e
  | _ => .stuck := id rfl
@[simp] theorem vOr_ap : vOr fd fd' env = (fd env).bind fun d e => match d with
  | .bl true => .ok (.bl true) e
  | .bl false => fd' e
  | _ => .stuck := by
  unfold vOr
  congr 1
  funext d e
  cases d with
  | bl b => cases b <;> rfl
  | _ => rfl
@[simp] theorem sFor_ap {it : M (List D)} : sFor i it f env = (it env).bind fun xs e => forM i f xs e := id rfl
@[simp] theorem iSeq_ap : iSeq fd env = (fd env).bind fun d e => M.of (match d with | .tup l => some l | .lst l => some l | _ => none) e := id rfl
@[simp] theorem iRng_ap {h : List D → Option (List D)} : iRng h fs env = (fs env).bind fun ds e => M.of (h ds) e := id rfl
@[simp] theorem vPart_none : vPart none env = .ok none env := id rfl
@[simp] theorem vPart_some : vPart (some fd) env = (fd env).bind fun d e => match d with
  | .int i => .ok (some i) e
  | _ => .stuck := id rfl
@[simp] theorem vSl_ap {h : D → Option Int → Option Int → Option D} {fl fh : M (Option Int)} : vSl h fd fl fh env = (fd env).bind fun d e => (fl e).bind fun lo e1 => (fh e1).bind fun hi e2 => M.of (h d lo hi) e2 := id rfl
@[simp] theorem sAug_ap {h : D → D → Option D} : sAug i h fd env = match env[i]? with
  | some (some d) => (fd env).bind fun e env1 => match h d e with
    | some z => .ok .nx (env1.set i (some z))
    | none => .stuck
  | _ => .stuck := id rfl
@[simp] theorem cCall_ap {np : Nat} {m : List D → Rs} : cCall np m fs env = (fs env).bind fun ds e => if ds.length = np then (match m ds with
  | .ok d _ => .ok d e
  | .err c ns es _ => .err c ns es e
  | .stuck => .stuck) else .stuck := id rfl
@[simp] theorem cCallRo_ap {fr : Bool} {np : Nat} {m : List D → Rs} : cCallRo fr np m fs env = (fs env).bind fun ds e => if ds.length = np then (match m ds with
  | .ok d _ => if flatF fr d = true then .ok d e else .stuck
  | .err c ns es _ => if flatL es = true then .err c ns es e else .stuck
  | .stuck => .stuck) else .stuck := id rfl
@[simp] theorem ioRun_ok {j : Nat} {d io : D} : ioRun j (.ok d (some io)) env = .ok d (env.set j (some io)) := id rfl
@[simp] theorem cCallIo_ap {np j : Nat} {m : List D → Rs} : cCallIo np j m fs env = match env[j]? with
  | some (some _) => (fs env).bind fun ds env1 => (match env1[j]? with
    | some (some d0) => if ds.length + 1 = np then ioRun j (m (d0 :: ds)) env1 else .stuck
    | _ => .stuck)
  | _ => .stuck := id rfl
@[simp] theorem aOwn_ap {j : Nat} : aOwn j fs env = match env[j]? with
  | some (some (.lst _)) => (fs env).bind fun ds env1 => match env1[j]? with
    | some (some (.lst l)) => .ok (.lst l :: ds) env1
    | _ => .stuck
  | _ => .stuck := id rfl
@[simp] theorem vMeth_ap {h : List D → List D → Option (D × List D)} : vMeth i h fs env = match env[i]? with
  | some (some (.lst _)) => (fs env).bind fun ds env1 => match env1[i]? with
    | some (some (.lst l)) => match h l ds with
      | some (d, l') => .ok d (env1.set i (some (.lst l')))
      | none => .stuck
    | _ => .stuck
  | _ => .stuck := id rfl
@[simp] theorem sRaise_ap {c : Nat} {ns : List Nat} : sRaise c ns fs env = (fs env).bind fun ds e => if ds.length = ns.length then .err c ns ds e else .stuck := id rfl
end
theorem runF_ok {n : Nat} {io : Option Nat} {fr : Bool} {body : M Fl} {ds : List D} {d : D} {e : En} (h : body (ds.map some ++ List.replicate (n - ds.length) none) = .ok (.rt d) e) : runF n io fr body ds = .ok d (ioOf io e) := by
  unfold runF
  rw [h]
theorem runF_err {n : Nat} {io : Option Nat} {fr : Bool} {body : M Fl} {ds : List D} {c : Nat} {ns : List Nat} {es : List D} {e : En} (h : body (ds.map some ++ List.replicate (n - ds.length) none) = .err c ns es e) : runF n io fr body ds = .err c ns es (ioOf io e) := by
  unfold runF
  rw [h]
theorem runF_nx {n : Nat} {io : Option Nat} {body : M Fl} {ds : List D} {e : En} (h : body (ds.map some ++ List.replicate (n - ds.length) none) = .ok .nx e) : runF n io false body ds = .ok .non (ioOf io e) := by
  unfold runF
  rw [h]
  rfl
/-! ### operators -/
section
variable {i j : Int} {l m : List D} {b : Bool}
@[simp] theorem lenD_lst : lenD (.lst l) = some (.int l.length) := id rfl
@[simp] theorem lenD_tup : lenD (.tup l) = some (.int l.length) := id rfl
@[simp] theorem subD_int : subD (.int i) (.int j) = some (.int (i - j)) := id rfl
@[simp] theorem addD_int : addD (.int i) (.int j) = some (.int (i + j)) := id rfl
@[simp] theorem negD_int : negD (.int i) = some (.int (-i)) := id rfl
@[simp] theorem ltI_int : ltI (.int i) (.int j) = some (.bl (decide (i < j))) := id rfl
@[simp] theorem leI_int : leI (.int i) (.int j) = some (.bl (decide (i ≤ j))) := id rfl
@[simp] theorem gtI_int : gtI (.int i) (.int j) = some (.bl (decide (j < i))) := id rfl
@[simp] theorem geI_int : geI (.int i) (.int j) = some (.bl (decide (j ≤ i))) := id rfl
@[simp] theorem ltD_int : ltD (.int i) (.int j) = some (.bl (decide (i < j))) := id rfl
@[simp] theorem eqD_int : eqD (.int i) (.int j) = some (.bl (i == j)) := id rfl
@[simp] theorem neD_int : neD (.int i) (.int j) = some (.bl (!(i == j))) := id rfl
@[simp] theorem eqD_bl {c : Bool} : eqD (.bl b) (.bl c) = some (.bl (b == c)) := id rfl
@[simp] theorem neD_bl {c : Bool} : neD (.bl b) (.bl c) = some (.bl (!(b == c))) := id rfl
@[simp] theorem tupleD_lst : tupleD (.lst l) = some (.tup l) := id rfl
@[simp] theorem tupleD_tup : tupleD (.tup l) = some (.tup l) := id rfl
@[simp] theorem listD_lst : listD (.lst l) = some (.lst l) := id rfl
@[simp] theorem listD_tup : listD (.tup l) = some (.lst l) := id rfl
@[simp] theorem intD_int : intD (.int i) = some (.int i) := id rfl
@[simp] theorem intD_bl : intD (.bl b) = some (.int (if b then 1 else 0)) := id rfl
@[simp] theorem notD_bl : notD (.bl b) = some (.bl (!b)) := id rfl
@[simp] theorem revD_lst : revD (.lst l) = some (.lst l.reverse) := id rfl
@[simp] theorem slD_tup {lo hi : Option Int} : slD (.tup l) lo hi = some (.tup (cutD l lo hi)) := id rfl
@[simp] theorem slD_lst {lo hi : Option Int} : slD (.lst l) lo hi = some (.lst (cutD l lo hi)) := id rfl
@[simp] theorem isNone_non : isNone .non .non = some (.bl true) := id rfl
@[simp] theorem isNone_tup : isNone (.tup l) .non = some (.bl false) := id rfl
@[simp] theorem isNone_int : isNone (.int i) .non = some (.bl false) := id rfl
@[simp] theorem notNone_non : notNone .non .non = some (.bl false) := id rfl
@[simp] theorem notNone_tup : notNone (.tup l) .non = some (.bl true) := id rfl
@[simp] theorem notNone_int : notNone (.int i) .non = some (.bl true) := id rfl
@[simp] theorem min2D_int : min2D [.int i, .int j] = some (.int (if j < i then j else i)) := id rfl
@[simp] theorem max2D_int : max2D [.int i, .int j] = some (.int (if j > i then j else i)) := id rfl
@[simp] theorem truD_tup : truD (.tup l) = some (!l.isEmpty) := id rfl
@[simp] theorem truD_lst : truD (.lst l) = some (!l.isEmpty) := id rfl
@[simp] theorem truD_bl : truD (.bl b) = some b := id rfl
theorem small_of {n : Nat} (h : n ≤ 1000000) : small n = true := Nat.ble_eq_true_of_le h
theorem addD_tup (h : l.length + m.length ≤ 1000000) : addD (.tup l) (.tup m) = some (.tup (l ++ m)) := by
  show (if small (l.length + m.length) = true then _ else _) = _
  rw [if_pos (small_of h)]
theorem addD_lst (h : l.length + m.length ≤ 1000000) : addD (.lst l) (.lst m) = some (.lst (l ++ m)) := by
  show (if small (l.length + m.length) = true then _ else _) = _
  rw [if_pos (small_of h)]
theorem catD_lst (h : l.length + m.length ≤ 1000000) : catD (.lst l) (.lst m) = some (.lst (l ++ m)) := by
  show (if small (l.length + m.length) = true then _ else _) = _
  rw [if_pos (small_of h)]
theorem mkL_of (h : l.length ≤ 1000000) : mkL l = some (.lst l) := if_pos (small_of h)
theorem mkT_of (h : l.length ≤ 1000000) : mkT l = some (.tup l) := if_pos (small_of h)
@[simp] theorem mkL_nil : mkL [] = some (.lst []) := id rfl
@[simp] theorem mkT_nil : mkT [] = some (.tup []) := id rfl
@[simp] theorem mkL_1 {a : D} : mkL [a] = some (.lst [a]) := id rfl
@[simp] theorem mkL_2 {a b : D} : mkL [a, b] = some (.lst [a, b]) := id rfl
@[simp] theorem mkT_1 {a : D} : mkT [a] = some (.tup [a]) := id rfl
@[simp] theorem mkT_2 {a b : D} : mkT [a, b] = some (.tup [a, b]) := id rfl
@[simp] theorem mkT_3 {a b c : D} : mkT [a, b, c] = some (.tup [a, b, c]) := id rfl
theorem append_of {d : D} (h : l.length ≤ 1000000) : mAppend l [d] = some (.non, l ++ [d]) := by
  show (if small l.length = true then _ else _) = _
  rw [if_pos (small_of h)]
theorem near_of {i : Int} (h : -1000000000 < i) (k : i < 1000000000) : near i = true := Bool.and_eq_true_iff.mpr ⟨decide_eq_true h, decide_eq_true k⟩
theorem upTo_eq (n : Nat) : ∀ lo : Int, upTo lo n = (List.range n).map fun j : Nat => D.int (lo + j) := by
  induction n with
  | zero => intro lo; rfl
  | succ n ih =>
    intro lo
    rw [List.range_succ_eq_map, List.map_cons, List.map_map]
    show D.int lo :: upTo (lo + 1) n = _
    rw [ih]
    congr 1
    · congr 1; omega
    · apply List.map_congr_left
      intro j _
      show D.int (lo + 1 + (j : Int)) = D.int (lo + ((j + 1 : Nat) : Int))
      congr 1
      omega
theorem downTo_eq (n : Nat) : ∀ hi : Int, downTo hi n = (List.range n).map fun j : Nat => D.int (hi - j) := by
  induction n with
  | zero => intro lo; rfl
  | succ n ih =>
    intro lo
    rw [List.range_succ_eq_map, List.map_cons, List.map_map]
    show D.int lo :: downTo (lo - 1) n = _
    rw [ih]
    congr 1
    · congr 1; omega
    · apply List.map_congr_left
      intro j _
      show D.int (lo - 1 - (j : Int)) = D.int (lo - ((j + 1 : Nat) : Int))
      congr 1
      omega
abbrev nI (n : Nat) : D := .int n
theorem rng1_of {n : Nat} (h : n < 1000000000) : rng1 [.int (n : Int)] = some ((List.range n).map nI) := by
  show (if near (n : Int) = true then some (upTo 0 (n : Int).toNat) else none) = _
  rw [if_pos (near_of (by omega) (by omega)), Int.toNat_natCast, upTo_eq]
  congr 1
  apply List.map_congr_left
  intro j _
  show D.int (0 + (j : Int)) = D.int j
  congr 1
  omega
theorem rng2_of {lo hi : Nat} (h : hi < 1000000000) (h' : lo < 1000000000) : rng2 [.int (lo : Int), .int (hi : Int)] = some ((List.range' lo (hi - lo)).map nI) := by
  show (if (near (lo : Int) && near (hi : Int)) = true then some (upTo lo ((hi : Int) - lo).toNat) else none) = _
  rw [if_pos (Bool.and_eq_true_iff.mpr ⟨near_of (by omega) (by omega), near_of (by omega) (by omega)⟩), upTo_eq, show ((hi : Int) - lo).toNat = hi - lo by omega, List.range'_eq_map_range, List.map_map]
  congr 1
theorem rng3_of {n : Nat} (h : n < 1000000000) : rng3 [.int ((n : Int) - 1), .int (-1), .int (-1)] = some ((List.range n).map fun j : Nat => D.int ((n : Int) - 1 - j)) := by
  show (if (near ((n : Int) - 1) && near (-1) && decide ((-1 : Int) = -1)) = true then some (downTo ((n : Int) - 1) ((n : Int) - 1 - -1).toNat) else none) = _
  rw [if_pos (by rw [near_of (by omega) (by omega), near_of (by omega) (by omega)]; rfl), downTo_eq, show ((n : Int) - 1 - -1).toNat = n by omega]
end
/-! ### comprehensions, loops -/
section
variable {α σ : Type} {i : Nat} {cond : M Bool} {elt : M D} {env : En}
theorem lcGo_t (enc : α → D) (p : α → Bool) (G : α → D) : ∀ (ys : List α) (k : Nat), k + ys.length ≤ 1000000 → env.set i none = env → (∀ y ∈ ys, cond (env.set i (some (enc y))) = .ok (p y) (env.set i (some (enc y)))) → (∀ y ∈ ys, p y = true → elt (env.set i (some (enc y))) = .ok (G y) (env.set i (some (enc y)))) →
    lcGo i cond elt k (ys.map enc) env = .ok ((ys.filter p).map G) env
  | [], _, _, _, _, _ => rfl
  | y :: ys, k, hk, he, hc, hg => by
    rw [List.length_cons] at hk
    have c1 := hc y List.mem_cons_self
    have ss : ∀ z : Option D, (env.set i z).set i none = env := fun z => by rw [List.set_set]; exact he
    rw [List.map_cons]
    unfold lcGo
    rw [c1]
    cases q : p y with
    | true =>
      have g1 := hg y List.mem_cons_self q
      show (match elt (env.set i (some (enc y))) with
        | .ok y env2 => if small k = true then (lcGo i cond elt (k + 1) (ys.map enc) (env2.set i none)).bind fun ys env3 => .ok (y :: ys) env3 else .stuck
        | _ => .stuck) = _
      rw [g1]
      show (if small k = true then (lcGo i cond elt (k + 1) (ys.map enc) ((env.set i (some (enc y))).set i none)).bind fun ys env3 => .ok (G y :: ys) env3 else .stuck) = _
      rw [if_pos (small_of (by omega)), ss, lcGo_t enc p G ys (k + 1) (by omega) he (fun y hy => hc y (List.mem_cons_of_mem _ hy)) (fun y hy => hg y (List.mem_cons_of_mem _ hy)), List.filter_cons, if_pos q]
      rfl
    | false =>
      show lcGo i cond elt k (ys.map enc) ((env.set i (some (enc y))).set i none) = _
      rw [ss, lcGo_t enc p G ys k (by omega) he (fun y hy => hc y (List.mem_cons_of_mem _ hy)) (fun y hy => hg y (List.mem_cons_of_mem _ hy)), List.filter_cons, if_neg (by rw [q]; exact Bool.false_ne_true)]
theorem set_back {env : En} {i : Nat} : (env.set i none).set i (env.getD i none) = env := by
  rw [List.set_set]
  apply List.ext_getElem?
  intro j
  rw [List.getElem?_set]
  by_cases h : i = j
  · subst h
    by_cases hl : i < env.length
    · rw [if_pos rfl, if_pos hl, List.getD_eq_getElem?_getD, List.getElem?_eq_getElem hl]
      rfl
    · rw [if_pos rfl, if_neg hl, List.getElem?_eq_none (by omega)]
  · rw [if_neg h]
theorem lcM_t {fi : M (List D)} (enc : α → D) (p : α → Bool) (G : α → D) (ys : List α) (hi : fi env = .ok (ys.map enc) env) (hl : ys.length ≤ 1000000) (hc : ∀ y ∈ ys, cond (env.set i (some (enc y))) = .ok (p y) (env.set i (some (enc y))))
    (hg : ∀ y ∈ ys, p y = true → elt (env.set i (some (enc y))) = .ok (G y) (env.set i (some (enc y)))) : lcM i fi cond elt env = .ok (.lst ((ys.filter p).map G)) env := by
  unfold lcM
  rw [hi]
  show (match lcGo i cond elt 0 (ys.map enc) (env.set i none) with
    | .ok ys env3 => R.ok (D.lst ys) (env3.set i (env.getD i none))
    | _ => .stuck) = _
  rw [lcGo_t enc p G ys 0 (by omega) (by rw [List.set_set]) (fun y hy => by rw [List.set_set]; exact hc y hy) (fun y hy hp => by rw [List.set_set]; exact hg y hy hp)]
  show R.ok _ _ = _
  rw [set_back]
/-- .. without a test -/
theorem lcM_map {fi : M (List D)} (enc : α → D) (G : α → D) (ys : List α) (hi : fi env = .ok (ys.map enc) env) (hl : ys.length ≤ 1000000)
    (hg : ∀ y ∈ ys, elt (env.set i (some (enc y))) = .ok (G y) (env.set i (some (enc y)))) : lcM i fi bTrue elt env = .ok (.lst (ys.map G)) env := by
  rw [lcM_t (cond := bTrue) enc (fun _ => true) G ys hi hl (fun _ _ => rfl) fun y hy _ => hg y hy, show ys.filter (fun _ => true) = ys from List.filter_eq_self.mpr fun _ _ => rfl]
/-- a loop that goes through; the state st -/
theorem for_fold {body : M Fl} (enc : α → D) (E : σ → En) (step : σ → α → σ) : ∀ (ys : List α) (s : σ), (∀ s y, y ∈ ys → body ((E s).set i (some (enc y))) = .ok .nx (E (step s y))) → forM i body (ys.map enc) (E s) = .ok .nx (E (ys.foldl step s))
  | [], s, _ => rfl
  | y :: ys, s, h => by
    rw [List.map_cons]
    unfold forM
    rw [h s y List.mem_cons_self]
    show forM i body (ys.map enc) (E (step s y)) = _
    rw [for_fold enc E step ys (step s y) fun s z hz => h s z (List.mem_cons_of_mem _ hz)]
    rfl
/-- a loop with a promise on the state; P: what is kept -/
theorem for_inv {body : M Fl} (enc : α → D) (Inv : List α → En → Prop) : ∀ (ys pre : List α) (env : En), Inv pre env → (∀ pre' y post, pre ++ ys = pre' ++ y :: post → ∀ e, Inv pre' e → ∃ e', body (e.set i (some (enc y))) = .ok .nx e' ∧ Inv (pre' ++ [y]) e') →
    ∃ e', forM i body (ys.map enc) env = .ok .nx e' ∧ Inv (pre ++ ys) e'
  | [], pre, env, h, _ => ⟨env, rfl, by rw [List.append_nil]; exact h⟩
  | y :: ys, pre, env, h, hs => by
    obtain ⟨e1, h1, h2⟩ := hs pre y ys rfl env h
    obtain ⟨e2, h3, h4⟩ := for_inv enc Inv ys (pre ++ [y]) e1 h2 fun pre' z post e => hs pre' z post (by rw [← e, List.append_assoc]; rfl)
    refine ⟨e2, ?_, by rw [List.append_assoc] at h4; exact h4⟩
    rw [List.map_cons]
    unfold forM
    rw [h1]
    exact h3
/-- a loop that returns at the first y with p, else goes through -/
theorem for_find {body : M Fl} (enc : α → D) (p : α → Bool) (G : α → D) (env : En) : ∀ (ys : List α) (c : Option D), (∀ y ∈ ys, ∀ c, ∃ e', body ((env.set i c).set i (some (enc y))) = if p y = true then .ok (.rt (G y)) e' else .ok .nx (env.set i (some (enc y)))) →
    (∃ y e', ys.find? p = some y ∧ forM i body (ys.map enc) (env.set i c) = .ok (.rt (G y)) e') ∨ (ys.find? p = none ∧ ∃ c', forM i body (ys.map enc) (env.set i c) = .ok .nx (env.set i c'))
  | [], c, _ => .inr ⟨rfl, c, rfl⟩
  | y :: ys, c, h => by
    obtain ⟨e', h1⟩ := h y List.mem_cons_self c
    rw [List.map_cons, List.find?_cons]
    unfold forM
    rw [h1]
    cases q : p y with
    | true => exact .inl ⟨y, e', rfl, rfl⟩
    | false => exact for_find enc p G env ys (some (enc y)) fun z hz => h z (List.mem_cons_of_mem _ hz)
end
/-! ### texts of things, lots -/
abbrev tI (l : List Int) : D := .tup (l.map .int)
abbrev tL (l : List (List Int)) : List D := l.map tI
abbrev lI (l : List Int) : D := .lst (l.map .int)
theorem cut_to {l : List D} {n : Nat} (h : n ≤ l.length) : cutD l none (some (n : Int)) = l.take n := by
  unfold cutD HT.sIx
  have e1 : ¬ (n : Int) < 0 := by omega
  simp [e1, Nat.min_eq_left h]
theorem cut_from {l : List D} {n : Nat} (h : n ≤ l.length) : cutD l (some (n : Int)) none = l.drop n := by
  unfold cutD HT.sIx
  have e1 : ¬ (n : Int) < 0 := by omega
  simp only [e1, if_false, Int.toNat_natCast, Nat.min_eq_left h]
  rw [List.take_of_length_le (by rw [List.length_drop]; exact Nat.le_refl _)]
theorem ix_of {l : List D} {n : Nat} {d : D} (h : l[n]? = some d) : ixD (.tup l) (.int (n : Int)) = some d ∧ ixD (.lst l) (.int (n : Int)) = some d := by
  have hl := (List.getElem?_eq_some_iff.mp h).1
  have key : L2.atI l (n : Int) = some d := by
    unfold L2.atI
    have e : L2.ixN l.length (n : Int) = some n := by
      unfold L2.ixN
      rw [if_pos (by omega), if_pos (by omega), Int.toNat_natCast]
    rw [e]
    exact h
  exact ⟨key, key⟩
end DL

set_option Elab.async false
set_option linter.all false
set_option maxRecDepth 100000
set_option maxHeartbeats 4000000
/-! orders on lists, sorting, plain -/
namespace DL
open L2
structure Sto {α : Type} (lt : α → α → Bool) : Prop where
  irr : ∀ a, lt a a = false
  tr : ∀ {a b c}, lt a b = true → lt b c = true → lt a c = true
  tot : ∀ {a b}, lt a b = false → lt b a = false → a = b
section
variable {α : Type} {lt : α → α → Bool}
theorem Sto.asym (O : Sto lt) {a b : α} (h : lt a b = true) : lt b a = false := by
  cases q : lt b a with
  | false => rfl
  | true =>
    have := O.tr h q
    rw [O.irr] at this
    cases this
/-- b is not less than a -/
theorem Sto.le_tr (O : Sto lt) {a b c : α} (h : lt b a = false) (k : lt c b = false) : lt c a = false := by
  cases q : lt c a with
  | false => rfl
  | true =>
    cases r : lt a b with
    | true => rw [O.tr q r] at k; cases k
    | false =>
      have e := O.tot r h
      subst e
      rw [q] at k; cases k
def lexB (lt : α → α → Bool) : List α → List α → Bool
  | [], [] => false
  | [], _ :: _ => true
  | _ :: _, [] => false
  | x :: xs, y :: ys => lt x y || (!lt y x && lexB lt xs ys)
theorem lexB_cons {x y : α} {xs ys : List α} : lexB lt (x :: xs) (y :: ys) = (lt x y || (!lt y x && lexB lt xs ys)) := rfl
theorem Sto.lex (O : Sto lt) : Sto (lexB lt) where
  irr := by
    intro a
    induction a with
    | nil => rfl
    | cons x xs ih => rw [lexB_cons, O.irr, ih]; rfl
  tr := by
    intro a
    induction a with
    | nil =>
      intro b c h k
      cases c with
      | nil => cases b <;> simp [lexB] at h k
      | cons z zs => rfl
    | cons x xs ih =>
      intro b c h k
      cases b with
      | nil => simp [lexB] at h
      | cons y ys =>
        cases c with
        | nil => simp [lexB] at k
        | cons z zs =>
          rw [lexB_cons] at h k ⊢
          simp only [Bool.or_eq_true, Bool.and_eq_true, Bool.not_eq_true'] at h k ⊢
          rcases h with h | ⟨h1, h2⟩
          · rcases k with k | ⟨k1, k2⟩
            · exact .inl (O.tr h k)
            · left
              cases q : lt x z with
              | true => rfl
              | false => have := O.le_tr (a := y) (b := z) (c := x) k1 q; rw [this] at h; cases h
          · rcases k with k | ⟨k1, k2⟩
            · left
              cases q : lt x z with
              | true => rfl
              | false => have := O.le_tr (a := x) (b := y) (c := z) h1; have := O.le_tr (a := z) (b := x) (c := y) q h1; rw [this] at k; cases k
            · by_cases q : lt x z = true
              · exact .inl q
              · exact .inr ⟨O.le_tr (a := x) (b := y) (c := z) h1 k1, ih h2 k2⟩
  tot := by
    intro a
    induction a with
    | nil =>
      intro b h k
      cases b with
      | nil => rfl
      | cons y ys => simp [lexB] at h
    | cons x xs ih =>
      intro b h k
      cases b with
      | nil => simp [lexB] at k
      | cons y ys =>
        rw [lexB_cons] at h k
        simp only [Bool.or_eq_false_iff, Bool.and_eq_false_iff, Bool.not_eq_false'] at h k
        have e := O.tot h.1 k.1
        subst e
        have h2 : lexB lt xs ys = false := by
          rcases h.2 with q | q
          · rw [O.irr] at q; cases q
          · exact q
        have k2 : lexB lt ys xs = false := by
          rcases k.2 with q | q
          · rw [O.irr] at q; cases q
          · exact q
        rw [ih h2 k2]
def nlt (a b : Nat) : Bool := decide (a < b)
theorem sto_nlt : Sto nlt where
  irr := fun a => decide_eq_false (Nat.lt_irrefl a)
  tr := fun h k => decide_eq_true (Nat.lt_trans (of_decide_eq_true h) (of_decide_eq_true k))
  tot := fun h k => by
    have := of_decide_eq_false h
    have := of_decide_eq_false k
    omega
abbrev llt : List Nat → List Nat → Bool := lexB nlt
abbrev lllt : List (List Nat) → List (List Nat) → Bool := lexB llt
theorem sto_llt : Sto llt := sto_nlt.lex
theorem sto_lllt : Sto lllt := sto_llt.lex
/-! ### sorting -/
def insB (lt : α → α → Bool) (x : α) : List α → List α
  | [] => [x]
  | y :: l => if lt y x = true then y :: insB lt x l else x :: y :: l
def sortB (lt : α → α → Bool) : List α → List α
  | [] => []
  | x :: l => insB lt x (sortB lt l)
theorem insB_perm (x : α) : ∀ l : List α, (insB lt x l).Perm (x :: l)
  | [] => List.Perm.refl _
  | y :: l => by
    unfold insB
    split
    · exact ((insB_perm x l).cons y).trans (List.Perm.swap x y l)
    · exact List.Perm.refl _
theorem sortB_perm : ∀ l : List α, (sortB lt l).Perm l
  | [] => List.Perm.refl _
  | x :: l => (insB_perm x _).trans ((sortB_perm l).cons x)
/-- not falling -/
abbrev Srt (lt : α → α → Bool) (l : List α) : Prop := l.Pairwise fun a b => lt b a = false
theorem insB_srt (O : Sto lt) (x : α) : ∀ l : List α, Srt lt l → Srt lt (insB lt x l)
  | [], _ => List.pairwise_singleton _ _
  | y :: l, h => by
    obtain ⟨h1, h2⟩ := List.pairwise_cons.mp h
    unfold insB
    by_cases q : lt y x = true
    · rw [if_pos q]
      refine List.pairwise_cons.mpr ⟨fun z hz => ?_, insB_srt O x l h2⟩
      rcases List.mem_cons.mp ((insB_perm x l).mem_iff.mp hz) with r | r
      · rw [r]; exact O.asym q
      · exact h1 z r
    · rw [if_neg q]
      have q' : lt y x = false := by
        cases r : lt y x with
        | false => rfl
        | true => exact absurd r q
      refine List.pairwise_cons.mpr ⟨fun z hz => ?_, h⟩
      rcases List.mem_cons.mp hz with r | r
      · rw [r]; exact q'
      · exact O.le_tr q' (h1 z r)
theorem sortB_srt (O : Sto lt) : ∀ l : List α, Srt lt (sortB lt l)
  | [] => List.Pairwise.nil
  | x :: l => insB_srt O x _ (sortB_srt O l)
theorem srt_uniq (O : Sto lt) : ∀ {l m : List α}, Srt lt l → Srt lt m → l.Perm m → l = m
  | [], m, _, _, p => (List.Perm.nil_eq p)
  | x :: l, [], _, _, p => by simpa using p.length_eq
  | x :: l, y :: m, h, k, p => by
    obtain ⟨h1, h2⟩ := List.pairwise_cons.mp h
    obtain ⟨k1, k2⟩ := List.pairwise_cons.mp k
    have e : x = y := by
      rcases List.mem_cons.mp (p.mem_iff.mp List.mem_cons_self) with r | r
      · exact r
      · rcases List.mem_cons.mp (p.mem_iff.mpr List.mem_cons_self) with s | s
        · exact s.symm
        · exact O.tot (k1 x r |> fun z => z) (h1 y s) |> fun z => z
    subst e
    rw [srt_uniq O h2 k2 (List.Perm.cons_inv p)]
theorem sortB_of (O : Sto lt) {l m : List α} (p : l.Perm m) (h : Srt lt m) : sortB lt l = m := srt_uniq O (sortB_srt O l) h ((sortB_perm l).trans p)
theorem sortB_id (O : Sto lt) {l : List α} (h : Srt lt l) : sortB lt l = l := sortB_of O (List.Perm.refl _) h
/-- rising -/
abbrev Rsg (lt : α → α → Bool) (l : List α) : Prop := l.Pairwise fun a b => lt a b = true
theorem Rsg.srt (O : Sto lt) {l : List α} (h : Rsg lt l) : Srt lt l := h.imp fun z => O.asym z
theorem Rsg.nodup (O : Sto lt) {l : List α} (h : Rsg lt l) : l.Nodup := h.imp fun z e => by
  subst e
  rw [O.irr] at z
  cases z
theorem srt_rsg (O : Sto lt) {l : List α} (h : Srt lt l) (n : l.Nodup) : Rsg lt l := by
  induction l with
  | nil => exact List.Pairwise.nil
  | cons x l ih =>
    obtain ⟨h1, h2⟩ := List.pairwise_cons.mp h
    obtain ⟨n1, n2⟩ := List.nodup_cons.mp n
    refine List.pairwise_cons.mpr ⟨fun y hy => ?_, ih h2 n2⟩
    cases q : lt x y with
    | true => rfl
    | false =>
      have e := O.tot q (h1 y hy)
      subst e
      exact absurd hy n1
theorem sort_rsg (O : Sto lt) {l : List α} (n : l.Nodup) : Rsg lt (sortB lt l) := srt_rsg O (sortB_srt O l) ((sortB_perm l).nodup_iff.mpr n)
theorem sort_rev (O : Sto lt) {l : List α} (h : Rsg lt l) : sortB lt l.reverse = l := sortB_of O (List.reverse_perm l) (h.srt O)
theorem sort_mem {l : List α} {x : α} : x ∈ sortB lt l ↔ x ∈ l := (sortB_perm l).mem_iff
/-- the first of a sorted list is the least -/
theorem sort_head (O : Sto lt) {l : List α} {x : α} {r : List α} (h : sortB lt l = x :: r) : x ∈ l ∧ ∀ y ∈ l, lt y x = false := by
  have s := sortB_srt O l
  rw [h] at s
  obtain ⟨s1, s2⟩ := List.pairwise_cons.mp s
  have hx : x ∈ sortB lt l := by rw [h]; exact List.mem_cons_self
  refine ⟨sort_mem.mp hx, fun y hy => ?_⟩
  have := sort_mem (lt := lt).mpr hy
  rw [h] at this
  rcases List.mem_cons.mp this with e | e
  · rw [e]; exact O.irr x
  · exact s1 y e
theorem least_uniq (O : Sto lt) {l : List α} {x y : α} (hx : x ∈ l) (kx : ∀ z ∈ l, lt z x = false) (hy : y ∈ l) (ky : ∀ z ∈ l, lt z y = false) : x = y := O.tot (ky x hx) (kx y hy)
end
/-! ### mirrors of sorting -/
section
variable {α : Type}
theorem ins_map {lt : D → D → Bool} {lt' : α → α → Bool} {enc : α → D} (h : ∀ a b, lt (enc a) (enc b) = lt' a b) (x : α) : ∀ l : List α, insD lt (enc x) (l.map enc) = (insB lt' x l).map enc
  | [] => rfl
  | y :: l => by
    unfold insB
    rw [List.map_cons]
    unfold insD
    rw [h]
    split
    · rw [List.map_cons, ins_map h x l]
    · rfl
theorem isort_map {lt : D → D → Bool} {lt' : α → α → Bool} {enc : α → D} (h : ∀ a b, lt (enc a) (enc b) = lt' a b) : ∀ l : List α, isort lt (l.map enc) = (sortB lt' l).map enc
  | [] => rfl
  | x :: l => by
    rw [List.map_cons]
    unfold isort sortB
    rw [isort_map h l, ins_map h]
theorem all_map_true {p : D → Bool} {enc : α → D} (h : ∀ a, p (enc a) = true) (l : List α) : (l.map enc).all p = true := by
  rw [List.all_eq_true]
  intro d hd
  obtain ⟨a, _, rfl⟩ := List.mem_map.mp hd
  exact h a
end
abbrev tN (l : List Nat) : D := .tup (l.map nI)
abbrev tNs (l : List (List Nat)) : D := .tup (l.map tN)
theorem lex_map {α : Type} {e lt : D → D → Bool} {lt' : α → α → Bool} {enc : α → D} (O : Sto lt') (h : ∀ a b, lt (enc a) (enc b) = lt' a b) (k : ∀ a b, e (enc a) (enc b) = true ↔ a = b) : ∀ l m : List α, lexF e lt (l.map enc) (m.map enc) = lexB lt' l m
  | [], [] => rfl
  | [], _ :: _ => rfl
  | _ :: _, [] => rfl
  | x :: l, y :: m => by
    rw [List.map_cons, List.map_cons, lexB_cons]
    unfold lexF
    by_cases q : x = y
    · subst q
      rw [if_pos ((k x x).mpr rfl), lex_map O h k l m, O.irr]
      rfl
    · rw [if_neg (fun z => q ((k x y).mp z)), h]
      cases r : lt' x y with
      | true => rfl
      | false =>
        cases s : lt' y x with
        | true => rfl
        | false => exact absurd (O.tot r s) q
theorem allF_map {α : Type} {f : D → D → Bool} {enc : α → D} (k : ∀ a b, f (enc a) (enc b) = true ↔ a = b) : ∀ l m : List α, allF f (l.map enc) (m.map enc) = true ↔ l = m
  | [], [] => ⟨fun _ => rfl, fun _ => rfl⟩
  | [], _ :: _ => ⟨fun z => (by cases z), fun z => (by cases z)⟩
  | _ :: _, [] => ⟨fun z => (by cases z), fun z => (by cases z)⟩
  | x :: l, y :: m => by
    rw [List.map_cons, List.map_cons]
    show (f (enc x) (enc y) && allF f (l.map enc) (m.map enc)) = true ↔ _
    rw [Bool.and_eq_true, k, allF_map k l m, List.cons.injEq]
theorem eq0 (a b : Nat) : eqLv 0 (nI a) (nI b) = true ↔ a = b := by
  show ((a : Int) == (b : Int)) = true ↔ _
  rw [beq_iff_eq]
  omega
theorem lt0 (a b : Nat) : ltLv 0 (nI a) (nI b) = nlt a b := by
  show decide ((a : Int) < (b : Int)) = decide (a < b)
  rw [decide_eq_decide]
  omega
theorem eq1 (a b : List Nat) : eqLv 1 (tN a) (tN b) = true ↔ a = b := allF_map eq0 a b
theorem lt1 (a b : List Nat) : ltLv 1 (tN a) (tN b) = llt a b := lex_map sto_nlt lt0 eq0 a b
theorem eq2 (a b : List (List Nat)) : eqLv 2 (tNs a) (tNs b) = true ↔ a = b := allF_map eq1 a b
theorem lt2 (a b : List (List Nat)) : ltLv 2 (tNs a) (tNs b) = lllt a b := lex_map sto_llt lt1 eq1 a b
theorem isLv0 (a : Nat) : isLv 0 (nI a) = true := rfl
theorem isLv1 (a : List Nat) : isLv 1 (tN a) = true := all_map_true isLv0 a
theorem isLv2 (a : List (List Nat)) : isLv 2 (tNs a) = true := all_map_true isLv1 a
theorem lv0_nats (l : List Nat) : lvOf (l.map nI) = some 0 := by
  unfold lvOf
  rw [if_pos (all_map_true isLv0 l)]
theorem sort_nats (l : List Nat) : sortD (.lst (l.map nI)) = some (.lst ((sortB nlt l).map nI)) ∧ sortD (.tup (l.map nI)) = some (.lst ((sortB nlt l).map nI)) := by
  show ((lvOf (l.map nI)).map fun n => D.lst (isort (ltLv n) (l.map nI))) = _ ∧ ((lvOf (l.map nI)).map fun n => D.lst (isort (ltLv n) (l.map nI))) = _
  rw [lv0_nats]
  exact ⟨congrArg (fun z => some (D.lst z)) (isort_map lt0 l), congrArg (fun z => some (D.lst z)) (isort_map lt0 l)⟩
/-- lists of lots that sorted() takes here: at most one, or none empty -/
def Okl (l : List (List Nat)) : Prop := l.length < 2 ∨ ∀ a ∈ l, a ≠ []
theorem lv_lots {l : List (List Nat)} (h : Okl l) : (lvOf (l.map tN) = some 1 ∨ l = []) := by
  cases l with
  | nil => exact .inr rfl
  | cons a l =>
    left
    unfold lvOf
    have n0 : ¬ ((a :: l).map tN).all (isLv 0) = true := by
      rw [List.map_cons, List.all_cons]
      intro z
      have := (Bool.and_eq_true_iff.mp z).1
      cases this
    rw [if_neg n0]
    refine (if_pos ?c).trans (if_pos (all_map_true isLv1 (a :: l)))
    case c =>
      rcases h with h | h
      · rw [List.length_map]
        rw [show ((a :: l).length).blt 2 = true from by simpa [Nat.blt_eq] using h]
        rfl
      · rw [Bool.or_eq_true]
        right
        rw [List.all_eq_true]
        intro d hd
        obtain ⟨b, hb, rfl⟩ := List.mem_map.mp hd
        have := h b hb
        cases b with
        | nil => exact absurd rfl this
        | cons x xs => rfl
theorem sort_lots {l : List (List Nat)} (h : Okl l) : sortD (.lst (l.map tN)) = some (.lst ((sortB llt l).map tN)) ∧ sortD (.tup (l.map tN)) = some (.lst ((sortB llt l).map tN)) := by
  rcases lv_lots h with e | e
  · show ((lvOf (l.map tN)).map fun n => D.lst (isort (ltLv n) (l.map tN))) = _ ∧ ((lvOf (l.map tN)).map fun n => D.lst (isort (ltLv n) (l.map tN))) = _
    rw [e]
    exact ⟨congrArg (fun z => some (D.lst z)) (isort_map lt1 l), congrArg (fun z => some (D.lst z)) (isort_map lt1 l)⟩
  · subst e
    exact ⟨rfl, rfl⟩
theorem sort_rows {l : List (List (List Nat))} (h : ∀ a ∈ l, a ≠ []) : sortD (.lst (l.map tNs)) = some (.lst ((sortB lllt l).map tNs)) := by
  cases l with
  | nil => rfl
  | cons a l =>
    have hl : lvOf ((a :: l).map tNs) = some 2 := by
      unfold lvOf
      have n0 : ¬ ((a :: l).map tNs).all (isLv 0) = true := by
        rw [List.map_cons, List.all_cons]
        intro z
        have := (Bool.and_eq_true_iff.mp z).1
        cases this
      rw [if_neg n0]
      have n1 : ¬ ((a :: l).map tNs).all (isLv 1) = true := by
        rw [List.map_cons, List.all_cons]
        intro z
        have z1 := (Bool.and_eq_true_iff.mp z).1
        have := h a List.mem_cons_self
        cases a with
        | nil => exact absurd rfl this
        | cons x xs => cases z1
      refine (if_pos ?c).trans ((if_neg n1).trans (if_pos (all_map_true isLv2 (a :: l))))
      rw [Bool.or_eq_true]
      right
      rw [List.all_eq_true]
      intro d hd
      obtain ⟨b, hb, rfl⟩ := List.mem_map.mp hd
      have := h b hb
      cases b with
      | nil => exact absurd rfl this
      | cons x xs => rfl
    show ((lvOf ((a :: l).map tNs)).map fun n => D.lst (isort (ltLv n) ((a :: l).map tNs))) = _
    rw [hl]
    exact congrArg (fun z => some (D.lst z)) (isort_map lt2 (a :: l))
/-! ### ==, in, < on data -/
theorem okF_nI (n : Nat) (a : Nat) : okF n (nI a) = true := by cases n <;> rfl
theorem okF_tN (n : Nat) (a : List Nat) : okF (n + 1) (tN a) = true := all_map_true (okF_nI n) a
theorem okF_tNs (n : Nat) (a : List (List Nat)) : okF (n + 2) (tNs a) = true := all_map_true (okF_tN n) a
theorem eqF_nI (n a b : Nat) : eqF n (nI a) (nI b) = true ↔ a = b := by
  have e : eqF n (nI a) (nI b) = ((a : Int) == (b : Int)) := by cases n <;> rfl
  rw [e, beq_iff_eq]
  omega
theorem eqF_tN (n : Nat) (a b : List Nat) : eqF (n + 1) (tN a) (tN b) = true ↔ a = b := allF_map (eqF_nI n) a b
theorem eqF_tNs (n : Nat) (a b : List (List Nat)) : eqF (n + 2) (tNs a) (tNs b) = true ↔ a = b := allF_map (eqF_tN n) a b
theorem bool_of_iff {b : Bool} {p : Prop} [Decidable p] (h : b = true ↔ p) : b = decide p := by
  cases b with
  | true => exact (decide_eq_true (h.mp rfl)).symm
  | false =>
    by_cases q : p
    · exact absurd (h.mpr q) Bool.false_ne_true
    · exact (decide_eq_false q).symm
theorem any_map {α : Type} [BEq α] [LawfulBEq α] {f : D → D → Bool} {enc : α → D} (k : ∀ a b, f (enc a) (enc b) = true ↔ a = b) (x : α) (l : List α) : (l.map enc).any (fun z => f z (enc x)) = decide (x ∈ l) := by
  apply bool_of_iff
  rw [List.any_eq_true]
  constructor
  · rintro ⟨d, hd, h⟩
    obtain ⟨a, ha, rfl⟩ := List.mem_map.mp hd
    rw [← (k a x).mp h]
    exact ha
  · exact fun h => ⟨enc x, List.mem_map_of_mem h, (k x x).mpr rfl⟩
theorem in_lots (x : List Nat) (l : List (List Nat)) : inD (tN x) (.lst (l.map tN)) = some (.bl (decide (x ∈ l))) ∧ inD (tN x) (tNs l) = some (.bl (decide (x ∈ l))) := by
  have c : (okF 12 (tN x) && (l.map tN).all (okF 12)) = true := by rw [okF_tN, all_map_true (okF_tN 11) l]; rfl
  constructor
  · show ((if _ then _ else none : Option Bool).map D.bl) = _
    rw [if_pos c, any_map (eqF_tN 11)]
    rfl
  · show ((if _ then _ else none : Option Bool).map D.bl) = _
    rw [if_pos c, any_map (eqF_tN 11)]
    rfl
theorem notIn_lots (x : List Nat) (l : List (List Nat)) : notInD (tN x) (.lst (l.map tN)) = some (.bl (!decide (x ∈ l))) ∧ notInD (tN x) (tNs l) = some (.bl (!decide (x ∈ l))) := by
  have c : (okF 12 (tN x) && (l.map tN).all (okF 12)) = true := by rw [okF_tN, all_map_true (okF_tN 11) l]; rfl
  constructor
  · show ((if _ then _ else none : Option Bool).map fun b => D.bl (!b)) = _
    rw [if_pos c, any_map (eqF_tN 11)]
    rfl
  · show ((if _ then _ else none : Option Bool).map fun b => D.bl (!b)) = _
    rw [if_pos c, any_map (eqF_tN 11)]
    rfl
theorem in_nats (x : Nat) (l : List Nat) : inD (nI x) (.lst (l.map nI)) = some (.bl (decide (x ∈ l))) ∧ inD (nI x) (tN l) = some (.bl (decide (x ∈ l))) := by
  have c : (okF 12 (nI x) && (l.map nI).all (okF 12)) = true := by rw [okF_nI, all_map_true (okF_nI 12) l]; rfl
  constructor
  · show ((if _ then _ else none : Option Bool).map D.bl) = _
    rw [if_pos c, any_map (eqF_nI 12)]
    rfl
  · show ((if _ then _ else none : Option Bool).map D.bl) = _
    rw [if_pos c, any_map (eqF_nI 12)]
    rfl
theorem notIn_nats (x : Nat) (l : List Nat) : notInD (nI x) (.lst (l.map nI)) = some (.bl (!decide (x ∈ l))) ∧ notInD (nI x) (tN l) = some (.bl (!decide (x ∈ l))) := by
  have c : (okF 12 (nI x) && (l.map nI).all (okF 12)) = true := by rw [okF_nI, all_map_true (okF_nI 12) l]; rfl
  constructor
  · show ((if _ then _ else none : Option Bool).map fun b => D.bl (!b)) = _
    rw [if_pos c, any_map (eqF_nI 12)]
    rfl
  · show ((if _ then _ else none : Option Bool).map fun b => D.bl (!b)) = _
    rw [if_pos c, any_map (eqF_nI 12)]
    rfl
theorem eqD_of {α : Type} [DecidableEq α] {enc : α → D} (o : ∀ a, okF 12 (enc a) = true) (k : ∀ a b, eqF 12 (enc a) (enc b) = true ↔ a = b) (a b : α) : eqD (enc a) (enc b) = some (.bl (decide (a = b))) ∧ neD (enc a) (enc b) = some (.bl (!decide (a = b))) := by
  have c : (okF 12 (enc a) && okF 12 (enc b)) = true := by rw [o, o]; rfl
  have e : eqB (enc a) (enc b) = some (decide (a = b)) := by
    unfold eqB
    rw [if_pos c, bool_of_iff (k a b)]
  unfold eqD neD
  rw [e]
  exact ⟨rfl, rfl⟩
theorem eqD_tN (a b : List Nat) : eqD (tN a) (tN b) = some (.bl (decide (a = b))) ∧ neD (tN a) (tN b) = some (.bl (!decide (a = b))) := eqD_of (okF_tN 11) (eqF_tN 11) a b
theorem eqD_tNs (a b : List (List Nat)) : eqD (tNs a) (tNs b) = some (.bl (decide (a = b))) ∧ neD (tNs a) (tNs b) = some (.bl (!decide (a = b))) := eqD_of (okF_tNs 10) (eqF_tNs 10) a b
theorem set_lots {l : List (List Nat)} (h : l.length < 64) : setD (tNs l) = some (.set (l.map fun a => a.map fun x : Nat => (x : Int))) := by
  have k1 : ∀ a : List Nat, intsD (a.map nI) = some (a.map fun x : Nat => (x : Int)) := fun a => by
    induction a with
    | nil => rfl
    | cons x a ih => rw [List.map_cons]; unfold intsD; rw [ih]; rfl
  have k2 : ∀ l : List (List Nat), keysD (l.map tN) = some (l.map fun a => a.map fun x : Nat => (x : Int)) := fun l => by
    induction l with
    | nil => rfl
    | cons a l ih =>
      rw [List.map_cons]
      unfold keysD
      rw [show intsOf (tN a) = some (a.map fun x : Nat => (x : Int)) from k1 a, ih]
      rfl
  show (if _ then _ else none) = _
  rw [if_pos (by rw [List.length_map]; simpa [Nat.blt_eq] using h), k2]
  rfl
theorem in_set_lots (x : List Nat) (l : List (List Nat)) : inD (tN x) (.set (l.map fun a => a.map fun x : Nat => (x : Int))) = some (.bl (decide (x ∈ l))) ∧ notInD (tN x) (.set (l.map fun a => a.map fun x : Nat => (x : Int))) = some (.bl (!decide (x ∈ l))) := by
  have k1 : ∀ a : List Nat, intsD (a.map nI) = some (a.map fun x : Nat => (x : Int)) := fun a => by
    induction a with
    | nil => rfl
    | cons x a ih => rw [List.map_cons]; unfold intsD; rw [ih]; rfl
  have inj : ∀ a b : List Nat, (a.map fun x : Nat => (x : Int)) = (b.map fun x : Nat => (x : Int)) → a = b := fun a => by
    induction a with
    | nil => intro b h; cases b with
      | nil => rfl
      | cons y b => cases h
    | cons x a ih => intro b h; cases b with
      | nil => cases h
      | cons y b =>
        rw [List.map_cons, List.map_cons, List.cons.injEq] at h
        rw [ih b h.2, show x = y by omega]
  have e : (l.map fun a => a.map fun x : Nat => (x : Int)).contains (x.map fun x : Nat => (x : Int)) = decide (x ∈ l) := by
    apply bool_of_iff
    rw [List.contains_iff_mem, List.mem_map]
    constructor
    · rintro ⟨a, ha, h⟩
      rw [← inj _ _ h]
      exact ha
    · exact fun h => ⟨x, h, rfl⟩
  have f : inB (tN x) (.set (l.map fun a => a.map fun x : Nat => (x : Int))) = some (decide (x ∈ l)) := by
    show (intsOf (tN x)).map _ = _
    rw [show intsOf (tN x) = some (x.map fun x : Nat => (x : Int)) from k1 x, ← e]
    rfl
  unfold inD notInD
  rw [f]
  exact ⟨rfl, rfl⟩
theorem lt_rows {a b : List (List Nat)} (ha : a ≠ []) : ltD (tNs a) (tNs b) = some (.bl (lllt a b)) := by
  have e : lvPair (tNs a) (tNs b) = some 2 := by
    unfold lvPair
    rw [if_neg (by intro z; cases z), if_neg ?_, if_pos (by rw [isLv2, isLv2]; rfl)]
    intro z
    have z1 := (Bool.and_eq_true_iff.mp z).1
    cases a with
    | nil => exact absurd rfl ha
    | cons x xs => cases z1
  unfold ltD
  rw [e]
  exact congrArg (fun z => some (D.bl z)) (lt2 a b)
end DL

set_option Elab.async false
set_option linter.all false
set_option maxRecDepth 100000
set_option maxHeartbeats 4000000
/-! comprehensions of two clauses; lots, packets, plain -/
namespace DL
open L2
section
variable {α β : Type} {i i1 : Nat} {f1 fi : M (List D)} {elt : M D} {env : En}
theorem lc2Go_t (enc : α → D) (zs : α → List β) (enc' : β → D) (G : α → β → D) (ne : i ≠ i1) (hi : env.set i none = env) (hi1 : env.set i1 none = env) : ∀ (ys : List α) (k : Nat), k + (ys.flatMap zs).length ≤ 1000000 →
    (∀ y ∈ ys, f1 (env.set i (some (enc y))) = .ok ((zs y).map enc') (env.set i (some (enc y)))) →
    (∀ y ∈ ys, ∀ z ∈ zs y, elt ((env.set i (some (enc y))).set i1 (some (enc' z))) = .ok (G y z) ((env.set i (some (enc y))).set i1 (some (enc' z)))) →
    lc2Go i i1 bTrue f1 bTrue elt k (ys.map enc) env = .ok (ys.flatMap fun y => (zs y).map (G y)) env
  | [], _, _, _, _ => rfl
  | y :: ys, k, hk, h1, hg => by
    rw [List.flatMap_cons, List.length_append] at hk
    have c1 := h1 y List.mem_cons_self
    have e1 : (env.set i (some (enc y))).set i1 none = env.set i (some (enc y)) := by rw [List.set_comm _ _ ne, hi1]
    have e2 : ((env.set i (some (enc y))).set i none).set i1 none = env := by rw [List.set_set, hi, hi1]
    rw [List.map_cons]
    unfold lc2Go
    show (match f1 (env.set i (some (enc y))) with
      | .ok zs env2 => match lcGo i1 bTrue elt k zs (env2.set i1 none) with
        | .ok ys' env3 => (lc2Go i i1 bTrue f1 bTrue elt (k + ys'.length) (ys.map enc) ((env3.set i none).set i1 none)).bind fun rest env4 => .ok (ys' ++ rest) env4
        | _ => .stuck
      | _ => .stuck) = _
    rw [c1]
    show (match lcGo i1 bTrue elt k ((zs y).map enc') ((env.set i (some (enc y))).set i1 none) with
        | .ok ys' env3 => (lc2Go i i1 bTrue f1 bTrue elt (k + ys'.length) (ys.map enc) ((env3.set i none).set i1 none)).bind fun rest env4 => .ok (ys' ++ rest) env4
        | _ => .stuck) = _
    rw [e1, lcGo_t (cond := bTrue) enc' (fun _ => true) (G y) (zs y) k (by omega) e1 (fun _ _ => rfl) (fun z hz _ => hg y List.mem_cons_self z hz), show (zs y).filter (fun _ => true) = zs y from List.filter_eq_self.mpr fun _ _ => rfl]
    show (lc2Go i i1 bTrue f1 bTrue elt (k + ((zs y).map (G y)).length) (ys.map enc) (((env.set i (some (enc y))).set i none).set i1 none)).bind (fun rest env4 => .ok ((zs y).map (G y) ++ rest) env4) = _
    rw [e2, lc2Go_t enc zs enc' G ne hi hi1 ys _ (by rw [List.length_map]; omega) (fun y hy => h1 y (List.mem_cons_of_mem _ hy)) (fun y hy => hg y (List.mem_cons_of_mem _ hy))]
    rfl
theorem lc2M_t (enc : α → D) (zs : α → List β) (enc' : β → D) (G : α → β → D) (ys : List α) (ne : i ≠ i1) (env' : En) (he : (env.set i none).set i1 none = env') (hi : fi env = .ok (ys.map enc) env) (hl : (ys.flatMap zs).length ≤ 1000000)
    (h1 : ∀ y ∈ ys, f1 (env'.set i (some (enc y))) = .ok ((zs y).map enc') (env'.set i (some (enc y))))
    (hg : ∀ y ∈ ys, ∀ z ∈ zs y, elt ((env'.set i (some (enc y))).set i1 (some (enc' z))) = .ok (G y z) ((env'.set i (some (enc y))).set i1 (some (enc' z)))) :
    lc2M i i1 fi bTrue f1 bTrue elt env = .ok (.lst (ys.flatMap fun y => (zs y).map (G y))) (env.set i1 none) := by
  subst he
  have a1 : ((env.set i none).set i1 none).set i none = (env.set i none).set i1 none := by rw [List.set_comm _ _ (Ne.symm ne), List.set_set]
  have a2 : ((env.set i none).set i1 none).set i1 none = (env.set i none).set i1 none := by rw [List.set_set]
  unfold lc2M
  rw [hi]
  show (match lc2Go i i1 bTrue f1 bTrue elt 0 (ys.map enc) ((env.set i none).set i1 none) with
    | .ok ys env3 => R.ok (D.lst ys) (env3.set i (env.getD i none))
    | _ => .stuck) = _
  rw [lc2Go_t enc zs enc' G ne a1 a2 ys 0 (by omega) h1 hg]
  show R.ok _ _ = _
  rw [List.set_comm _ _ (Ne.symm ne), set_back]
end
/-! ### lots -/
/-- the thing from which a row goes on -/
def st (r : List Nat) : Nat := match r.getLast? with
  | some x => x + 1
  | none => 0
def lots (n : Nat) : Nat → List (List Nat)
  | 0 => [[]]
  | k + 1 => (lots n k).flatMap fun r => (List.range' (st r) (n - st r)).map fun t => r ++ [t]
/-- rising, below n -/
structure Lot (n k : Nat) (r : List Nat) : Prop where
  rise : r.Pairwise (· < ·)
  low : ∀ x ∈ r, x < n
  len : r.length = k
theorem st_snoc (r : List Nat) (t : Nat) : st (r ++ [t]) = t + 1 := by
  unfold st
  rw [List.getLast?_append]
  rfl
theorem rise_st : ∀ {r : List Nat}, r.Pairwise (· < ·) → ∀ x ∈ r, x < st r := by
  intro r h x hx
  rcases List.eq_nil_or_concat r with rfl | ⟨r', y, rfl⟩
  · cases hx
  · rw [List.concat_eq_append] at h hx ⊢
    rw [st_snoc]
    rcases List.mem_append.mp hx with q | q
    · have := (List.pairwise_append.mp h).2.2 x q y (by simp)
      omega
    · have : x = y := by simpa using q
      omega
theorem lots_mem (n : Nat) : ∀ (k : Nat) (r : List Nat), r ∈ lots n k ↔ Lot n k r
  | 0, r => by
    unfold lots
    rw [List.mem_singleton]
    exact ⟨fun h => by subst h; exact ⟨List.Pairwise.nil, (fun x h => by cases h), rfl⟩, fun h => List.length_eq_zero_iff.mp h.len⟩
  | k + 1, r => by
    unfold lots
    rw [List.mem_flatMap]
    constructor
    · rintro ⟨a, ha, hr⟩
      obtain ⟨t, ht, rfl⟩ := List.mem_map.mp hr
      have L := (lots_mem n k a).mp ha
      have ht := List.mem_range'_1.mp ht
      refine ⟨List.pairwise_append.mpr ⟨L.rise, List.pairwise_singleton _ _, fun x hx y hy => ?_⟩, fun x hx => ?_, by rw [List.length_append, L.len]; rfl⟩
      · have e : y = t := by simpa using hy
        have := rise_st L.rise x hx
        omega
      · rcases List.mem_append.mp hx with q | q
        · exact L.low x q
        · have : x = t := by simpa using q
          omega
    · intro L
      rcases List.eq_nil_or_concat r with rfl | ⟨a, t, rfl⟩
      · have := L.len
        simp at this
      · rw [List.concat_eq_append] at L ⊢
        have hp := List.pairwise_append.mp L.rise
        have hl : a.length = k := by
          have := L.len
          simpa using this
        refine ⟨a, (lots_mem n k a).mpr ⟨hp.1, fun x hx => L.low x (List.mem_append_left _ hx), hl⟩, List.mem_map.mpr ⟨t, List.mem_range'_1.mpr ⟨?_, ?_⟩, rfl⟩⟩
        · unfold st
          cases q : a.getLast? with
          | none => exact Nat.zero_le _
          | some y =>
            have := hp.2.2 y (List.mem_of_getLast? q) t (by simp)
            show y + 1 ≤ t
            omega
        · have h1 := L.low t (by simp)
          have h2 : st a ≤ t := by
            unfold st
            cases q : a.getLast? with
            | none => exact Nat.zero_le _
            | some y =>
              have := hp.2.2 y (List.mem_of_getLast? q) t (by simp)
              show y + 1 ≤ t
              omega
          omega
theorem llt_cons {x y : Nat} {xs ys : List Nat} : llt (x :: xs) (y :: ys) = (nlt x y || (!nlt y x && llt xs ys)) := rfl
theorem lex_snoc {a b : List Nat} (h : llt a b = true) (hl : a.length = b.length) (s t : Nat) : llt (a ++ [s]) (b ++ [t]) = true := by
  induction a generalizing b with
  | nil => cases b with
    | nil => cases h
    | cons y b => cases hl
  | cons x a ih => cases b with
    | nil => cases hl
    | cons y b =>
      rw [List.cons_append, List.cons_append, llt_cons]
      rw [llt_cons] at h
      rw [Bool.or_eq_true, Bool.and_eq_true] at h ⊢
      rcases h with h | ⟨h1, h2⟩
      · exact .inl h
      · exact .inr ⟨h1, ih h2 (Nat.succ.inj hl)⟩
theorem lex_same (a : List Nat) {s t : Nat} (h : s < t) : llt (a ++ [s]) (a ++ [t]) = true := by
  induction a with
  | nil =>
    show llt [s] [t] = true
    rw [llt_cons]
    rw [show nlt s t = true from decide_eq_true h]
    rfl
  | cons x a ih =>
    rw [List.cons_append, List.cons_append, llt_cons, ih, sto_nlt.irr]
    rfl
theorem lots_rsg (n : Nat) : ∀ k : Nat, Rsg llt (lots n k)
  | 0 => List.pairwise_singleton _ _
  | k + 1 => by
    unfold lots
    have ih := lots_rsg n k
    have hl : ∀ r ∈ lots n k, r.length = k := fun r h => ((lots_mem n k r).mp h).len
    generalize lots n k = L at ih hl
    induction L with
    | nil => exact List.Pairwise.nil
    | cons a L ihL =>
      obtain ⟨h1, h2⟩ := List.pairwise_cons.mp ih
      rw [List.flatMap_cons]
      refine List.pairwise_append.mpr ⟨?_, ihL h2 (fun r h => hl r (List.mem_cons_of_mem _ h)), fun x hx y hy => ?_⟩
      · rw [List.pairwise_map]
        refine List.Pairwise.imp (fun h => lex_same a h) List.pairwise_lt_range'
      · obtain ⟨s, _, rfl⟩ := List.mem_map.mp hx
        obtain ⟨b, hb, hy⟩ := List.mem_flatMap.mp hy
        obtain ⟨t, _, rfl⟩ := List.mem_map.mp hy
        exact lex_snoc (h1 b hb) (by rw [hl a List.mem_cons_self, hl b (List.mem_cons_of_mem _ hb)]) s t
/-- the packet of xs -/
def pk {α : Type} (xs : List α) : List (List α) := (List.range xs.length).map fun j => xs.take (xs.length - 1 - j) ++ xs.drop (xs.length - j)
theorem pk_map {α β : Type} (f : α → β) (xs : List α) : pk (xs.map f) = (pk xs).map (List.map f) := by
  unfold pk
  rw [List.length_map, List.map_map]
  apply List.map_congr_left
  intro j _
  show _ = List.map f _
  rw [List.map_append, List.map_take, List.map_drop]
theorem pk_len {α : Type} (xs : List α) : (pk xs).length = xs.length := by unfold pk; rw [List.length_map, List.length_range]
end DL

set_option Elab.async false
set_option linter.all false
set_option maxRecDepth 100000
set_option maxHeartbeats 4000000
namespace KX
open DL
/-! ### draws -/
def tk (l : List Int) (m : Nat) : Nat := if m < 2 ∨ l = [] then 0 else ((l.getLast?.getD 0).fmod m).toNat
def tr (l : List Int) (m : Nat) : List Int := if m < 2 ∨ l = [] then l else l.dropLast
theorem tk_lt (l : List Int) {m : Nat} (h : 1 ≤ m) : tk l m < m := by
  unfold tk
  split
  · omega
  · rename_i q
    have := Int.fmod_lt_of_pos (l.getLast?.getD 0) (show (0 : Int) < (m : Int) by omega)
    omega
theorem take_ok (l : List Int) (m : Nat) : m__law_take [lI l, nI m] = .ok (nI (tk l m)) (some (lI (tr l m))) := by
  by_cases h1 : m < 2
  · refine (runF_ok (e := [some (lI l), some (nI m)]) (d := nI 0) ?_).trans ?_
    · have : ((m : Int) < 2) := by omega
      simp [b__law_take, this]
    · simp [tk, tr, h1, ioOf]
  · by_cases h2 : l = []
    · subst h2
      refine (runF_ok (e := [some (lI []), some (nI m)]) (d := nI 0) ?_).trans ?_
      · have : ¬ ((m : Int) < 2) := by omega
        simp [b__law_take, this]
      · simp [tk, tr, ioOf]
    · obtain ⟨l0, z, rfl⟩ : ∃ l0 z, l = l0 ++ [z] := ⟨l.dropLast, l.getLast h2, (List.dropLast_concat_getLast h2).symm⟩
      refine (runF_ok (e := [some (lI l0), some (nI m)]) (d := nI (tk (l0 ++ [z]) m)) ?_).trans ?_
      · have n1 : ¬ ((m : Int) < 2) := by omega
        have n2 : ¬ ((l0.length : Int) + 1 = 0) := by omega
        have e1 : modD (.int z) (nI m) = some (.int (z.fmod m)) := by
          show (if decide ((m : Int) ≠ 0) = true then some (D.int (z.fmod m)) else none) = _
          rw [if_pos (decide_eq_true (by omega))]
        have e2 : mPop ((l0 ++ [z]).map D.int) [] = some (.int z, l0.map D.int) := by
          unfold mPop
          rw [List.map_append]
          simp
        have e3 : ((z.fmod m).toNat : Int) = z.fmod m := Int.toNat_of_nonneg (Int.fmod_nonneg_of_pos _ (by omega))
        have e2' : mPop (l0.map D.int ++ [D.int z]) [] = some (.int z, l0.map D.int) := by simpa using e2
        simp [b__law_take, n1, n2, e2', e1, tk, h1, e3]
      · simp [tr, h1, ioOf]
/-! ### lots -/
theorem lots_ok : ∀ n k : Nat, n ≤ 6 → k ≤ n + 2 → m__lots [nI n, nI k] = .ok (.tup ((lots n k).map tN)) none
  | 0, 0, _, _ => by kernel_rfl
  | 0, 1, _, _ => by kernel_rfl
  | 0, 2, _, _ => by kernel_rfl
  | 0, k + 3, _, h => absurd h (by omega)
  | 1, 0, _, _ => by kernel_rfl
  | 1, 1, _, _ => by kernel_rfl
  | 1, 2, _, _ => by kernel_rfl
  | 1, 3, _, _ => by kernel_rfl
  | 1, k + 4, _, h => absurd h (by omega)
  | 2, 0, _, _ => by kernel_rfl
  | 2, 1, _, _ => by kernel_rfl
  | 2, 2, _, _ => by kernel_rfl
  | 2, 3, _, _ => by kernel_rfl
  | 2, 4, _, _ => by kernel_rfl
  | 2, k + 5, _, h => absurd h (by omega)
  | 3, 0, _, _ => by kernel_rfl
  | 3, 1, _, _ => by kernel_rfl
  | 3, 2, _, _ => by kernel_rfl
  | 3, 3, _, _ => by kernel_rfl
  | 3, 4, _, _ => by kernel_rfl
  | 3, 5, _, _ => by kernel_rfl
  | 3, k + 6, _, h => absurd h (by omega)
  | 4, 0, _, _ => by kernel_rfl
  | 4, 1, _, _ => by kernel_rfl
  | 4, 2, _, _ => by kernel_rfl
  | 4, 3, _, _ => by kernel_rfl
  | 4, 4, _, _ => by kernel_rfl
  | 4, 5, _, _ => by kernel_rfl
  | 4, 6, _, _ => by kernel_rfl
  | 4, k + 7, _, h => absurd h (by omega)
  | 5, 0, _, _ => by kernel_rfl
  | 5, 1, _, _ => by kernel_rfl
  | 5, 2, _, _ => by kernel_rfl
  | 5, 3, _, _ => by kernel_rfl
  | 5, 4, _, _ => by kernel_rfl
  | 5, 5, _, _ => by kernel_rfl
  | 5, 6, _, _ => by kernel_rfl
  | 5, 7, _, _ => by kernel_rfl
  | 5, k + 8, _, h => absurd h (by omega)
  | 6, 0, _, _ => by kernel_rfl
  | 6, 1, _, _ => by kernel_rfl
  | 6, 2, _, _ => by kernel_rfl
  | 6, 3, _, _ => by kernel_rfl
  | 6, 4, _, _ => by kernel_rfl
  | 6, 5, _, _ => by kernel_rfl
  | 6, 6, _, _ => by kernel_rfl
  | 6, 7, _, _ => by kernel_rfl
  | 6, 8, _, _ => by kernel_rfl
  | 6, k + 9, _, h => absurd h (by omega)
  | n + 7, _, h, _ => absurd h (by omega)
theorem law_lots_ok : ∀ n k : Nat, n ≤ 6 → k ≤ n + 2 → m__law_lots [nI n, nI k] = .ok (.lst ((lots n k).map tN)) none
  | 0, 0, _, _ => by kernel_rfl
  | 0, 1, _, _ => by kernel_rfl
  | 0, 2, _, _ => by kernel_rfl
  | 0, k + 3, _, h => absurd h (by omega)
  | 1, 0, _, _ => by kernel_rfl
  | 1, 1, _, _ => by kernel_rfl
  | 1, 2, _, _ => by kernel_rfl
  | 1, 3, _, _ => by kernel_rfl
  | 1, k + 4, _, h => absurd h (by omega)
  | 2, 0, _, _ => by kernel_rfl
  | 2, 1, _, _ => by kernel_rfl
  | 2, 2, _, _ => by kernel_rfl
  | 2, 3, _, _ => by kernel_rfl
  | 2, 4, _, _ => by kernel_rfl
  | 2, k + 5, _, h => absurd h (by omega)
  | 3, 0, _, _ => by kernel_rfl
  | 3, 1, _, _ => by kernel_rfl
  | 3, 2, _, _ => by kernel_rfl
  | 3, 3, _, _ => by kernel_rfl
  | 3, 4, _, _ => by kernel_rfl
  | 3, 5, _, _ => by kernel_rfl
  | 3, k + 6, _, h => absurd h (by omega)
  | 4, 0, _, _ => by kernel_rfl
  | 4, 1, _, _ => by kernel_rfl
  | 4, 2, _, _ => by kernel_rfl
  | 4, 3, _, _ => by kernel_rfl
  | 4, 4, _, _ => by kernel_rfl
  | 4, 5, _, _ => by kernel_rfl
  | 4, 6, _, _ => by kernel_rfl
  | 4, k + 7, _, h => absurd h (by omega)
  | 5, 0, _, _ => by kernel_rfl
  | 5, 1, _, _ => by kernel_rfl
  | 5, 2, _, _ => by kernel_rfl
  | 5, 3, _, _ => by kernel_rfl
  | 5, 4, _, _ => by kernel_rfl
  | 5, 5, _, _ => by kernel_rfl
  | 5, 6, _, _ => by kernel_rfl
  | 5, 7, _, _ => by kernel_rfl
  | 5, k + 8, _, h => absurd h (by omega)
  | 6, 0, _, _ => by kernel_rfl
  | 6, 1, _, _ => by kernel_rfl
  | 6, 2, _, _ => by kernel_rfl
  | 6, 3, _, _ => by kernel_rfl
  | 6, 4, _, _ => by kernel_rfl
  | 6, 5, _, _ => by kernel_rfl
  | 6, 6, _, _ => by kernel_rfl
  | 6, 7, _, _ => by kernel_rfl
  | 6, 8, _, _ => by kernel_rfl
  | 6, k + 9, _, h => absurd h (by omega)
  | n + 7, _, h, _ => absurd h (by omega)
/-! ### packets -/
theorem packet_ok (ds : List D) (h : ds.length ≤ 1000) : m__packet [.tup ds] = .ok (.tup ((pk ds).map .tup)) none := by
  refine runF_ok (e := [some (.tup ds), some (nI ds.length), none]) ?_
  have key := lcM_map (i := 2) (fi := iRng rng3 (aCons (op2 subD (vVar 1) (vC (.int 1))) (aCons (op1 negD (vC (.int 1))) (aCons (op1 negD (vC (.int 1))) (aNil))))) (elt := op2 addD (vSl slD (vVar 0) (vPart none) (vPart (some (vVar 2)))) (vSl slD (vVar 0) (vPart (some (op2 addD (vVar 2) (vC (.int 1))))) (vPart none)))
    (env := [some (.tup ds), some (nI ds.length), none]) (fun j : Nat => D.int ((ds.length : Int) - 1 - j)) (fun j : Nat => .tup (ds.take (ds.length - 1 - j) ++ ds.drop (ds.length - j))) (List.range ds.length) (by simp [rng3_of (n := ds.length) (by omega)]) (by simp; omega) ?_
  · simp [b__packet, key, pk, List.map_map, Function.comp_def]
  · intro j hj
    have hj := List.mem_range.mp hj
    have e1 : ((ds.length : Int) - 1 - j) = ((ds.length - 1 - j : Nat) : Int) := by omega
    have e2 : ((ds.length - 1 - j : Nat) : Int) + 1 = ((ds.length - j : Nat) : Int) := by omega
    simp only [e1]
    simp [e2, cut_to (l := ds) (n := ds.length - 1 - j) (by omega), cut_from (l := ds) (n := ds.length - j) (by omega)]
    rw [addD_tup (by simp; omega)]
    rfl
theorem law_packet_ok (ds : List D) (h : ds.length ≤ 1000) : m__law_packet [.tup ds] = .ok (.lst ((pk ds).map .tup)) none := by
  have loop := for_inv (i := 2) (body := L__law_packet_2) nI (fun pre e => ∃ x2 x3, e = [some (.tup ds), some (.lst (pre.map fun j : Nat => .tup (ds.take (ds.length - 1 - j) ++ ds.drop (ds.length - j)))), x2, x3]) (List.range ds.length) [] [some (.tup ds), some (.lst []), none, none] ⟨_, _, rfl⟩ ?_
  · obtain ⟨e', h1, x2, x3, h2⟩ := loop
    rw [List.nil_append] at h2
    subst h2
    refine runF_ok (e := [some (.tup ds), some (.lst ((pk ds).map .tup)), x2, x3]) ?_
    simp [b__law_packet, rng1_of (n := ds.length) (by omega), h1, pk, List.map_map, Function.comp_def]
  · rintro pre' j post hp e ⟨x2, x3, rfl⟩
    have hj : j < ds.length := List.mem_range.mp (by rw [← List.nil_append (List.range _), hp]; simp)
    have hl : pre'.length ≤ 1000 := by
      have := congrArg List.length hp
      simp at this
      omega
    have e1 : ((ds.length : Int) - 1 - j) = ((ds.length - 1 - j : Nat) : Int) := by omega
    have e2 : ((ds.length - 1 - j : Nat) : Int) + 1 = ((ds.length - j : Nat) : Int) := by omega
    refine ⟨_, ?_, some (nI j), some (nI (ds.length - 1 - j)), rfl⟩
    simp [L__law_packet_2, e1, e2, cut_to (l := ds) (n := ds.length - 1 - j) (by omega), cut_from (l := ds) (n := ds.length - j) (by omega)]
    rw [addD_tup (by simp; omega)]
    simp
    rw [append_of (by simp; omega)]
    simp
end KX

set_option Elab.async false
set_option linter.all false
set_option maxRecDepth 100000
set_option maxHeartbeats 4000000
namespace KX
open DL
/-! ### closed parts -/
def eqNs : List D → List Nat → Bool
  | [], [] => true
  | .int i :: ds, x :: xs => decide (i = (x : Int)) && eqNs ds xs
  | _, _ => false
theorem eqNs_eq : ∀ {ds : List D} {l : List Nat}, eqNs ds l = true → ds = l.map nI
  | [], [], _ => rfl
  | [], _ :: _, h => by cases h
  | .int i :: ds, x :: l, h => by
    obtain ⟨h1, h2⟩ := Bool.and_eq_true_iff.mp (show (decide (i = (x : Int)) && eqNs ds l) = true from h)
    rw [eqNs_eq h2, of_decide_eq_true h1]
    rfl
  | .int i :: ds, [], h => by cases h
  | .non :: _, l, h => by cases l <;> cases h
  | .bl _ :: _, l, h => by cases l <;> cases h
  | .str _ :: _, l, h => by cases l <;> cases h
  | .tup _ :: _, l, h => by cases l <;> cases h
  | .lst _ :: _, l, h => by cases l <;> cases h
  | .obj _ _ _ :: _, l, h => by cases l <;> cases h
  | .set _ :: _, l, h => by cases l <;> cases h
  | .cls _ :: _, l, h => by cases l <;> cases h
  | .scr _ :: _, l, h => by cases l <;> cases h
  | .xc _ _ _ :: _, l, h => by cases l <;> cases h
  | .dic _ _ _ :: _, l, h => by cases l <;> cases h
def okT (r : Rs) (l : List Nat) : Bool := match r with
  | .ok (.tup ds) none => eqNs ds l
  | _ => false
theorem okT_eq {r : Rs} {l : List Nat} (h : okT r l = true) : r = .ok (tN l) none := by
  unfold okT at h
  split at h
  · rw [eqNs_eq h]
  · cases h
theorem all_range {m : Nat} {p : Nat → Bool} (h : (List.range m).all p = true) {n : Nat} (hn : n < m) : p n = true := List.all_eq_true.mp h n (List.mem_range.mpr hn)
theorem things_chk : ((List.range 7).all fun n => (List.range 8).all fun k => (lots n k).all fun l => okT (m__check_things [nI n, nI k, tN l]) l) = true := by kernel_rfl
theorem things_ok {n k : Nat} {l : List Nat} (hn : n ≤ 6) (hk : k ≤ 7) (h : l ∈ lots n k) : m__check_things [nI n, nI k, tN l] = .ok (tN l) none :=
  okT_eq (List.all_eq_true.mp (all_range (all_range things_chk (show n < 7 by omega)) (show k < 8 by omega)) l h)
theorem set_chk : ((List.range 7).all fun n => (List.range 8).all fun k => (lots n k).all fun l => okT (m_check_set [nI n, .lst (l.reverse.map nI)]) l) = true := by kernel_rfl
theorem set_ok {n k : Nat} {l : List Nat} (hn : n ≤ 6) (hk : k ≤ 7) (h : l ∈ lots n k) : m_check_set [nI n, .lst (l.reverse.map nI)] = .ok (tN l) none :=
  okT_eq (List.all_eq_true.mp (all_range (all_range set_chk (show n < 7 by omega)) (show k < 8 by omega)) l h)
def okN (r : Rs) : Bool := match r with
  | .ok .non none => true
  | _ => false
theorem shape_chk : ((List.range 7).all fun n => (List.range (n + 2)).all fun k => okN (m__check_shape [nI n, nI k])) = true := by kernel_rfl
theorem shape_ok {n k : Nat} (hn : n ≤ 6) (hk : k ≤ n + 1) : m__check_shape [nI n, nI k] = .ok .non none := by
  have h := all_range (all_range shape_chk (show n < 7 by omega)) (show k < n + 2 by omega)
  unfold okN at h
  split at h
  · assumption
  · cases h
theorem lots_short : ((List.range 7).all fun n => (List.range 9).all fun k => Nat.ble (lots n k).length 20) = true := by kernel_rfl
theorem lots_len {n k : Nat} (hn : n ≤ 6) (hk : k ≤ 8) : (lots n k).length ≤ 20 := Nat.le_of_ble_eq_true (all_range (all_range lots_short (show n < 7 by omega)) (show k < 9 by omega))
theorem lots_full {n k : Nat} (h : (lots n k).length ≤ 20) : True := trivial
theorem okl_lots {n k : Nat} {M : List (List Nat)} (h : ∀ l ∈ M, l ∈ lots n k) (nd : M.Nodup) : Okl M := by
  cases k with
  | zero =>
    left
    cases M with
    | nil => exact Nat.zero_lt_succ _
    | cons a M => cases M with
      | nil => exact Nat.one_lt_two
      | cons b M =>
        exfalso
        have ha : a = [] := by simpa [lots] using h a (by simp)
        have hb : b = [] := by simpa [lots] using h b (by simp)
        have := (List.nodup_cons.mp nd).1
        rw [ha, hb] at this
        exact this (by simp)
  | succ k =>
    right
    intro l hl e
    have := ((lots_mem n (k + 1) l).mp (h l hl)).len
    rw [e] at this
    cases this
/-- marks: rising lots -/
structure Mk (n k : Nat) (M : List (List Nat)) : Prop where
  rsg : Rsg llt M
  sub : ∀ l ∈ M, l ∈ lots n k
theorem sub_len {M L : List (List Nat)} (nd : M.Nodup) (h : ∀ l ∈ M, l ∈ L) : M.length ≤ L.length := by
  induction M generalizing L with
  | nil => exact Nat.zero_le _
  | cons a M ih =>
    obtain ⟨h1, h2⟩ := List.nodup_cons.mp nd
    have ha := h a List.mem_cons_self
    have := ih (L := L.erase a) h2 fun l hl => (List.mem_erase_of_ne (fun e => h1 (by rw [← e]; exact hl))).mpr (h l (List.mem_cons_of_mem _ hl))
    rw [List.length_erase_of_mem ha] at this
    have := List.length_pos_of_mem ha
    simp
    omega
theorem Mk.nd {n k : Nat} {M : List (List Nat)} (h : Mk n k M) : M.Nodup := h.rsg.nodup sto_llt
theorem Mk.len {n k : Nat} {M : List (List Nat)} (h : Mk n k M) (hn : n ≤ 6) (hk : k ≤ 8) : M.length ≤ 20 := Nat.le_trans (sub_len h.nd h.sub) (lots_len hn hk)
theorem Mk.okl {n k : Nat} {M : List (List Nat)} (h : Mk n k M) : Okl M := okl_lots h.sub h.nd
/-- sorted marks are marks -/
theorem mk_sort {n k : Nat} {M : List (List Nat)} (nd : M.Nodup) (h : ∀ l ∈ M, l ∈ lots n k) : Mk n k (sortB llt M) := ⟨sort_rsg sto_llt nd, fun l hl => h l (sort_mem.mp hl)⟩
theorem mk_filter {n k : Nat} (p : List Nat → Bool) : Mk n k ((lots n k).filter p) := ⟨(lots_rsg n k).filter p, fun l hl => (List.mem_filter.mp hl).1⟩
/-! ### check_lots -/
theorem check_lots_ok {n k : Nat} {M : List (List Nat)} (h : Mk n k M) (hn : n ≤ 6) (hk : k ≤ n + 1) (x : D) (hx : x = .lst (M.map tN) ∨ x = tNs M) : m_check_lots [nI n, nI k, x] = .ok (tNs M) none := by
  have hM := h.len hn (by omega)
  have gx : ∀ j (hj : j < M.length), ixD x (nI j) = some (tN M[j]) := fun j hj => by
    have := ix_of (l := M.map tN) (n := j) (d := tN M[j]) (by simp [hj])
    rcases hx with rfl | rfl
    · exact this.2
    · exact this.1
  have lx : lenD x = some (nI M.length) := by
    rcases hx with rfl | rfl
    · simp
    · simp
  have ix : isa2 .list .tuple x = some (.bl true) := by
    rcases hx with rfl | rfl <;> rfl
  have loop := for_inv (i := 4) (body := L_check_lots_4) nI (fun pre e => ∃ x4 x5, e = [some (nI n), some (nI k), some x, some (.lst ((M.take pre.length).map tN)), x4, x5, none]) (List.range M.length) [] [some (nI n), some (nI k), some x, some (.lst []), none, none, none] ⟨_, _, rfl⟩ ?_
  · obtain ⟨e', h1, x4, x5, h2⟩ := loop
    rw [List.nil_append, List.length_range, List.take_length] at h2
    subst h2
    refine runF_ok (e := [some (nI n), some (nI k), some x, some (.lst (M.map tN)), x4, x5, none]) ?_
    have s1 := (sort_lots h.okl).1
    rw [sortB_id sto_llt (h.rsg.srt sto_llt)] at s1
    simp [b_check_lots, rng1_of (n := M.length) (by omega), h1, shape_ok hn hk, ix, lx, s1]
  · rintro pre' j post hp e ⟨x4, x5, rfl⟩
    have hj : j < M.length := List.mem_range.mp (by rw [← List.nil_append (List.range _), hp]; simp)
    have ej : pre'.length = j := by
      have e1 := congrArg (fun l : List Nat => l[pre'.length]?) hp
      simp at e1
      have hl := congrArg List.length hp
      simp at hl
      rw [List.getElem?_range (by omega)] at e1
      exact Option.some.inj e1
    refine ⟨[some (nI n), some (nI k), some x, some (.lst ((M.take (j + 1)).map tN)), some (nI j), some (tN M[j]), none], ?_, some (nI j), some (tN M[j]), by rw [List.length_append, ej]; rfl⟩
    have hni : ¬ M[j] ∈ M.take j := fun hm => by
      obtain ⟨i, hi, e⟩ := List.mem_take_iff_getElem.mp hm
      have := (List.pairwise_iff_getElem.mp h.rsg) i j (by omega) hj (by omega)
      rw [e, sto_llt.irr] at this
      cases this
    have e3 : (M.take (j + 1)).map tN = (M.take j).map tN ++ [tN M[j]] := by
      rw [List.take_succ_eq_append_getElem hj, List.map_append]
      rfl
    rw [ej]
    simp [-List.map_take, L_check_lots_4, sTry, gx j hj, things_ok hn (show k ≤ 7 by omega) (h.sub _ (List.getElem_mem hj)), (in_lots M[j] (M.take j)).1, hni]
    rw [append_of (by simp; omega)]
    simp [-List.map_take, e3]
end KX

set_option Elab.async false
set_option linter.all false
set_option maxRecDepth 100000
set_option maxHeartbeats 4000000
namespace KX
open DL
theorem nI_succ (k : Nat) : nI (k + 1) = .int ((k : Int) + 1) := rfl
/-! ### the rule, plain -/
def turns (bs : List Bool) : Nat := ((List.range' 1 (bs.length - 1)).filter fun k => bs[k]? != bs[k - 1]?).length
/-- the second and the third place of a row's least break -/
def rbI (bs : List Bool) : Option (Nat × Nat) := match (List.range' 1 (bs.length - 1)).find? fun j => bs[j]? != bs[0]? with
  | none => none
  | some s => match (List.range' (s + 1) (bs.length - (s + 1))).find? fun t => bs[t]? == bs[0]? with
    | none => none
    | some t => some (s, t)
def rbD (ds : List D) (bs : List Bool) : D := match rbI bs with
  | none => .non
  | some (s, t) => .tup [ds.getD 0 .non, ds.getD s .non, ds.getD t .non]
theorem row_break_ok : ∀ (ds : List D) (bs : List Bool), ds.length = bs.length → 1 ≤ ds.length → ds.length ≤ 6 → m__row_break [.tup ds, .lst (bs.map .bl)] = .ok (rbD ds bs) none
  | [_], [b0], _, _, _ => by cases b0 <;> kernel_rfl
  | [_, _], [b0, b1], _, _, _ => by cases b0 <;> cases b1 <;> kernel_rfl
  | [_, _, _], [b0, b1, b2], _, _, _ => by cases b0 <;> cases b1 <;> cases b2 <;> kernel_rfl
  | [_, _, _, _], [b0, b1, b2, b3], _, _, _ => by cases b0 <;> cases b1 <;> cases b2 <;> cases b3 <;> kernel_rfl
  | [_, _, _, _, _], [b0, b1, b2, b3, b4], _, _, _ => by cases b0 <;> cases b1 <;> cases b2 <;> cases b3 <;> cases b4 <;> kernel_rfl
  | [_, _, _, _, _, _], [b0, b1, b2, b3, b4, b5], _, _, _ => by cases b0 <;> cases b1 <;> cases b2 <;> cases b3 <;> cases b4 <;> cases b5 <;> kernel_rfl
  | [], _, _, h, _ => by simp at h
  | _ :: _ :: _ :: _ :: _ :: _ :: _ :: _, _, _, _, h => by simp at h
  | [_], [], h, _, _ => by simp at h
  | [_], _ :: _ :: _, h, _, _ => by simp at h
  | [_, _], [], h, _, _ => by simp at h
  | [_, _], [_], h, _, _ => by simp at h
  | [_, _], _ :: _ :: _ :: _, h, _, _ => by simp at h
  | [_, _, _], [], h, _, _ => by simp at h
  | [_, _, _], [_], h, _, _ => by simp at h
  | [_, _, _], [_, _], h, _, _ => by simp at h
  | [_, _, _], _ :: _ :: _ :: _ :: _, h, _, _ => by simp at h
  | [_, _, _, _], [], h, _, _ => by simp at h
  | [_, _, _, _], [_], h, _, _ => by simp at h
  | [_, _, _, _], [_, _], h, _, _ => by simp at h
  | [_, _, _, _], [_, _, _], h, _, _ => by simp at h
  | [_, _, _, _], _ :: _ :: _ :: _ :: _ :: _, h, _, _ => by simp at h
  | [_, _, _, _, _], [], h, _, _ => by simp at h
  | [_, _, _, _, _], [_], h, _, _ => by simp at h
  | [_, _, _, _, _], [_, _], h, _, _ => by simp at h
  | [_, _, _, _, _], [_, _, _], h, _, _ => by simp at h
  | [_, _, _, _, _], [_, _, _, _], h, _, _ => by simp at h
  | [_, _, _, _, _], _ :: _ :: _ :: _ :: _ :: _ :: _, h, _, _ => by simp at h
  | [_, _, _, _, _, _], [], h, _, _ => by simp at h
  | [_, _, _, _, _, _], [_], h, _, _ => by simp at h
  | [_, _, _, _, _, _], [_, _], h, _, _ => by simp at h
  | [_, _, _, _, _, _], [_, _, _], h, _, _ => by simp at h
  | [_, _, _, _, _, _], [_, _, _, _], h, _, _ => by simp at h
  | [_, _, _, _, _, _], [_, _, _, _, _], h, _, _ => by simp at h
  | [_, _, _, _, _, _], _ :: _ :: _ :: _ :: _ :: _ :: _ :: _, h, _, _ => by simp at h
/-! ### marks as objects -/
def mo (c n k : Nat) (M : List (List Nat)) : D := .obj c [53, 83, 122] [nI n, nI k, tNs M]
section
variable {n k : Nat} {M : List (List Nat)} {v : D}
@[simp] theorem gF_size {c : Nat} (hc : c = 62 ∨ c = 100) : fldD ocs 53 (mo c n k M) = some (nI n) := by rcases hc with rfl | rfl <;> rfl
@[simp] theorem gF_level {c : Nat} (hc : c = 62 ∨ c = 100) : fldD ocs 83 (mo c n k M) = some (nI k) := by rcases hc with rfl | rfl <;> rfl
@[simp] theorem gF_marked {c : Nat} (hc : c = 62 ∨ c = 100) : fldD ocs 122 (mo c n k M) = some (tNs M) := by rcases hc with rfl | rfl <;> rfl
theorem put_1 {c : Nat} (hc : c = 62 ∨ c = 100) : putD ocs 53 (.obj c [] []) v = some (.obj c [53] [v]) := by rcases hc with rfl | rfl <;> rfl
theorem put_2 {c : Nat} {a : D} (hc : c = 62 ∨ c = 100) : putD ocs 83 (.obj c [53] [a]) v = some (.obj c [53, 83] [a, v]) := by rcases hc with rfl | rfl <;> rfl
theorem put_3 {c : Nat} {a b : D} (hc : c = 62 ∨ c = 100) : putD ocs 122 (.obj c [53, 83] [a, b]) v = some (.obj c [53, 83, 122] [a, b, v]) := by rcases hc with rfl | rfl <;> rfl
theorem sFld1_ap {i f : Nat} {cs : List Nat} {fv : DL.M D} {env : En} : sFld1 i cs f fv env = (fv env).bind fun v env1 => match env1[i]? with
  | some (some d) => (match putD cs f d v with
    | some d' => .ok .nx (env1.set i (some d'))
    | none => .stuck)
  | _ => .stuck := id rfl
theorem marks_init {c : Nat} (hc : c = 62 ∨ c = 100) (h : Mk n k M) (hn : n ≤ 6) (hk : k ≤ n + 1) (x : D) (hx : x = .lst (M.map tN) ∨ x = tNs M) : m_Marks___init__ [.obj c [] [], nI n, nI k, x] = .ok .non (some (mo c n k M)) := by
  refine (runF_nx (e := [some (mo c n k M), some (nI n), some (nI k), some x, some (tNs M)]) ?_).trans rfl
  simp [-List.map_map, b_Marks___init__, sFld1_ap, check_lots_ok h hn hk x hx, put_1 hc, put_2 hc, put_3 hc]
  rfl
/-! ### the least break -/
def bitsOf (M : List (List Nat)) (things : List Nat) : List Bool := (pk things).map fun l => decide (l ∈ M)
/-- a row's least break -/
def rb (M : List (List Nat)) (things : List Nat) : Option (List (List Nat)) := match rbI (bitsOf M things) with
  | none => none
  | some (s, t) => some [(pk things).getD 0 [], (pk things).getD s [], (pk things).getD t []]
def optD : Option (List (List Nat)) → D
  | none => .non
  | some b => tNs b
@[simp] theorem notN_opt (o : Option (List (List Nat))) : notNone (optD o) .non = some (.bl o.isSome) := by cases o <;> rfl
@[simp] theorem isN_opt (o : Option (List (List Nat))) : isNone (optD o) .non = some (.bl o.isNone) := by cases o <;> rfl
theorem getD_tN (l : List (List Nat)) (i : Nat) (h : i < l.length) : (l.map tN).getD i .non = tN (l.getD i []) := by
  rw [List.getD_eq_getElem?_getD, List.getD_eq_getElem?_getD, List.getElem?_map, List.getElem?_eq_getElem h]
  rfl
theorem rbI_lt {bs : List Bool} {s t : Nat} (h : rbI bs = some (s, t)) : 0 < s ∧ s < t ∧ t < bs.length := by
  unfold rbI at h
  split at h
  · cases h
  · rename_i s' hs
    split at h
    · cases h
    · rename_i t' ht
      cases h
      have h1 := List.mem_range'_1.mp (List.mem_of_find?_eq_some hs)
      have h2 := List.mem_range'_1.mp (List.mem_of_find?_eq_some ht)
      omega
theorem rb_ok (M : List (List Nat)) (things : List Nat) (h1 : 1 ≤ things.length) (h6 : things.length ≤ 6) : m__row_break [.tup ((pk things).map tN), .lst ((bitsOf M things).map .bl)] = .ok (optD (rb M things)) none := by
  rw [row_break_ok _ _ (by simp [bitsOf]) (by simp [pk_len]; omega) (by simp [pk_len]; omega)]
  unfold rbD rb
  cases q : rbI (bitsOf M things) with
  | none => rfl
  | some p =>
    obtain ⟨s, t⟩ := p
    have := rbI_lt q
    have hb : (bitsOf M things).length = (pk things).length := by simp [bitsOf]
    show Rs.ok (.tup [_, _, _]) none = _
    rw [getD_tN _ 0 (by omega), getD_tN _ s (by omega), getD_tN _ t (by omega)]
    rfl
def better (o r : Option (List (List Nat))) : Option (List (List Nat)) := match r with
  | none => o
  | some b => match o with
    | none => some b
    | some a => if lllt b a = true then some b else some a
def leastB (n k : Nat) (M : List (List Nat)) : Option (List (List Nat)) := (lots n (k + 1)).foldl (fun o things => better o (rb M things)) none
theorem rb_ne {M : List (List Nat)} {things : List Nat} {b : List (List Nat)} (h : rb M things = some b) : b ≠ [] := by
  unfold rb at h
  split at h
  · cases h
  · cases h
    intro e
    cases e
theorem least_break_ok (h : Mk n k M) (hn : n ≤ 6) (hk : k ≤ n + 1) : m__least_break [nI n, nI k, tNs M] = .ok (optD (leastB n k M)) none := by
  have loop := for_inv (i := 5) (body := L__least_break_5) tN (fun pre e => ∃ x5 x6 x8, e = [some (nI n), some (nI k), some (tNs M), some (.set (M.map fun a => a.map fun x : Nat => (x : Int))), some (optD (pre.foldl (fun o things => better o (rb M things)) none)), x5, x6, none, x8])
    (lots n (k + 1)) [] [some (nI n), some (nI k), some (tNs M), some (.set (M.map fun a => a.map fun x : Nat => (x : Int))), some .non, none, none, none, none] ⟨_, _, _, rfl⟩ ?_
  · obtain ⟨e', h1, x5, x6, x8, h2⟩ := loop
    rw [List.nil_append] at h2
    subst h2
    refine runF_ok (e := [some (nI n), some (nI k), some (tNs M), some (.set (M.map fun a => a.map fun x : Nat => (x : Int))), some (optD (leastB n k M)), x5, x6, none, x8]) ?_
    have e1 : m__lots [nI n, .int ((k : Int) + 1)] = .ok (tNs (lots n (k + 1))) none := by rw [← nI_succ]; exact lots_ok n (k + 1) hn (by omega)
    have hs := set_lots (l := M) (by have := h.len hn (by omega); omega)
    simp [-List.map_map, b__least_break, hs, e1, h1, leastB]
  · rintro pre' y post hp e ⟨x5, x6, x8, rfl⟩
    have hy : y ∈ lots n (k + 1) := by rw [← List.nil_append (lots n (k + 1)), hp]; simp
    have Ly := (lots_mem n (k + 1) y).mp hy
    have hl : y.length ≤ 6 := by
      have := Ly.len
      cases q : y.getLast? with
      | none =>
        have : y = [] := List.getLast?_eq_none_iff.mp q
        subst this
        exact Nat.zero_le _
      | some z =>
        have h1 := Ly.rise
        have : y.length ≤ n := by
          have key : ∀ (l : List Nat) (m : Nat), l.Pairwise (· < ·) → (∀ x ∈ l, m ≤ x ∧ x < n) → l.length + m ≤ n ∨ l = [] := by
            intro l
            induction l with
            | nil => intro m _ _; exact .inr rfl
            | cons a l ih =>
              intro m hp hb
              obtain ⟨p1, p2⟩ := List.pairwise_cons.mp hp
              have ha := hb a List.mem_cons_self
              rcases ih (a + 1) p2 (fun x hx => ⟨p1 x hx, (hb x (List.mem_cons_of_mem _ hx)).2⟩) with q | q
              · left; simp; omega
              · left; subst q; simp; omega
          rcases key y 0 h1 (fun x hx => ⟨Nat.zero_le _, Ly.low x hx⟩) with q | q
          · omega
          · subst q; exact Nat.zero_le _
        omega
    have h1l : 1 ≤ y.length := by rw [Ly.len]; omega
    have pk1 : m__packet [tN y] = .ok (.tup ((pk y).map tN)) none := by
      rw [packet_ok (y.map nI) (by simp; omega), pk_map, List.map_map]
      rfl
    refine ⟨[some (nI n), some (nI k), some (tNs M), some (.set (M.map fun a => a.map fun x : Nat => (x : Int))), some (optD (better (pre'.foldl (fun o things => better o (rb M things)) none) (rb M y))), some (tN y), some (.tup ((pk y).map tN)), none, some (optD (rb M y))], ?_, _, _, _, by rw [List.foldl_append]; rfl⟩
    generalize pre'.foldl (fun o things => better o (rb M things)) none = o
    have lc := lcM_map (i := 7) (fi := iSeq (vVar 6)) (elt := op2 inD (vVar 7) (vVar 3)) (env := [some (nI n), some (nI k), some (tNs M), some (.set (M.map fun a => a.map fun x : Nat => (x : Int))), some (optD o), some (tN y), some (.tup ((pk y).map tN)), none, x8]) tN (fun l => .bl (decide (l ∈ M))) (pk y) (by simp [-List.map_map]) (by rw [pk_len]; omega) (fun l hl => by simp [-List.map_map, (in_set_lots l M).1])
    have lc' : (pk y).map (fun l => D.bl (decide (l ∈ M))) = (bitsOf M y).map D.bl := by unfold bitsOf; rw [List.map_map]; rfl
    rw [lc'] at lc
    cases q : rb M y with
    | none =>
      have := rb_ok M y h1l hl
      rw [q] at this
      simp [-List.map_map, L__least_break_5, pk1, lc, this, better]
    | some b =>
      have := rb_ok M y h1l hl
      rw [q] at this
      cases o with
      | none => simp [-List.map_map, L__least_break_5, pk1, lc, this, better]
      | some a =>
        have lt : ltD (optD (some b)) (optD (some a)) = _ := lt_rows (a := b) (b := a) (rb_ne q)
        cases r : lllt b a <;> rw [r] at lt <;> simp [-List.map_map, L__least_break_5, pk1, lc, this, better, lt, r]
theorem break_of_ok {c : Nat} (hc : c = 62 ∨ c = 100) (h : Mk n k M) (hn : n ≤ 6) (hk : k ≤ n + 1) : m_break_of [mo c n k M] = .ok (optD (leastB n k M)) none := by
  refine runF_ok (e := [some (mo c n k M)]) ?_
  simp [b_break_of, hc, least_break_ok h hn hk]
theorem keeps_ok {c : Nat} (hc : c = 62 ∨ c = 100) (h : Mk n k M) (hn : n ≤ 6) (hk : k ≤ n + 1) : m_keeps [mo c n k M] = .ok (.bl (leastB n k M).isNone) none := by
  refine runF_ok (e := [some (mo c n k M)]) ?_
  simp [b_keeps, break_of_ok hc h hn hk]
end
end KX

set_option Elab.async false
set_option linter.all false
set_option maxRecDepth 100000
set_option maxHeartbeats 4000000
namespace KX
open DL
def bI (b : Bool) : D := .int (if b then 1 else 0)
theorem ne_bI (a b : Bool) : neD (bI a) (bI b) = some (.bl (!(a == b))) := by cases a <;> cases b <;> rfl
theorem ne_some (a b : Bool) : (!(a == b)) = (some a != some b) := by cases a <;> cases b <;> rfl
theorem ne_bl (a b : Bool) : neD (.bl a) (.bl b) = some (.bl (!(a == b))) := rfl
theorem eq_bl (a b : Bool) : eqD (.bl a) (.bl b) = some (.bl (a == b)) := rfl
theorem get_map {α : Type} {e : α → D} {l : List α} {i : Nat} (h : i < l.length) : ixD (.lst (l.map e)) (nI i) = some (e l[i]) ∧ ixD (.tup (l.map e)) (nI i) = some (e l[i]) := by
  have := ix_of (l := l.map e) (n := i) (d := e l[i]) (by simp [h])
  exact ⟨this.2, this.1⟩
theorem law_turns_ok (e : Bool → D) (he : ∀ a b, neD (e a) (e b) = some (.bl (!(a == b)))) (bs : List Bool) (h : bs.length ≤ 1000) : m__law_turns [.lst (bs.map e)] = .ok (nI (turns bs)) none := by
  have loop := for_inv (i := 2) (body := L__law_turns_2) nI (fun pre env => ∃ x2, env = [some (.lst (bs.map e)), some (nI (pre.filter fun k => bs[k]? != bs[k - 1]?).length), x2]) (List.range' 1 (bs.length - 1)) [] [some (.lst (bs.map e)), some (nI 0), none] ⟨_, rfl⟩ ?_
  · obtain ⟨e', h1, x2, h2⟩ := loop
    rw [List.nil_append] at h2
    subst h2
    refine runF_ok (e := [some (.lst (bs.map e)), some (nI (turns bs)), x2]) ?_
    have r := rng2_of (lo := 1) (hi := bs.length) (by omega) (by omega)
    have r' : rng2 [.int 1, nI bs.length] = _ := r
    have h1' : forM 2 L__law_turns_2 ((List.range' 1 (bs.length - 1)).map nI) [some (.lst (bs.map e)), some (.int 0), none] = _ := h1
    simp [b__law_turns, r', h1', turns]
  · rintro pre' k post hp env ⟨x2, rfl⟩
    have hk : k ∈ List.range' 1 (bs.length - 1) := by rw [← List.nil_append (List.range' _ _), hp]; simp
    have hk := List.mem_range'_1.mp hk
    have g1 := (get_map (e := e) (l := bs) (i := k) (by omega)).1
    have g2 := (get_map (e := e) (l := bs) (i := k - 1) (by omega)).1
    have ek : ((k : Int) - 1) = ((k - 1 : Nat) : Int) := by omega
    refine ⟨[some (.lst (bs.map e)), some (nI ((pre' ++ [k]).filter fun k => bs[k]? != bs[k - 1]?).length), some (nI k)], ?_, _, rfl⟩
    have b1 : bs[k]? = some bs[k] := List.getElem?_eq_getElem (by omega)
    have b2 : bs[k - 1]? = some bs[k - 1] := List.getElem?_eq_getElem (by omega)
    rw [List.filter_append, List.length_append]
    by_cases q : bs[k] = bs[k - 1]
    · simp [L__law_turns_2, g1, g2, ek, he, q, b1, b2]
    · have q' : (bs[k] == bs[k - 1]) = false := beq_eq_false_iff_ne.mpr q
      simp [L__law_turns_2, g1, g2, ek, he, q, q', b1, b2, i2]
section
variable {n k : Nat} {M : List (List Nat)}
theorem _root_.DL.Lot.le {n k : Nat} {y : List Nat} (Ly : Lot n k y) : y.length ≤ n := by
  have key : ∀ (l : List Nat) (m : Nat), l.Pairwise (· < ·) → (∀ x ∈ l, m ≤ x ∧ x < n) → l.length + m ≤ n ∨ l = [] := by
    intro l
    induction l with
    | nil => intro m _ _; exact .inr rfl
    | cons a l ih =>
      intro m hp hb
      obtain ⟨p1, p2⟩ := List.pairwise_cons.mp hp
      have ha := hb a List.mem_cons_self
      rcases ih (a + 1) p2 (fun x hx => ⟨p1 x hx, (hb x (List.mem_cons_of_mem _ hx)).2⟩) with q | q
      · left; simp; omega
      · left; subst q; simp; omega
  rcases key y 0 Ly.rise (fun x hx => ⟨Nat.zero_le _, Ly.low x hx⟩) with q | q
  · omega
  · subst q; exact Nat.zero_le _
theorem pk_ok {y : List Nat} (h : y.length ≤ 1000) : m__packet [tN y] = .ok (tNs (pk y)) none ∧ m__law_packet [tN y] = .ok (.lst ((pk y).map tN)) none := by
  constructor
  · rw [packet_ok (y.map nI) (by simp; omega), pk_map, List.map_map]
    rfl
  · rw [law_packet_ok (y.map nI) (by simp; omega), pk_map, List.map_map]
    rfl
theorem packet_marks_ok {c : Nat} (hc : c = 62 ∨ c = 100) (hn : n ≤ 6) (hk : k ≤ n + 1) {y : List Nat} (hy : y ∈ lots n (k + 1)) :
    m_packet_marks [mo c n k M, .lst (y.reverse.map nI)] = .ok (.tup ((bitsOf M y).map bI)) none := by
  have Ly := (lots_mem n (k + 1) y).mp hy
  have hl := Ly.le
  have hk2 : k + 1 ≤ n := by rw [← Ly.len]; exact hl
  refine runF_ok (e := [some (mo c n k M), some (.lst (y.reverse.map nI)), some (tN y), none]) ?_
  have s1 := set_ok hn (show k + 1 ≤ 7 by omega) hy
  have lc := lcM_map (i := 3) (fi := iSeq (cCall 1 m__packet (aCons (vVar 2) (aNil)))) (elt := iff_ (tB1 (op2 inD (vVar 3) (op1 (fldD ocs 122) (vVar 0)))) (vC (.int 1)) (vC (.int 0))) (env := [some (mo c n k M), some (.lst (y.reverse.map nI)), some (tN y), none])
    tN (fun l => bI (decide (l ∈ M))) (pk y) (by simp [-List.map_map, (pk_ok (y := y) (by omega)).1]) (by rw [pk_len]; omega) (fun l hl => by
      by_cases q : l ∈ M <;> simp [-List.map_reverse, hc, (in_lots l M).2, q, bI])
  have lc' : (pk y).map (fun l => bI (decide (l ∈ M))) = (bitsOf M y).map bI := by unfold bitsOf; rw [List.map_map]; rfl
  rw [lc'] at lc
  have e1 : ((y.length : Int) == (k : Int) + 1) = true := by rw [Ly.len]; simp
  simp [-List.map_reverse, -List.map_map, b_packet_marks, hc, s1, lc, Ly.len]
end
end KX

set_option Elab.async false
set_option linter.all false
set_option maxRecDepth 100000
set_option maxHeartbeats 4000000
namespace KX
open DL
/-! ### rows of at most six, all looked at -/
def allB : Nat → List (List Bool)
  | 0 => [[]]
  | m + 1 => (allB m).flatMap fun b => [false :: b, true :: b]
theorem allB_mem : ∀ (m : Nat) (bs : List Bool), bs.length = m → bs ∈ allB m
  | 0, bs, h => by
    rw [List.length_eq_zero_iff.mp h]
    exact List.mem_singleton.mpr rfl
  | m + 1, [], h => by cases h
  | m + 1, b :: bs, h => by
    have := allB_mem m bs (Nat.succ.inj h)
    unfold allB
    rw [List.mem_flatMap]
    exact ⟨bs, this, by cases b <;> simp⟩
def bsOk2 (bs : List Bool) : Bool := decide (turns bs < 2) == (rbI bs).isNone
theorem bs_chk2 : ((List.range 7).all fun m => (allB m).all bsOk2) = true := by kernel_rfl
theorem bs_ok2 {bs : List Bool} (h : bs.length ≤ 6) : bsOk2 bs = true := List.all_eq_true.mp (all_range bs_chk2 (show bs.length < 7 by omega)) bs (allB_mem _ bs rfl)
section
variable {n k : Nat} {M : List (List Nat)}
theorem rb_none (hn : n ≤ 6) {t : List Nat} (ht : t ∈ lots n (k + 1)) : turns (bitsOf M t) < 2 ↔ rb M t = none := by
  have Lt := (lots_mem n (k + 1) t).mp ht
  have hl := Lt.le
  have hb : (bitsOf M t).length = (pk t).length := by simp [bitsOf]
  have h6 : (pk t).length ≤ 6 := by rw [pk_len]; omega
  have c := bs_ok2 (bs := bitsOf M t) (by omega)
  have c2 := beq_iff_eq.mp c
  unfold rb
  cases q : rbI (bitsOf M t) with
  | none =>
    rw [q] at c2
    exact ⟨fun _ => rfl, fun _ => of_decide_eq_true c2⟩
  | some p =>
    rw [q] at c2
    have h2 := of_decide_eq_false c2
    exact ⟨fun z => absurd z h2, fun z => by cases z⟩
theorem fold_better_none : ∀ (P : List (List Nat)) (o : Option (List (List Nat))), (P.foldl (fun o t => better o (rb M t)) o = none ↔ o = none ∧ ∀ t ∈ P, rb M t = none)
  | [], o => by simp
  | t :: P, o => by
    rw [List.foldl_cons, fold_better_none P]
    simp only [List.mem_cons, forall_eq_or_imp]
    have : better o (rb M t) = none ↔ o = none ∧ rb M t = none := by
      cases q : rb M t with
      | none => simp [better]
      | some b =>
        cases o with
        | none => simp [better]
        | some a => simp [better]; split <;> simp
    rw [this, and_assoc]
theorem least_none (hn : n ≤ 6) : leastB n k M = none ↔ ∀ t ∈ lots n (k + 1), turns (bitsOf M t) < 2 := by
  unfold leastB
  rw [fold_better_none]
  exact ⟨fun h t ht => (rb_none hn ht).mpr (h.2 t ht), fun h => ⟨rfl, fun t ht => (rb_none hn ht).mp (h t ht)⟩⟩
end
end KX

set_option Elab.async false
set_option linter.all false
set_option maxRecDepth 100000
set_option maxHeartbeats 4000000
namespace KX
open DL
section
variable {n k : Nat} {M : List (List Nat)}
theorem noX_nI (l : List Nat) : noXL (l.map nI) = true := by
  induction l with
  | nil => rfl
  | cons x l ih => rw [List.map_cons]; unfold noXL; rw [ih]; rfl
theorem noX_tN (l : List (List Nat)) : noXL (l.map tN) = true := by
  induction l with
  | nil => rfl
  | cons x l ih =>
    rw [List.map_cons]
    unfold noXL
    rw [ih, Bool.and_true]
    exact noX_nI x
@[simp] theorem noX_mo {c : Nat} : noX (mo c n k M) = true := by
  show (noX (nI n) && (noX (nI k) && (noX (tNs M) && true))) = true
  rw [show noX (tNs M) = true from noX_tN M]
  rfl
@[simp] theorem isFam_mo : isaOwn is_Family (mo 100 n k M) = some (.bl true) := id rfl
@[simp] theorem isFam_ma : isaOwn is_Family (mo 62 n k M) = some (.bl false) := id rfl
@[simp] theorem isMar_mo {c : Nat} (hc : c = 62 ∨ c = 100) : isaOwn is_Marks (mo c n k M) = some (.bl true) := by rcases hc with rfl | rfl <;> rfl
/-! ### making -/
theorem cMake_ap {c np : Nat} {m : List D → Rs} {fs : DL.M (List D)} {env : En} : cMake c np m fs env = (fs env).bind fun ds env1 => if ds.length + 1 = np then (match m (.obj c [] [] :: ds) with
  | .ok .non (some io) => .ok io env1
  | .err c ns es _ => .err c ns es env1
  | _ => .stuck) else .stuck := id rfl
theorem family_good (h : Mk n k M) (hn : n ≤ 6) (hk : k ≤ n + 1) (x : D) (hx : x = .lst (M.map tN) ∨ x = tNs M) (hl : leastB n k M = none) : m_Family___init__ [.obj 100 [] [], nI n, nI k, x] = .ok .non (some (mo 100 n k M)) := by
  refine (runF_nx (e := [some (mo 100 n k M), some (nI n), some (nI k), some x, none, some .non]) ?_).trans rfl
  have mi := marks_init (c := 100) (.inr rfl) h hn hk x hx
  have lb := least_break_ok h hn hk
  rw [hl] at lb
  have lb' : m__least_break [nI n, nI k, tNs M] = .ok .non none := lb
  simp [-List.map_map, b_Family___init__, g_Family___init__, a_Family___init__, vSup, mi, lb']
theorem family_bad (h : Mk n k M) (hn : n ≤ 6) (hk : k ≤ n + 1) (x : D) (hx : x = .lst (M.map tN) ∨ x = tNs M) {b : List (List Nat)} (hl : leastB n k M = some b) : m_Family___init__ [.obj 100 [] [], nI n, nI k, x] = .err 99 [47] [tNs b] (some (mo 100 n k M)) := by
  refine (runF_err (e := [some (mo 100 n k M), some (nI n), some (nI k), some x, none, some (tNs b)]) ?_).trans rfl
  have mi := marks_init (c := 100) (.inr rfl) h hn hk x hx
  have lb := least_break_ok h hn hk
  rw [hl] at lb
  have lb' : m__least_break [nI n, nI k, tNs M] = .ok (tNs b) none := lb
  simp [-List.map_map, b_Family___init__, g_Family___init__, a_Family___init__, vSup, mi, lb']
/-! ### == -/
theorem eq_ok {c c' : Nat} (hc : c = 62 ∨ c = 100) (hc' : c' = 62 ∨ c' = 100) : m_Marks___eq__ [mo c n k M, mo c' n k M] = .ok (.bl true) none := by
  refine runF_ok (e := [some (mo c n k M), some (mo c' n k M)]) ?_
  have e := (eqD_tNs M M).1
  simp only [decide_true] at e
  simp [-List.map_map, b_Marks___eq__, hc, hc', e]
end
end KX

set_option Elab.async false
set_option linter.all false
set_option maxRecDepth 100000
set_option maxHeartbeats 4000000
namespace KX
open DL
/-! ### loops and comprehensions that carry a state -/
section
variable {α : Type} {i : Nat} {cond : DL.M Bool} {elt : DL.M D} {body : DL.M Fl}
theorem for_ret (enc : α → D) (Inv : En → Prop) (p : α → Bool) (G : α → D) : ∀ (ys : List α) (env : En), Inv env → (∀ y ∈ ys, ∀ e, Inv e → (p y = true → ∃ e', body (e.set i (some (enc y))) = .ok (.rt (G y)) e' ∧ Inv e') ∧ (p y = false → ∃ e', body (e.set i (some (enc y))) = .ok .nx e' ∧ Inv e')) →
    (∃ y e', ys.find? p = some y ∧ forM i body (ys.map enc) env = .ok (.rt (G y)) e' ∧ Inv e') ∨ (ys.find? p = none ∧ ∃ e', forM i body (ys.map enc) env = .ok .nx e' ∧ Inv e')
  | [], env, h, _ => .inr ⟨rfl, env, rfl, h⟩
  | y :: ys, env, h, hs => by
    obtain ⟨h1, h2⟩ := hs y List.mem_cons_self env h
    rw [List.map_cons, List.find?_cons]
    unfold DL.forM
    cases q : p y with
    | true =>
      obtain ⟨e', a, b⟩ := h1 q
      rw [a]
      exact .inl ⟨y, e', rfl, rfl, b⟩
    | false =>
      obtain ⟨e', a, b⟩ := h2 q
      rw [a]
      exact for_ret enc Inv p G ys e' b fun z hz => hs z (List.mem_cons_of_mem _ hz)
theorem lcGo_inv (enc : α → D) (P : List α → List D → En → Prop) : ∀ (ys pre : List α) (acc : List D) (k : Nat) (env : En), P pre acc env → k + ys.length ≤ 1000000 →
    (∀ pre' y post acc' e, pre ++ ys = pre' ++ y :: post → P pre' acc' e → ∃ b e1, cond (e.set i (some (enc y))) = .ok b e1 ∧ (b = true → ∃ d e2, elt e1 = .ok d e2 ∧ P (pre' ++ [y]) (acc' ++ [d]) (e2.set i none)) ∧ (b = false → P (pre' ++ [y]) acc' (e1.set i none))) →
    ∃ out e', lcGo i cond elt k (ys.map enc) env = .ok out e' ∧ P (pre ++ ys) (acc ++ out) e'
  | [], pre, acc, k, env, h, _, _ => ⟨[], env, rfl, by rw [List.append_nil, List.append_nil]; exact h⟩
  | y :: ys, pre, acc, k, env, h, hk, hs => by
    rw [List.length_cons] at hk
    obtain ⟨b, e1, h1, h2, h3⟩ := hs pre y ys acc env rfl h
    have hs' : ∀ acc0 : List D, ∀ pre' z post acc' e, (pre ++ [y]) ++ ys = pre' ++ z :: post → P pre' acc' e → _ := fun _ pre' z post acc' e he => hs pre' z post acc' e (by rw [← he, List.append_assoc]; rfl)
    rw [List.map_cons]
    unfold lcGo
    rw [h1]
    cases b with
    | true =>
      obtain ⟨d, e2, g1, g2⟩ := h2 rfl
      obtain ⟨out, e', g3, g4⟩ := lcGo_inv enc P ys (pre ++ [y]) (acc ++ [d]) (k + 1) _ g2 (by omega) (hs' acc)
      refine ⟨d :: out, e', ?_, by rw [List.append_assoc, List.append_assoc] at g4; exact g4⟩
      show (match elt e1 with
        | .ok y env2 => if small k = true then (lcGo i cond elt (k + 1) (ys.map enc) (env2.set i none)).bind fun ys env3 => .ok (y :: ys) env3 else .stuck
        | _ => .stuck) = _
      rw [g1]
      show (if small k = true then (lcGo i cond elt (k + 1) (ys.map enc) (e2.set i none)).bind fun ys env3 => .ok (d :: ys) env3 else .stuck) = _
      rw [if_pos (small_of (by omega)), g3]
      rfl
    | false =>
      obtain ⟨out, e', g3, g4⟩ := lcGo_inv enc P ys (pre ++ [y]) acc k _ (h3 rfl) (by omega) (hs' acc)
      refine ⟨out, e', g3, by rw [List.append_assoc] at g4; exact g4⟩
theorem lcM_inv {fi : DL.M (List D)} (enc : α → D) (P : List α → List D → En → Prop) (ys : List α) (env env1 : En) (hi : fi env = .ok (ys.map enc) env1) (h : P [] [] (env1.set i none)) (hl : ys.length ≤ 1000000)
    (hs : ∀ pre' y post acc' e, ys = pre' ++ y :: post → P pre' acc' e → ∃ b e1, cond (e.set i (some (enc y))) = .ok b e1 ∧ (b = true → ∃ d e2, elt e1 = .ok d e2 ∧ P (pre' ++ [y]) (acc' ++ [d]) (e2.set i none)) ∧ (b = false → P (pre' ++ [y]) acc' (e1.set i none))) :
    ∃ out e', lcM i fi cond elt env = .ok (.lst out) (e'.set i (env1.getD i none)) ∧ P ys out e' := by
  obtain ⟨out, e', h1, h2⟩ := lcGo_inv (cond := cond) (elt := elt) (i := i) enc P ys [] [] 0 _ h (by omega) (fun pre' y post acc' e he => hs pre' y post acc' e (by simpa using he))
  refine ⟨out, e', ?_, by simpa using h2⟩
  unfold lcM
  rw [hi]
  show (match lcGo i cond elt 0 (ys.map enc) (env1.set i none) with
    | .ok ys env3 => R.ok (D.lst ys) (env3.set i (env1.getD i none))
    | _ => .stuck) = _
  rw [h1]
end
theorem mulI_of {i j : Int} (h : i.natAbs < 18446744073709551616 ∨ j.natAbs < 18446744073709551616) : mulI (.int i) (.int j) = some (.int (i * j)) := by
  show (if mulC i j = true then some (D.int (i * j)) else none) = _
  rw [if_pos]
  unfold mulC
  rw [Bool.or_eq_true]
  rcases h with h | h
  · exact .inl (Nat.ble_eq_true_of_le h)
  · exact .inr (Nat.ble_eq_true_of_le h)
theorem fdivD_of {i j : Int} (h : j ≠ 0) (k : j.natAbs < 1073741824) : fdivD (.int i) (.int j) = some (.int (i.fdiv j)) := by
  show (if divC i j = true then some (D.int (i.fdiv j)) else none) = _
  rw [if_pos]
  unfold divC
  rw [Bool.and_eq_true]
  exact ⟨decide_eq_true h, Nat.ble_eq_true_of_le k⟩
theorem modD_of {i j : Int} (h : j ≠ 0) : modD (.int i) (.int j) = some (.int (i.fmod j)) := by
  show (if decide (j ≠ 0) = true then some (D.int (i.fmod j)) else none) = _
  rw [if_pos (decide_eq_true h)]
/-! ### the draws -/
theorem draws_in1 (x0 x3 : Option D) (s : Int) (l : List Int) (x : Int) (c : Option D) (hl : l.length ≤ 10000) : ∃ l' x' c', forM 5 L__law_draws_5 ((List.range 44).map nI) [x0, some (lI l), some (.int s), x3, some (.int x), c] = .ok .nx [x0, some (lI l'), some (.int s), x3, some (.int x'), c'] ∧ l'.length ≤ l.length + 44 := by
  have loop := for_inv (i := 5) (body := L__law_draws_5) nI (fun pre e => ∃ l' x' c', e = [x0, some (lI l'), some (.int s), x3, some (.int x'), c'] ∧ l'.length ≤ l.length + pre.length) (List.range 44) [] [x0, some (lI l), some (.int s), x3, some (.int x), c] ⟨l, x, c, rfl, Nat.le_refl _⟩ ?_
  · obtain ⟨e', h1, l', x', c', h2, h3⟩ := loop
    subst h2
    exact ⟨l', x', c', h1, by simpa using h3⟩
  · rintro pre' y post hp e ⟨l', x', c', rfl, h3⟩
    have hp2 := congrArg List.length hp
    simp at hp2
    by_cases q : 0 < x'
    · refine ⟨[x0, some (lI (l' ++ [x'.fmod 30])), some (.int s), x3, some (.int (x'.fdiv 30)), some (nI y)], ?_, _, _, _, rfl, by simp; omega⟩
      have ap := append_of (l := l'.map D.int) (d := .int (x'.fmod 30)) (by simp; omega)
      simp [L__law_draws_5, q, modD_of, fdivD_of, ap]
    · refine ⟨[x0, some (lI l'), some (.int s), x3, some (.int x'), some (nI y)], ?_, _, _, _, rfl, by simp; omega⟩
      simp [L__law_draws_5, q]
theorem draws_in2 (x0 x4 : Option D) (a : Nat) (ha : a ≤ 1000) (s : Int) (hs : 0 ≤ s ∧ s < 2147483648) (l : List Int) (c : Option D) (hl : l.length ≤ 10000) : ∃ l' s' c', forM 5 L__law_draws_5_2 ((List.range 5).map nI) [x0, some (lI l), some (.int s), some (nI a), x4, c] = .ok .nx [x0, some (lI l'), some (.int s'), some (nI a), x4, c'] ∧ l'.length ≤ l.length + 5 ∧ 0 ≤ s' ∧ s' < 2147483648 := by
  have loop := for_inv (i := 5) (body := L__law_draws_5_2) nI (fun pre e => ∃ l' s' c', e = [x0, some (lI l'), some (.int s'), some (nI a), x4, c'] ∧ l'.length ≤ l.length + pre.length ∧ 0 ≤ s' ∧ s' < 2147483648) (List.range 5) [] [x0, some (lI l), some (.int s), some (nI a), x4, c] ⟨l, s, c, rfl, Nat.le_refl _, hs⟩ ?_
  · obtain ⟨e', h1, l', s', c', h2, h3, h4⟩ := loop
    subst h2
    exact ⟨l', s', c', h1, by simpa using h3, h4⟩
  · rintro pre' y post hp e ⟨l', s', c', rfl, h3, h4, h5⟩
    have hp2 := congrArg List.length hp
    simp at hp2
    have m1 := mulI_of (i := s') (j := s') (.inl (by omega))
    have m2 := mulI_of (i := 5) (j := (y : Int)) (.inl (by decide))
    have ap := append_of (l := l'.map D.int) (d := .int ((((s' * s' + 5 * (y : Int) + (a : Int) + 1).fmod 2147483587).fdiv 11).fmod 27720)) (by simp; omega)
    refine ⟨[x0, some (lI (l' ++ [(((s' * s' + 5 * (y : Int) + (a : Int) + 1).fmod 2147483587).fdiv 11).fmod 27720])), some (.int ((s' * s' + 5 * (y : Int) + (a : Int) + 1).fmod 2147483587)), some (nI a), x4, some (nI y)], ?_, _, _, _, rfl, by simp; omega, Int.fmod_nonneg_of_pos _ (by decide), Int.lt_trans (Int.fmod_lt_of_pos _ (by decide)) (by decide)⟩
    simp [L__law_draws_5_2, m1, m2, modD_of, fdivD_of, ap]
theorem draws_ok (ns : List Int) (h : ns.length ≤ 63) : ∃ (l : List Int) (io : Option D), m__law_draws [.scr ns] = .ok (lI l) io := by
  have loop := for_inv (i := 3) (body := L__law_draws_3) nI (fun pre e => ∃ l s x3 x4 x5, e = [some (.scr ns), some (lI l), some (.int s), x3, x4, x5] ∧ l.length ≤ 50 * pre.length ∧ 0 ≤ s ∧ s < 2147483648) (List.range ns.length) [] [some (.scr ns), some (lI []), some (.int 911), none, none, none] ⟨[], 911, none, none, none, rfl, Nat.le_refl _, by decide, by decide⟩ ?_
  · obtain ⟨e', h1, l, s, x3, x4, x5, h2, h3, h4⟩ := loop
    subst h2
    refine ⟨l.reverse, _, runF_ok (e := [some (.scr ns), some (lI l.reverse), some (.int s), x3, x4, x5]) ?_⟩
    have ln : lenD (.scr ns) = some (nI ns.length) := by
      show some (D.int ((ns.map D.int).length : Int)) = _
      rw [List.length_map]
    have mn : ¬ ((63 : Int) < (ns.length : Int)) := by omega
    have h1' : forM 3 L__law_draws_3 ((List.range ns.length).map nI) [some (.scr ns), some (.lst []), some (.int 911), none, none, none] = .ok .nx [some (.scr ns), some (lI l), some (.int s), x3, x4, x5] := h1
    have rv : mReverse (l.map D.int) [] = some (.non, (l.map D.int).reverse) := rfl
    simp [b__law_draws, ln, mn, rng1_of (n := ns.length) (by omega), h1', rv]
  · rintro pre' y post hp e ⟨l, s, x3, x4, x5, rfl, h3, h4, h5⟩
    have hy : y < ns.length := List.mem_range.mp (by rw [← List.nil_append (List.range _), hp]; simp)
    have hp2 := congrArg List.length hp
    simp at hp2
    have gx : ixD (.scr ns) (nI y) = some (.int ns[y]) := by
      have := (get_map (e := D.int) (l := ns) (i := y) hy).1
      exact this
    have fin : ∀ x : Int, ∃ e', (sIf (tB1 (op2 geI (vVar 4) (op2 powD (vC (.int 10)) (vC (.int 18))))) (sFor 5 (iRng rng1 (aCons (vC (.int 44)) (aNil))) (L__law_draws_5)) (sSeq (sSet 2 (op2 modD (op1 intD (op2 addD (op2 addD (op2 mulI (vVar 2) (vC (.int 31))) (op2 mulI (vVar 4) (vC (.int 7919)))) (vVar 3))) (vC (.int 2147483629)))) (sFor 5 (iRng rng1 (aCons (vC (.int 5)) (aNil))) (L__law_draws_5_2)))) [some (.scr ns), some (lI l), some (.int s), some (nI y), some (.int x), x5] = .ok .nx e' ∧
        ∃ l s x3 x4 x5, e' = [some (.scr ns), some (lI l), some (.int s), x3, x4, x5] ∧ l.length ≤ 50 * (pre' ++ [y]).length ∧ 0 ≤ s ∧ s < 2147483648 := by
      intro x
      have pw : powD (.int 10) (.int 18) = some (.int 1000000000000000000) := rfl
      have r44 : rng1 [.int 44] = some ((List.range 44).map nI) := rng1_of (n := 44) (by decide)
      have r5 : rng1 [.int 5] = some ((List.range 5).map nI) := rng1_of (n := 5) (by decide)
      by_cases q : (1000000000000000000 : Int) ≤ x
      · obtain ⟨l', x', c', g1, g2⟩ := draws_in1 (some (.scr ns)) (some (nI y)) s l x x5 (by omega)
        refine ⟨[some (.scr ns), some (lI l'), some (.int s), some (nI y), some (.int x'), c'], ?_, l', s, _, _, c', rfl, by simp; omega, h4, h5⟩
        simp [pw, q, r44, g1]
      · have m1 := mulI_of (i := s) (j := 31) (.inr (by decide))
        have m2 := mulI_of (i := x) (j := 7919) (.inr (by decide))
        obtain ⟨l', s', c', g1, g2, g3, g4⟩ := draws_in2 (some (.scr ns)) (some (.int x)) y (by omega) ((s * 31 + x * 7919 + (y : Int)).fmod 2147483629) ⟨Int.fmod_nonneg_of_pos _ (by decide), Int.lt_trans (Int.fmod_lt_of_pos _ (by decide)) (by decide)⟩ l x5 (by omega)
        refine ⟨[some (.scr ns), some (lI l'), some (.int s'), some (nI y), some (.int x), c'], ?_, l', s', _, _, c', rfl, by simp; omega, g3, g4⟩
        simp [pw, q, m1, m2, modD_of, r5, g1]
    by_cases q : ns[y] < 0
    · obtain ⟨e', g1, g2⟩ := fin (3 - 2 * ns[y])
      refine ⟨e', ?_, g2⟩
      have m := mulI_of (i := 2) (j := ns[y]) (.inl (by decide))
      have g1' := g1
      simp only [sIf_ap] at g1'
      simp [L__law_draws_3, gx, q, m]
      simpa using g1
    · obtain ⟨e', g1, g2⟩ := fin ns[y]
      refine ⟨e', ?_, g2⟩
      simp [L__law_draws_3, gx, q]
      simpa using g1
end KX

set_option Elab.async false
set_option linter.all false
set_option maxRecDepth 100000
set_option maxHeartbeats 4000000
namespace KX
open DL
/-! ### heights -/
/-- the product of the distances -/
def spr (ps : List Int) (ts : List Nat) : Int := (List.range ts.length).foldl (fun w k => (List.range k).foldl (fun w j => w * (ps.getD (ts.getD k 0) 0 - ps.getD (ts.getD j 0) 0)) w) 1
structure Pl (n : Nat) (ps : List Int) : Prop where
  len : ps.length = n
  low : ∀ p ∈ ps, p.natAbs ≤ 1000000
theorem Pl.get {n : Nat} {ps : List Int} (h : Pl n ps) {x : Nat} (hx : x < n) : ixD (lI ps) (nI x) = some (.int (ps.getD x 0)) ∧ (ps.getD x 0).natAbs ≤ 1000000 := by
  have hl : x < ps.length := by rw [h.len]; exact hx
  have e : ps.getD x 0 = ps[x] := by rw [List.getD_eq_getElem?_getD, List.getElem?_eq_getElem hl]; rfl
  rw [e]
  exact ⟨(get_map (e := D.int) hl).1, h.low _ (List.getElem_mem hl)⟩
theorem getN {ts : List Nat} {k : Nat} (h : k < ts.length) : ixD (tN ts) (nI k) = some (nI (ts.getD k 0)) := by
  rw [(get_map (e := nI) h).2, List.getD_eq_getElem?_getD, List.getElem?_eq_getElem h]
  rfl
theorem getD_lt {ts : List Nat} {n k : Nat} (h : ∀ x ∈ ts, x < n) (hk : k < ts.length) : ts.getD k 0 < n := by
  rw [List.getD_eq_getElem?_getD, List.getElem?_eq_getElem hk]
  exact h _ (List.getElem_mem hk)
theorem spread_ok {n : Nat} {ps : List Int} (h : Pl n ps) {ts : List Nat} (ht : ∀ x ∈ ts, x < n) (hl : ts.length ≤ 1000) : m__law_spread [tN ts, lI ps] = .ok (.int (spr ps ts)) none := by
  have inner : ∀ (k : Nat), k < ts.length → ∀ (w : Int) (c : Option D), ∃ c', forM 4 L__law_spread_4 ((List.range k).map nI) [some (tN ts), some (lI ps), some (.int w), some (nI k), c] = .ok .nx [some (tN ts), some (lI ps), some (.int ((List.range k).foldl (fun w j => w * (ps.getD (ts.getD k 0) 0 - ps.getD (ts.getD j 0) 0)) w)), some (nI k), c'] := by
    intro k hk w c
    have loop := for_inv (i := 4) (body := L__law_spread_4) nI (fun pre e => ∃ c', e = [some (tN ts), some (lI ps), some (.int (pre.foldl (fun w j => w * (ps.getD (ts.getD k 0) 0 - ps.getD (ts.getD j 0) 0)) w)), some (nI k), c']) (List.range k) [] [some (tN ts), some (lI ps), some (.int w), some (nI k), c] ⟨c, rfl⟩ ?_
    · obtain ⟨e', h1, c', h2⟩ := loop
      subst h2
      exact ⟨c', h1⟩
    · rintro pre' j post hp e ⟨c', rfl⟩
      have hj : j < k := List.mem_range.mp (by rw [← List.nil_append (List.range k), hp]; simp)
      have a := h.get (getD_lt ht hk)
      have b := h.get (getD_lt ht (show j < ts.length by omega))
      refine ⟨[some (tN ts), some (lI ps), some (.int ((pre' ++ [j]).foldl (fun w j => w * (ps.getD (ts.getD k 0) 0 - ps.getD (ts.getD j 0) 0)) w)), some (nI k), some (nI j)], ?_, _, rfl⟩
      rw [List.foldl_append]
      generalize pre'.foldl (fun w j => w * (ps.getD (ts.getD k 0) 0 - ps.getD (ts.getD j 0) 0)) w = v
      simp only [List.foldl_cons, List.foldl_nil]
      have g1 := getN hk
      have g2 := getN (show j < ts.length by omega)
      generalize ts.getD k 0 = x at *
      generalize ts.getD j 0 = y at *
      have a1 := a.1
      have b1 := b.1
      have m := mulI_of (i := v) (j := ps.getD x 0 - ps.getD y 0) (.inr (by omega))
      generalize ps.getD x 0 = X at *
      generalize ps.getD y 0 = Y at *
      simp [L__law_spread_4, g1, g2, a1, b1, m]
  have loop := for_inv (i := 3) (body := L__law_spread_3) nI (fun pre e => ∃ c c', e = [some (tN ts), some (lI ps), some (.int (pre.foldl (fun w k => (List.range k).foldl (fun w j => w * (ps.getD (ts.getD k 0) 0 - ps.getD (ts.getD j 0) 0)) w) 1)), c, c']) (List.range ts.length) [] [some (tN ts), some (lI ps), some (.int 1), none, none] ⟨none, none, rfl⟩ ?_
  · obtain ⟨e', h1, c, c', h2⟩ := loop
    rw [List.nil_append] at h2
    subst h2
    refine runF_ok (e := [some (tN ts), some (lI ps), some (.int (spr ps ts)), c, c']) ?_
    have h1' : forM 3 L__law_spread_3 ((List.range ts.length).map nI) [some (tN ts), some (lI ps), some (.int 1), none, none] = .ok .nx [some (tN ts), some (lI ps), some (.int (spr ps ts)), c, c'] := h1
    simp [b__law_spread, rng1_of (n := ts.length) (by omega), h1']
  · rintro pre' k post hp e ⟨c, c', rfl⟩
    have hk : k < ts.length := List.mem_range.mp (by rw [← List.nil_append (List.range _), hp]; simp)
    obtain ⟨d, hd⟩ := inner k hk (pre'.foldl (fun w k => (List.range k).foldl (fun w j => w * (ps.getD (ts.getD k 0) 0 - ps.getD (ts.getD j 0) 0)) w) 1) c'
    refine ⟨_, ?_, some (nI k), d, by rw [List.foldl_append]⟩
    simp only [L__law_spread_3]
    generalize pre'.foldl (fun w k => (List.range k).foldl (fun w j => w * (ps.getD (ts.getD k 0) 0 - ps.getD (ts.getD j 0) 0)) w) 1 = v at *
    simp [-List.getD_eq_getElem?_getD, rng1_of (n := k) (by omega)]
    exact hd
def rest (lot : List Nat) (s : Nat) : List Nat := lot.take s ++ lot.drop (s + 1)
/-- the law's difference of a lot -/
def topS (ps lv : List Int) (lot : List Nat) : Int × Int := (List.range lot.length).foldl (fun (w : Int × Int) k => (w.1 + w.2 * lv.getD (lot.getD (lot.length - 1 - k) 0) 0 * spr ps (rest lot (lot.length - 1 - k)), -w.2)) (0, 1)
def topF (ps lv : List Int) (lot : List Nat) : Int := (topS ps lv lot).1
structure Lv (n : Nat) (lv : List Int) : Prop where
  len : lv.length = n
  low : ∀ p ∈ lv, p.natAbs ≤ 10000000000000
theorem Lv.get {n : Nat} {ps : List Int} (h : Lv n ps) {x : Nat} (hx : x < n) : ixD (lI ps) (nI x) = some (.int (ps.getD x 0)) ∧ (ps.getD x 0).natAbs ≤ 10000000000000 := by
  have hl : x < ps.length := by rw [h.len]; exact hx
  have e : ps.getD x 0 = ps[x] := by rw [List.getD_eq_getElem?_getD, List.getElem?_eq_getElem hl]; rfl
  rw [e]
  exact ⟨(get_map (e := D.int) hl).1, h.low _ (List.getElem_mem hl)⟩
theorem top_ok {n : Nat} {ps lv : List Int} (h : Pl n ps) (hv : Lv n lv) {lot : List Nat} (ht : ∀ x ∈ lot, x < n) (hl : lot.length ≤ 1000) : m__law_top [tN lot, lI ps, lI lv] = .ok (.int (topF ps lv lot)) none := by
  have loop := for_inv (i := 5) (body := L__law_top_5) nI (fun pre e => ∃ (w : Int × Int) (x5 x6 x7 : Option D), w = pre.foldl (fun (w : Int × Int) k => (w.1 + w.2 * lv.getD (lot.getD (lot.length - 1 - k) 0) 0 * spr ps (rest lot (lot.length - 1 - k)), -w.2)) (0, 1) ∧ (w.2 = 1 ∨ w.2 = -1) ∧ e = [some (tN lot), some (lI ps), some (lI lv), some (.int w.1), some (.int w.2), x5, x6, x7])
    (List.range lot.length) [] [some (tN lot), some (lI ps), some (lI lv), some (.int 0), some (.int 1), none, none, none] ⟨(0, 1), none, none, none, rfl, .inl rfl, rfl⟩ ?_
  · obtain ⟨e', h1, w, x5, x6, x7, h2, h3, h4⟩ := loop
    rw [List.nil_append] at h2
    subst h4
    have hw : w = topS ps lv lot := h2
    subst hw
    refine runF_ok (e := [some (tN lot), some (lI ps), some (lI lv), some (.int (topS ps lv lot).1), some (.int (topS ps lv lot).2), x5, x6, x7]) ?_
    simp [b__law_top, rng1_of (n := lot.length) (by omega), h1, topF]
  · rintro pre' k post hp e ⟨w, x5, x6, x7, hw, hs, rfl⟩
    have hk : k < lot.length := List.mem_range.mp (by rw [← List.nil_append (List.range _), hp]; simp)
    have g1 := getN (ts := lot) (k := lot.length - 1 - k) (by omega)
    have g2 := hv.get (getD_lt ht (show lot.length - 1 - k < lot.length by omega))
    have sp := spread_ok h (ts := rest lot (lot.length - 1 - k)) (fun x hx => by
      unfold rest at hx
      rcases List.mem_append.mp hx with q | q
      · exact ht x (List.mem_of_mem_take q)
      · exact ht x (List.mem_of_mem_drop q)) (by unfold rest; simp; omega)
    refine ⟨[some (tN lot), some (lI ps), some (lI lv), some (.int (w.1 + w.2 * lv.getD (lot.getD (lot.length - 1 - k) 0) 0 * spr ps (rest lot (lot.length - 1 - k)))), some (.int (-w.2)), some (nI k), some (nI (lot.length - 1 - k)), some (tN (rest lot (lot.length - 1 - k)))], ?_, _, _, _, _, by rw [List.foldl_append, ← hw], ?_, rfl⟩
    · have e1 : ((lot.length : Int) - 1 - k) = ((lot.length - 1 - k : Nat) : Int) := by omega
      have c1 := cut_to (l := lot.map nI) (n := lot.length - 1 - k) (by simp; omega)
      have c2 : cutD (lot.map nI) (some (((lot.length - 1 - k : Nat) : Int) + 1)) none = _ := cut_from (l := lot.map nI) (n := lot.length - 1 - k + 1) (by simp; omega)
      have ad := addD_tup (l := (lot.map nI).take (lot.length - 1 - k)) (m := (lot.map nI).drop (lot.length - 1 - k + 1)) (by simp; omega)
      have ad' : addD (.tup ((lot.map nI).take (lot.length - 1 - k))) (.tup ((lot.map nI).drop (lot.length - 1 - k + 1))) = some (tN (rest lot (lot.length - 1 - k))) := by
        rw [ad]
        unfold rest
        rw [← List.map_take, ← List.map_drop, ← List.map_append]
      generalize lot.length - 1 - k = s at *
      generalize lot.getD s 0 = x at *
      generalize spr ps (rest lot s) = S at *
      generalize rest lot s = R at *
      have g3 := g2.1
      generalize lv.getD x 0 = V at *
      have m1 := mulI_of (i := w.2) (j := V) (.inr (by omega))
      have m2 := mulI_of (i := w.2 * V) (j := S) (.inl (by rcases hs with q | q <;> rw [q] <;> omega))
      simp only [L__law_top_5]
      simp [-List.map_take, -List.map_drop, e1, g1, g3, m1, m2]
      simp [-List.map_take, -List.map_drop, c1, c2]
      simp only [← List.map_take, ← List.map_drop] at ad' ⊢
      simp [-List.map_take, -List.map_drop, ad', sp, g1, g3, m1, m2]
    · rcases hs with q | q
      · right; show -w.2 = -1; rw [q]
      · left; show -w.2 = 1; rw [q]; rfl
theorem below_ok {n k : Nat} (hn : n ≤ 6) (hk : k ≤ n + 2) {ps lv : List Int} (h : Pl n ps) (hv : Lv n lv) : m__law_below [nI n, nI k, lI ps, lI lv] = .ok (.lst (((lots n k).filter fun l => decide (topF ps lv l < 0)).map tN)) none := by
  refine runF_ok (e := [some (nI n), some (nI k), some (lI ps), some (lI lv), none]) ?_
  have lc := lcM_t (i := 4) (cond := tB1 (op2 ltD (cCall 3 m__law_top (aCons (vVar 4) (aCons (vVar 2) (aCons (vVar 3) (aNil))))) (vC (.int 0)))) (elt := vVar 4) (fi := iSeq (cCall 2 m__law_lots (aCons (vVar 0) (aCons (vVar 1) (aNil))))) (env := [some (nI n), some (nI k), some (lI ps), some (lI lv), none])
    tN (fun l => decide (topF ps lv l < 0)) tN (lots n k) (by simp [-List.map_map, law_lots_ok n k hn hk]) (by have := lots_len (n := n) (k := k) hn (by omega); omega) (fun l hl => by
      have L := (lots_mem n k l).mp hl
      simp [top_ok h hv L.low (by have := L.le; omega)]) (fun l hl _ => by simp)
  simp [b__law_below, lc]
theorem others_ok {n k : Nat} (hn : n ≤ 6) (hk : k ≤ n + 2) (M : List (List Nat)) : m__law_others [nI n, nI k, .lst (M.map tN)] = .ok (.lst (((lots n k).filter fun l => !decide (l ∈ M)).map tN)) none := by
  refine runF_ok (e := [some (nI n), some (nI k), some (.lst (M.map tN)), none]) ?_
  have lc := lcM_t (i := 3) (cond := tB1 (op2 notInD (vVar 3) (vVar 2))) (elt := vVar 3) (fi := iSeq (cCall 2 m__law_lots (aCons (vVar 0) (aCons (vVar 1) (aNil))))) (env := [some (nI n), some (nI k), some (.lst (M.map tN)), none])
    tN (fun l => !decide (l ∈ M)) tN (lots n k) (by simp [-List.map_map, law_lots_ok n k hn hk]) (by have := lots_len (n := n) (k := k) hn (by omega); omega) (fun l hl => by simp [-List.map_map, (notIn_lots l M).1]) (fun l hl _ => by simp)
  simp [-List.map_map, b__law_others, lc]
theorem places_ok (l : List Int) {n : Nat} (hn : n ≤ 8) : ∃ ps l', m__law_places [lI l, nI n] = .ok (lI ps) (some (lI l')) ∧ Pl n ps ∧ ps.Pairwise (· < ·) := by
  have loop := for_inv (i := 4) (body := L__law_places_4) nI (fun pre e => ∃ (l : List Int) (ps : List Int) (a : Int) (x4 : Option D), e = [some (lI l), some (nI n), some (lI ps), some (.int a), x4] ∧ ps.length = pre.length ∧ (∀ p ∈ ps, -2 ≤ p ∧ p < a) ∧ ps.Pairwise (· < ·) ∧ -2 ≤ a ∧ a ≤ 2 + 3 * pre.length) (List.range n) []
    [some (lI (tr l 5)), some (nI n), some (lI []), some (.int (((tk l 5 : Nat) : Int) - 2)), none] ⟨_, [], _, none, rfl, rfl, (fun p hp => by cases hp), List.Pairwise.nil, by omega, by have := tk_lt l (m := 5) (by omega); simp; omega⟩ ?_
  · obtain ⟨e', h1, l', ps, a, x4, h2, h3, h4, h5, h6, h7⟩ := loop
    rw [List.nil_append, List.length_range] at h3 h7
    subst h2
    refine ⟨ps, l', runF_ok (e := [some (lI l'), some (nI n), some (lI ps), some (.int a), x4]) ?_, ⟨h3, fun p hp => ?_⟩, h5⟩
    · have t := take_ok l 5
      have t' : m__law_take [lI l, .int 5] = _ := t
      have h1' : forM 4 L__law_places_4 ((List.range n).map nI) [some (lI (tr l 5)), some (nI n), some (.lst []), some (.int (((tk l 5 : Nat) : Int) - 2)), none] = .ok .nx [some (lI l'), some (nI n), some (lI ps), some (.int a), x4] := h1
      simp [b__law_places, t', rng1_of (n := n) (by omega), h1']
    · have := h4 p hp
      omega
  · rintro pre' j post hp e ⟨l', ps, a, x4, rfl, h3, h4, h5, h6, h7⟩
    have hp2 := congrArg List.length hp
    simp at hp2
    have t : m__law_take [lI l', .int 3] = _ := take_ok l' 3
    have tl := tk_lt l' (m := 3) (by omega)
    refine ⟨[some (lI (tr l' 3)), some (nI n), some (lI (ps ++ [a])), some (.int (a + 1 + ((tk l' 3 : Nat) : Int))), some (nI j)], ?_, _, _, _, _, rfl, by simp [h3], fun p hp => ?_, ?_, by omega, by simp; omega⟩
    · have ap := append_of (l := ps.map D.int) (d := .int a) (by simp; omega)
      simp [L__law_places_4, t, ap]
    · rcases List.mem_append.mp hp with q | q
      · have := h4 p q
        omega
      · have : p = a := by simpa using q
        omega
    · exact List.pairwise_append.mpr ⟨h5, List.pairwise_singleton _ _, fun x hx y hy => by
        have := h4 x hx
        have : y = a := by simpa using hy
        omega⟩
theorem levels_ok (l : List Int) {n : Nat} (hn : n ≤ 8) : ∃ lv l', m__law_levels [lI l, nI n] = .ok (lI lv) (some (lI l')) ∧ Lv n lv := by
  have key := lcM_inv (i := 2) (cond := bTrue) (elt := op2 addD (op2 subD (op2 mulI (cCallIo 2 0 m__law_take (aCons (vC (.int 30)) (aNil))) (vC (.int 7))) (vC (.int 100))) (cCallIo 2 0 m__law_take (aCons (vC (.int 7)) (aNil)))) (fi := iRng rng1 (aCons (vVar 1) (aNil)))
    nI (fun pre acc e => ∃ (l : List Int) (lv : List Int), e = [some (lI l), some (nI n), none] ∧ acc = lv.map D.int ∧ lv.length = pre.length ∧ ∀ p ∈ lv, p.natAbs ≤ 10000000000000) (List.range n) [some (lI l), some (nI n), none] [some (lI l), some (nI n), none] (by simp [rng1_of (n := n) (by omega)]) ⟨l, [], rfl, rfl, rfl, (fun p hp => by cases hp)⟩ (by simp; omega) ?_
  · obtain ⟨out, e', h1, h2⟩ := key
    obtain ⟨l', lv, rfl, rfl, h3, h4⟩ := h2
    refine ⟨lv, l', runF_ok (e := [some (lI l'), some (nI n), none]) ?_, ⟨by rw [h3, List.length_range], h4⟩⟩
    simp [b__law_levels]
    rw [h1]
    simp
  · rintro pre' j post acc' e hp ⟨l', lv, rfl, rfl, h3, h4⟩
    have t1 : m__law_take [lI l', .int 30] = _ := take_ok l' 30
    have t2 : m__law_take [lI (tr l' 30), .int 7] = _ := take_ok (tr l' 30) 7
    have b1 := tk_lt l' (m := 30) (by omega)
    have b2 := tk_lt (tr l' 30) (m := 7) (by omega)
    refine ⟨true, _, rfl, fun _ => ⟨.int (((tk l' 30 : Nat) : Int) * 7 - 100 + ((tk (tr l' 30) 7 : Nat) : Int)), [some (lI (tr (tr l' 30) 7)), some (nI n), some (nI j)], ?_, tr (tr l' 30) 7, lv ++ [((tk l' 30 : Nat) : Int) * 7 - 100 + ((tk (tr l' 30) 7 : Nat) : Int)], rfl, by rw [List.map_append]; rfl, by simp [h3], fun p hp => ?_⟩, fun z => by cases z⟩
    · have m := mulI_of (i := ((tk l' 30 : Nat) : Int)) (j := 7) (.inr (by decide))
      simp [t1, t2, m]
    · rcases List.mem_append.mp hp with q | q
      · exact h4 p q
      · have : p = ((tk l' 30 : Nat) : Int) * 7 - 100 + ((tk (tr l' 30) 7 : Nat) : Int) := by simpa using q
        omega
end KX

set_option Elab.async false
set_option linter.all false
set_option maxRecDepth 100000
set_option maxHeartbeats 4000000
namespace KX
open DL
/-! ### marking up -/
def rowM (A : List (List Nat)) (lot : List Nat) (t : Nat) : List Bool := (pk (sortB nlt (lot ++ [t]))).map fun one => decide (one ∈ A) != decide (one = lot)
def mayF (n : Nat) (A : List (List Nat)) (lot : List Nat) : Bool := (List.range n).all fun t => decide (t ∈ lot) || decide (turns (rowM A lot t) < 2)
theorem sort_len {α : Type} {lt : α → α → Bool} (l : List α) : (sortB lt l).length = l.length := (sortB_perm l).length_eq
theorem may_ok {n : Nat} (hn : n ≤ 100) (A : List (List Nat)) (lot : List Nat) (hl : lot.length ≤ 100) : m__law_may [nI n, .lst (A.map tN), tN lot] = .ok (.bl (mayF n A lot)) none := by
  have loop := for_ret (i := 3) (body := L__law_may_3) nI (fun e => ∃ x3 x4 x6, e = [some (nI n), some (.lst (A.map tN)), some (tN lot), x3, x4, none, x6]) (fun t => !(decide (t ∈ lot) || decide (turns (rowM A lot t) < 2))) (fun _ => .bl false) (List.range n) [some (nI n), some (.lst (A.map tN)), some (tN lot), none, none, none, none] ⟨_, _, _, rfl⟩ ?_
  · rcases loop with ⟨y, e', h1, h2, h3⟩ | ⟨h1, e', h2, h3⟩
    · have hf : mayF n A lot = false := by
        have := List.find?_some h1
        unfold mayF
        rw [List.all_eq_false]
        exact ⟨y, List.mem_of_find?_eq_some h1, by simpa using this⟩
      rw [hf]
      refine runF_ok (e := e') ?_
      simp [-List.map_map, b__law_may, rng1_of (n := n) (by omega), h2]
    · have hf : mayF n A lot = true := by
        unfold mayF
        rw [List.all_eq_true]
        intro t ht
        have := List.find?_eq_none.mp h1 t ht
        cases z : (decide (t ∈ lot) || decide (turns (rowM A lot t) < 2)) with
        | true => rfl
        | false => rw [z] at this; exact absurd rfl this
      rw [hf]
      refine runF_ok (e := e') ?_
      simp [-List.map_map, b__law_may, rng1_of (n := n) (by omega), h2]
  · rintro t ht e ⟨x3, x4, x6, rfl⟩
    have s1 := (sort_nats (lot ++ [t])).1
    have c1 : catD (.lst (lot.map nI)) (.lst [nI t]) = some (.lst ((lot ++ [t]).map nI)) := by
      rw [catD_lst (by simp; omega), List.map_append]
      rfl
    have pl := (pk_ok (y := sortB nlt (lot ++ [t])) (by rw [sort_len]; simp; omega)).2
    have hp : (pk (sortB nlt (lot ++ [t]))).length ≤ 1000 := by rw [pk_len, sort_len]; simp; omega
    have lc : ∀ env : En, env = [some (nI n), some (.lst (A.map tN)), some (tN lot), some (nI t), some (tN (sortB nlt (lot ++ [t]))), none, x6] → lcM 5 (iSeq (cCall 1 m__law_packet (aCons (vVar 4) (aNil)))) bTrue (op2 neD (op2 inD (vVar 5) (vVar 1)) (op2 eqD (vVar 5) (vVar 2))) env = .ok (.lst ((rowM A lot t).map .bl)) env := by
      intro env he
      subst he
      have := lcM_map (i := 5) (fi := iSeq (cCall 1 m__law_packet (aCons (vVar 4) (aNil)))) (elt := op2 neD (op2 inD (vVar 5) (vVar 1)) (op2 eqD (vVar 5) (vVar 2))) (env := [some (nI n), some (.lst (A.map tN)), some (tN lot), some (nI t), some (tN (sortB nlt (lot ++ [t]))), none, x6])
        tN (fun one => .bl (decide (one ∈ A) != decide (one = lot))) (pk (sortB nlt (lot ++ [t]))) (by simp [-List.map_map, pl]) (by omega) (fun one _ => by
          simp [-List.map_map, (in_lots one A).1, (eqD_tN one lot).1, ne_bl]
          cases decide (one ∈ A) <;> cases decide (one = lot) <;> rfl)
      rw [this]
      unfold rowM
      rw [List.map_map]
      rfl
    have tu := law_turns_ok D.bl ne_bl (rowM A lot t) (by unfold rowM; rw [List.length_map]; exact hp)
    have nn := (notIn_nats t lot).2
    refine ⟨fun hp => ?_, fun hp => ?_⟩
    · simp only [Bool.not_eq_true', Bool.or_eq_false_iff, decide_eq_false_iff_not] at hp
      obtain ⟨p1, p2⟩ := hp
      refine ⟨[some (nI n), some (.lst (A.map tN)), some (tN lot), some (nI t), some (tN (sortB nlt (lot ++ [t]))), none, some (.lst ((rowM A lot t).map .bl))], ?_, _, _, _, rfl⟩
      have q : ((1 : Int) < (turns (rowM A lot t) : Int)) := by omega
      simp [-List.map_map, -List.map_append, L__law_may_3, nn, p1, c1, s1, lc _ rfl, tu, q]
    · by_cases p1 : t ∈ lot
      · refine ⟨[some (nI n), some (.lst (A.map tN)), some (tN lot), some (nI t), x4, none, x6], ?_, _, _, _, rfl⟩
        simp [-List.map_map, L__law_may_3, nn, p1]
      · have p2 : turns (rowM A lot t) < 2 := by simpa [p1] using hp
        refine ⟨[some (nI n), some (.lst (A.map tN)), some (tN lot), some (nI t), some (tN (sortB nlt (lot ++ [t]))), none, some (.lst ((rowM A lot t).map .bl))], ?_, _, _, _, rfl⟩
        have q : ¬ ((1 : Int) < (turns (rowM A lot t) : Int)) := by omega
        simp [-List.map_map, -List.map_append, L__law_may_3, nn, p1, c1, s1, lc _ rfl, tu, q]
theorem min_ite (a b : Nat) : (if (b : Int) < (a : Int) then (b : Int) else (a : Int)) = ((min a b : Nat) : Int) := by split <;> omega
theorem fmod_nat (a b : Nat) : ((a : Int)).fmod (b : Int) = ((a % b : Nat) : Int) := by
  rw [Int.fmod_eq_emod_of_nonneg _ (by omega)]
  rfl
section
variable {n k : Nat}
/-- lots without one twice -/
structure Ds (n k : Nat) (Q : List (List Nat) → Prop) (A : List (List Nat)) : Prop where
  nd : A.Nodup
  sub : ∀ a ∈ A, a ∈ lots n k
  q : Q A
theorem Ds.len {Q : List (List Nat) → Prop} {A : List (List Nat)} (h : Ds n k Q A) (hn : n ≤ 6) (hk : k ≤ 8) : A.length ≤ 20 := Nat.le_trans (sub_len h.nd h.sub) (lots_len hn hk)
variable {Q : List (List Nat) → Prop}
theorem climb_in (hn : n ≤ 6) (hk : k ≤ n + 1) (hQ : ∀ A lot, Q A → lot ∈ lots n k → lot ∉ A → mayF n A lot = true → Q (A ++ [lot])) (l : List Int) (x5 : Option D) (s : Nat) {A : List (List Nat)} (hA : Ds n k Q A) (c8 c9 : Option D) :
    ∃ A' d x8 x9, forM 8 L__law_climb_8 ((List.range (lots n k).length).map nI) [some (lI l), some (nI n), some (nI k), some (.lst ((lots n k).map tN)), some (.lst (A.map tN)), x5, some (nI s), some (.bl false), c8, c9] =
      .ok .nx [some (lI l), some (nI n), some (nI k), some (.lst ((lots n k).map tN)), some (.lst (A'.map tN)), x5, some (nI s), some (.bl d), x8, x9] ∧ Ds n k Q A' := by
  have loop := for_inv (i := 8) (body := L__law_climb_8) nI (fun pre e => ∃ A' d x8 x9, e = [some (lI l), some (nI n), some (nI k), some (.lst ((lots n k).map tN)), some (.lst (A'.map tN)), x5, some (nI s), some (.bl d), x8, x9] ∧ Ds n k Q A') (List.range (lots n k).length) []
    [some (lI l), some (nI n), some (nI k), some (.lst ((lots n k).map tN)), some (.lst (A.map tN)), x5, some (nI s), some (.bl false), c8, c9] ⟨A, false, c8, c9, rfl, hA⟩ ?_
  · obtain ⟨e', h1, A', d, x8, x9, h2, h3⟩ := loop
    subst h2
    exact ⟨A', d, x8, x9, h1, h3⟩
  · rintro pre' j post hp e ⟨A', d, x8, x9, rfl, hA'⟩
    have hj : j < (lots n k).length := List.mem_range.mp (by rw [← List.nil_append (List.range _), hp]; simp)
    have hm : (s + j) % (lots n k).length < (lots n k).length := Nat.mod_lt _ (by omega)
    have g := (get_map (e := tN) hm).1
    have hlot : (lots n k)[(s + j) % (lots n k).length] ∈ lots n k := List.getElem_mem hm
    generalize (lots n k)[(s + j) % (lots n k).length] = lot at g hlot
    have md : modD (.int ((s : Int) + (j : Int))) (nI (lots n k).length) = some (nI ((s + j) % (lots n k).length)) := by
      rw [modD_of (by omega)]
      exact congrArg (fun z => some (D.int z)) (fmod_nat (s + j) (lots n k).length)
    have ni := (notIn_lots lot A').1
    have Llot := (lots_mem n k lot).mp hlot
    have my := may_ok (n := n) (by omega) A' lot (by have := Llot.le; omega)
    by_cases q : d = false ∧ lot ∉ A' ∧ mayF n A' lot = true
    · obtain ⟨q1, q2, q3⟩ := q
      subst q1
      refine ⟨[some (lI l), some (nI n), some (nI k), some (.lst ((lots n k).map tN)), some (.lst ((A' ++ [lot]).map tN)), x5, some (nI s), some (.bl true), some (nI j), some (tN lot)], ?_, A' ++ [lot], true, _, _, rfl, ⟨?_, ?_, hQ A' lot hA'.q hlot q2 q3⟩⟩
      · have ap := append_of (l := A'.map tN) (d := tN lot) (by have := hA'.len hn (by omega); simp; omega)
        rw [q3] at my
        rw [List.map_append]
        simp [-List.map_map, L__law_climb_8, md, g, ni, q2, my, flatF, flatD, ap]
      · rw [List.nodup_append]
        exact ⟨hA'.nd, List.nodup_cons.mpr ⟨List.not_mem_nil, List.nodup_nil⟩, fun a ha b hb => by
          have : b = lot := by simpa using hb
          subst this
          intro e
          subst e
          exact q2 ha⟩
      · intro a ha
        rcases List.mem_append.mp ha with z | z
        · exact hA'.sub a z
        · have : a = lot := by simpa using z
          rw [this]
          exact hlot
    · refine ⟨[some (lI l), some (nI n), some (nI k), some (.lst ((lots n k).map tN)), some (.lst (A'.map tN)), x5, some (nI s), some (.bl d), some (nI j), some (tN lot)], ?_, A', d, _, _, rfl, hA'⟩
      cases d with
      | true => simp [-List.map_map, L__law_climb_8, md, g]
      | false =>
        by_cases q2 : lot ∈ A'
        · simp [-List.map_map, L__law_climb_8, md, g, ni, q2]
        · have q3 : mayF n A' lot = false := by
            cases r : mayF n A' lot with
            | false => rfl
            | true => exact absurd ⟨rfl, q2, r⟩ q
          rw [q3] at my
          simp [-List.map_map, L__law_climb_8, md, g, ni, q2, my, flatF, flatD]
theorem climb_ok (hn : n ≤ 6) (hk : k ≤ n + 1) (hQ0 : Q []) (hQ : ∀ A lot, Q A → lot ∈ lots n k → lot ∉ A → mayF n A lot = true → Q (A ++ [lot])) (l : List Int) : ∃ A l', m__law_climb [lI l, nI n, nI k] = .ok (.lst ((sortB llt A).map tN)) (some (lI l')) ∧ Ds n k Q A := by
  have l20 := lots_len (n := n) (k := k) hn (by omega)
  have loop := for_inv (i := 5) (body := L__law_climb_5) nI (fun pre e => ∃ l' A x5 x6 x7 x8 x9, e = [some (lI l'), some (nI n), some (nI k), some (.lst ((lots n k).map tN)), some (.lst (A.map tN)), x5, x6, x7, x8, x9] ∧ Ds n k Q A) (List.range (tk l (min 13 ((lots n k).length + 1)))) []
    [some (lI (tr l (min 13 ((lots n k).length + 1)))), some (nI n), some (nI k), some (.lst ((lots n k).map tN)), some (.lst []), none, none, none, none, none] ⟨_, [], none, none, none, none, none, rfl, List.nodup_nil, (fun a h => by cases h), hQ0⟩ ?_
  · obtain ⟨e', h1, l', A, x5, x6, x7, x8, x9, h2, h3⟩ := loop
    subst h2
    refine ⟨A, l', runF_ok (e := [some (lI l'), some (nI n), some (nI k), some (.lst ((lots n k).map tN)), some (.lst (A.map tN)), x5, x6, x7, x8, x9]) ?_, h3⟩
    have mn : min2D [.int 13, .int (((lots n k).length : Int) + 1)] = some (nI (min 13 ((lots n k).length + 1))) := by
      show some (D.int (if ((lots n k).length : Int) + 1 < 13 then ((lots n k).length : Int) + 1 else 13)) = _
      rw [show (if ((lots n k).length : Int) + 1 < 13 then ((lots n k).length : Int) + 1 else 13) = ((min 13 ((lots n k).length + 1) : Nat) : Int) by split <;> omega]
    have t := take_ok l (min 13 ((lots n k).length + 1))
    have tl := tk_lt l (m := min 13 ((lots n k).length + 1)) (by omega)
    have so := (sort_lots (l := A) (okl_lots h3.sub h3.nd)).1
    simp [-List.map_map, b__law_climb, law_lots_ok n k hn (by omega), mn, t, rng1_of (n := tk l (min 13 ((lots n k).length + 1))) (by omega), h1, so]
  · rintro pre' j post hp e ⟨l', A, x5, x6, x7, x8, x9, rfl, hA⟩
    have mn : min2D [.int 29, nI (lots n k).length] = some (nI (min 29 (lots n k).length)) := by
      show some (D.int (if ((lots n k).length : Int) < 29 then ((lots n k).length : Int) else 29)) = _
      rw [show (if ((lots n k).length : Int) < 29 then ((lots n k).length : Int) else 29) = ((min 29 (lots n k).length : Nat) : Int) by split <;> omega]
    have t := take_ok l' (min 29 (lots n k).length)
    obtain ⟨A', d, y8, y9, h1, h2⟩ := climb_in hn hk hQ (tr l' (min 29 (lots n k).length)) (some (nI j)) (tk l' (min 29 (lots n k).length)) hA x8 x9
    refine ⟨[some (lI (tr l' (min 29 (lots n k).length))), some (nI n), some (nI k), some (.lst ((lots n k).map tN)), some (.lst (A'.map tN)), some (nI j), some (nI (tk l' (min 29 (lots n k).length))), some (.bl d), y8, y9], ?_, _, A', _, _, _, _, _, rfl, h2⟩
    simp [-List.map_map, L__law_climb_5, mn, t, rng1_of (n := (lots n k).length) (by omega), h1]
/-- a drawn family: marked up, the others of one marked up, or by heights -/
def Fam (n k : Nat) (Q : List (List Nat) → Prop) (F : List (List Nat)) : Prop :=
  (∃ A, Ds n k Q A ∧ (F = sortB llt A ∨ F = (lots n k).filter fun l => !decide (l ∈ sortB llt A))) ∨
  (1 ≤ k ∧ ∃ ps lv, Pl n ps ∧ ps.Pairwise (· < ·) ∧ Lv n lv ∧ F = (lots n k).filter fun l => decide (topF ps lv l < 0))
theorem Fam.mk {F : List (List Nat)} (h : Fam n k Q F) : Mk n k F := by
  rcases h with ⟨A, hA, rfl | rfl⟩ | ⟨_, ps, lv, _, _, _, rfl⟩
  · exact mk_sort hA.nd hA.sub
  · exact mk_filter _
  · exact mk_filter _
theorem family_ok (hn : n ≤ 6) (hk : k ≤ n + 1) (hQ0 : Q []) (hQ : ∀ A lot, Q A → lot ∈ lots n k → lot ∉ A → mayF n A lot = true → Q (A ++ [lot])) (l : List Int) : ∃ F l', m__law_family [lI l, nI n, nI k] = .ok (.lst (F.map tN)) (some (lI l')) ∧ Fam n k Q F := by
  have t : m__law_take [lI l, .int 6] = _ := take_ok l 6
  obtain ⟨A, l1, hc, hA⟩ := climb_ok hn hk hQ0 hQ (tr l 6)
  obtain ⟨ps, l2, hp, hP, hR⟩ := places_ok (tr l 6) (n := n) (by omega)
  obtain ⟨lv, l3, hl, hL⟩ := levels_ok l2 (n := n) (by omega)
  by_cases q : 4 ≤ tk l 6 ∧ 1 ≤ k
  · have q1 : (4 : Int) ≤ ((tk l 6 : Nat) : Int) := by omega
    have q2 : (1 : Int) ≤ (k : Int) := by omega
    refine ⟨(lots n k).filter fun l => decide (topF ps lv l < 0), l3, runF_ok (e := [some (lI l3), some (nI n), some (nI k), some (nI (tk l 6)), some (lI ps), none]) ?_, .inr ⟨q.2, ps, lv, hP, hR, hL, rfl⟩⟩
    simp [-List.map_map, b__law_family, t, q1, q2, hp, hl, below_ok hn (show k ≤ n + 2 by omega) hP hL]
  · have q1 : ¬ ((4 : Int) ≤ ((tk l 6 : Nat) : Int) ∧ (1 : Int) ≤ (k : Int)) := by omega
    by_cases w : tk l 6 = 3
    · have w' : (((tk l 6 : Nat) : Int) = 3) := by omega
      refine ⟨(lots n k).filter fun l => !decide (l ∈ sortB llt A), l1, runF_ok (e := [some (lI l1), some (nI n), some (nI k), some (nI (tk l 6)), none, some (.lst ((sortB llt A).map tN))]) ?_, .inl ⟨A, hA, .inr rfl⟩⟩
      have w4 : ¬ ((4 : Int) ≤ ((tk l 6 : Nat) : Int)) := by omega
      have ot := others_ok hn (show k ≤ n + 2 by omega) (sortB llt A)
      have fl : flatF true (.lst (((lots n k).filter fun l => !decide (l ∈ sortB llt A)).map tN)) = true := by
        show (true && flatL (((lots n k).filter fun l => !decide (l ∈ sortB llt A)).map tN)) = true
        generalize ((lots n k).filter fun l => !decide (l ∈ sortB llt A)) = Z
        rw [Bool.true_and]
        induction Z with
        | nil => rfl
        | cons a Z ih =>
          rw [List.map_cons]
          unfold flatL
          rw [ih, Bool.and_true]
          show flatL (a.map nI) = true
          induction a with
          | nil => rfl
          | cons x a iha => rw [List.map_cons]; unfold flatL; rw [iha]; rfl
      simp [-List.map_map, b__law_family, t, w4, hc, w', ot, fl]
    · have w' : ¬ (((tk l 6 : Nat) : Int) = 3) := by omega
      refine ⟨sortB llt A, l1, runF_ok (e := [some (lI l1), some (nI n), some (nI k), some (nI (tk l 6)), none, some (.lst ((sortB llt A).map tN))]) ?_, .inl ⟨A, hA, .inl rfl⟩⟩
      by_cases w4 : (4 : Int) ≤ ((tk l 6 : Nat) : Int)
      · have w5 : ¬ ((1 : Int) ≤ (k : Int)) := fun z => q1 ⟨w4, z⟩
        simp [-List.map_map, b__law_family, t, w4, w5, hc, w']
      · simp [-List.map_map, b__law_family, t, w4, hc, w']
end
end KX

set_option Elab.async false
set_option linter.all false
set_option maxRecDepth 100000
set_option maxHeartbeats 4000000
namespace KX
open DL
section
variable {n k : Nat}
theorem remove_map (x : List Nat) : ∀ (A : List (List Nat)), x ∈ A → ∃ j, (A.map tN).findIdx? (fun z => eqF 12 z (tN x)) = some j ∧ (A.map tN).eraseIdx j = (A.erase x).map tN
  | [], h => by cases h
  | a :: A, h => by
    rw [List.map_cons, List.findIdx?_cons, List.erase_cons]
    by_cases e : a = x
    · subst e
      refine ⟨0, by rw [(eqF_tN 11 a a).mpr rfl]; rfl, ?_⟩
      simp
    · have q : eqF 12 (tN a) (tN x) = false := by
        cases r : eqF 12 (tN a) (tN x) with
        | false => rfl
        | true => exact absurd ((eqF_tN 11 a x).mp r) e
      obtain ⟨j, h1, h2⟩ := remove_map x A (by rcases List.mem_cons.mp h with z | z; exact absurd z.symm e; exact z)
      refine ⟨j + 1, by rw [q, h1]; rfl, ?_⟩
      have b : (a == x) = false := beq_eq_false_iff_ne.mpr e
      rw [b]
      show tN a :: (A.map tN).eraseIdx j = _
      rw [h2]
      rfl
theorem mRemove_ok {A : List (List Nat)} {x : List Nat} (h : x ∈ A) : mRemove (A.map tN) [tN x] = some (.non, (A.erase x).map tN) := by
  obtain ⟨j, h1, h2⟩ := remove_map x A h
  show (if (okF 12 (tN x) && (A.map tN).all (okF 12)) = true then ((A.map tN).findIdx? fun z => eqF 12 z (tN x)).map fun j => (D.non, (A.map tN).eraseIdx j) else none) = _
  rw [if_pos (by rw [okF_tN, all_map_true (okF_tN 11) A]; rfl), h1]
  show some (D.non, (A.map tN).eraseIdx j) = _
  rw [h2]
theorem marks_ok (hn : n ≤ 6) (hk : k ≤ n + 1) (l : List Int) : ∃ M l', m__law_marks [lI l, nI n, nI k] = .ok (.lst (M.map tN)) (some (lI l')) ∧ Mk n k M := by
  have l20 := lots_len (n := n) (k := k) hn (by omega)
  have t : m__law_take [lI l, .int 3] = _ := take_ok l 3
  by_cases q : tk l 3 = 2
  · have key := lcM_inv (i := 3) (cond := tB1 (op2 eqD (cCallIo 2 0 m__law_take (aCons (vC (.int 2)) (aNil))) (vC (.int 1)))) (elt := vVar 3) (fi := iSeq (cCall 2 m__law_lots (aCons (vVar 1) (aCons (vVar 2) (aNil)))))
      tN (fun pre acc e => ∃ (l : List Int) (S : List (List Nat)), e = [some (lI l), some (nI n), some (nI k), none, none, none, none] ∧ acc = S.map tN ∧ S.Sublist pre) (lots n k) [some (lI (tr l 3)), some (nI n), some (nI k), none, none, none, none] [some (lI (tr l 3)), some (nI n), some (nI k), none, none, none, none] (by simp [-List.map_map, law_lots_ok n k hn (by omega)]) ⟨_, [], rfl, rfl, List.Sublist.refl _⟩ (by omega) ?_
    · obtain ⟨out, e', h1, l', S, h2, h3, h4⟩ := key
      subst h2 h3
      refine ⟨S, l', runF_ok (e := [some (lI l'), some (nI n), some (nI k), none, none, none, none]) ?_, ⟨(lots_rsg n k).sublist h4, fun x hx => h4.subset hx⟩⟩
      have q' : ((tk l 3 : Nat) : Int) = 2 := by omega
      simp [-List.map_map, b__law_marks, t, q']
      rw [h1]
      simp
    · rintro pre' y post acc' e hp ⟨l', S, rfl, rfl, hS⟩
      have t2 : m__law_take [lI l', .int 2] = _ := take_ok l' 2
      refine ⟨decide (((tk l' 2 : Nat) : Int) = 1), [some (lI (tr l' 2)), some (nI n), some (nI k), some (tN y), none, none, none], ?_, fun _ => ⟨tN y, [some (lI (tr l' 2)), some (nI n), some (nI k), some (tN y), none, none, none], by simp, tr l' 2, S ++ [y], rfl, by rw [List.map_append]; rfl, hS.append (List.Sublist.refl _)⟩, fun _ => ⟨tr l' 2, S, rfl, rfl, hS.trans (List.sublist_append_left _ _)⟩⟩
      simp [-List.map_map, t2]
      rfl
  · obtain ⟨F, l1, hF, hFam⟩ := family_ok (Q := fun _ => True) hn hk trivial (fun _ _ _ _ _ _ => trivial) (tr l 3)
    have t3 : m__law_take [lI l1, .int 3] = _ := take_ok l1 3
    have b3 := tk_lt l1 (m := 3) (by omega)
    have loop := for_inv (i := 6) (body := L__law_marks_6) nI (fun pre e => ∃ l' A x3 x6, e = [some (lI l'), some (nI n), some (nI k), x3, some (.lst (A.map tN)), some (.lst ((lots n k).map tN)), x6] ∧ A.Nodup ∧ ∀ a ∈ A, a ∈ lots n k) (List.range (tk l1 3)) []
      [some (lI (tr l1 3)), some (nI n), some (nI k), none, some (.lst (F.map tN)), some (.lst ((lots n k).map tN)), none] ⟨_, F, none, none, rfl, hFam.mk.nd, hFam.mk.sub⟩ ?_
    · obtain ⟨e', h1, l', A, x3, x6, h2, h3, h4⟩ := loop
      subst h2
      refine ⟨sortB llt A, l', runF_ok (e := [some (lI l'), some (nI n), some (nI k), x3, some (.lst (A.map tN)), some (.lst ((lots n k).map tN)), x6]) ?_, mk_sort h3 h4⟩
      have q' : ¬ (((tk l 3 : Nat) : Int) = 2) := by omega
      have so := (sort_lots (l := A) (okl_lots h4 h3)).1
      simp [-List.map_map, b__law_marks, t, q', hF, law_lots_ok n k hn (by omega), t3, rng1_of (n := tk l1 3) (by omega), h1, so]
    · rintro pre' j post hp e ⟨l', A, x3, x6, rfl, hA1, hA2⟩
      by_cases z : (lots n k).length = 0
      · refine ⟨[some (lI l'), some (nI n), some (nI k), x3, some (.lst (A.map tN)), some (.lst ((lots n k).map tN)), some (nI j)], ?_, _, A, _, _, rfl, hA1, hA2⟩
        simp [-List.map_map, L__law_marks_6, z]
      · have hz : (0 : Int) < ((lots n k).length : Int) := by omega
        have mn : min2D [.int 29, nI (lots n k).length] = some (nI (min 29 (lots n k).length)) := by
          show some (D.int (if ((lots n k).length : Int) < 29 then ((lots n k).length : Int) else 29)) = _
          rw [show (if ((lots n k).length : Int) < 29 then ((lots n k).length : Int) else 29) = ((min 29 (lots n k).length : Nat) : Int) by split <;> omega]
        have t := take_ok l' (min 29 (lots n k).length)
        have tl := tk_lt l' (m := min 29 (lots n k).length) (by omega)
        have hi : tk l' (min 29 (lots n k).length) < (lots n k).length := by omega
        have g := (get_map (e := tN) hi).1
        have hlot : (lots n k)[tk l' (min 29 (lots n k).length)] ∈ lots n k := List.getElem_mem hi
        generalize (lots n k)[tk l' (min 29 (lots n k).length)] = lot at g hlot
        have il := (in_lots lot A).1
        have lA : A.length ≤ 20 := Nat.le_trans (sub_len hA1 hA2) l20
        by_cases q2 : lot ∈ A
        · refine ⟨[some (lI (tr l' (min 29 (lots n k).length))), some (nI n), some (nI k), some (tN lot), some (.lst ((A.erase lot).map tN)), some (.lst ((lots n k).map tN)), some (nI j)], ?_, _, _, _, _, rfl, hA1.erase _, fun a ha => hA2 a (List.mem_of_mem_erase ha)⟩
          simp [-List.map_map, L__law_marks_6, z, mn, t, g, il, q2, mRemove_ok q2, hz]
        · refine ⟨[some (lI (tr l' (min 29 (lots n k).length))), some (nI n), some (nI k), some (tN lot), some (.lst ((A ++ [lot]).map tN)), some (.lst ((lots n k).map tN)), some (nI j)], ?_, _, A ++ [lot], _, _, rfl, ?_, ?_⟩
          · have ap := append_of (l := A.map tN) (d := tN lot) (by simp; omega)
            rw [List.map_append]
            simp [-List.map_map, L__law_marks_6, z, mn, t, g, il, q2, ap, hz]
          · rw [List.nodup_append]
            exact ⟨hA1, List.nodup_cons.mpr ⟨List.not_mem_nil, List.nodup_nil⟩, fun a ha b hb => by
              have : b = lot := by simpa using hb
              subst this
              intro e
              subst e
              exact q2 ha⟩
          · intro a ha
            rcases List.mem_append.mp ha with w | w
            · exact hA2 a w
            · have : a = lot := by simpa using w
              rw [this]
              exact hlot
end
/-! ### shapes -/
theorem aC_ap {ds : List D} {env : En} : aC ds env = .ok ds env := id rfl
abbrev pD (p : Nat × Nat) : D := .tup [nI p.1, nI p.2]
def shapes : List (Nat × Nat) := [(3, 2), (4, 3), (5, 3), (4, 2), (5, 4), (4, 3), (5, 3), (3, 3), (6, 4), (5, 2), (4, 1), (6, 5), (2, 2), (4, 4), (5, 3), (6, 3)]
def edges : List (Nat × Nat) := [(0, 0), (0, 1), (1, 0), (1, 1), (1, 2), (2, 1), (2, 3), (3, 0), (3, 4), (4, 5), (2, 0), (3, 1)]
theorem mkL_8 {a b c d e f g h : D} : mkL [a, b, c, d, e, f, g, h] = some (.lst [a, b, c, d, e, f, g, h]) := id rfl
theorem mkL_12 {a b c d e f g h i j k l : D} : mkL [a, b, c, d, e, f, g, h, i, j, k, l] = some (.lst [a, b, c, d, e, f, g, h, i, j, k, l]) := id rfl
theorem cat_88 {a b c d e f g h a' b' c' d' e' f' g' h' : D} : catD (.lst [a, b, c, d, e, f, g, h]) (.lst [a', b', c', d', e', f', g', h']) = some (.lst [a, b, c, d, e, f, g, h, a', b', c', d', e', f', g', h']) := id rfl
theorem shape_ok2 (l : List Int) : ∃ n k l', m__law_shape [lI l] = .ok (.tup [nI n, nI k]) (some (lI l')) ∧ n ≤ 6 ∧ k ≤ n + 1 := by
  have t : m__law_take [lI l, .int 16] = _ := take_ok l 16
  have tl := tk_lt l (m := 16) (by omega)
  have g := (get_map (e := pD) (l := shapes) (i := tk l 16) tl).1
  have hm : shapes[tk l 16]'tl ∈ shapes := List.getElem_mem _
  have hb : ∀ p ∈ shapes, p.1 ≤ 6 ∧ p.2 ≤ p.1 + 1 := by decide
  have hb := hb _ hm
  generalize shapes[tk l 16]'tl = p at g hb
  refine ⟨p.1, p.2, tr l 16, runF_ok (e := [some (lI (tr l 16)), some (.lst (shapes.map pD))]) ?_, hb⟩
  have g' : ixD (.lst [.tup [.int 3, .int 2], .tup [.int 4, .int 3], .tup [.int 5, .int 3], .tup [.int 4, .int 2], .tup [.int 5, .int 4], .tup [.int 4, .int 3], .tup [.int 5, .int 3], .tup [.int 3, .int 3], .tup [.int 6, .int 4], .tup [.int 5, .int 2], .tup [.int 4, .int 1], .tup [.int 6, .int 5], .tup [.int 2, .int 2], .tup [.int 4, .int 4], .tup [.int 5, .int 3], .tup [.int 6, .int 3]]) (nI (tk l 16)) = some (pD p) := g
  simp [b__law_shape, aC_ap, mkL_8, cat_88, t, g']
  rfl
theorem edge_ok (l : List Int) : ∃ n k l', m__law_edge [lI l] = .ok (.tup [nI n, nI k]) (some (lI l')) ∧ n ≤ 6 ∧ k ≤ n + 1 := by
  have t : m__law_take [lI l, .int 12] = _ := take_ok l 12
  have tl := tk_lt l (m := 12) (by omega)
  have g := (get_map (e := pD) (l := edges) (i := tk l 12) tl).1
  have hm : edges[tk l 12]'tl ∈ edges := List.getElem_mem _
  have hb : ∀ p ∈ edges, p.1 ≤ 6 ∧ p.2 ≤ p.1 + 1 := by decide
  have hb := hb _ hm
  generalize edges[tk l 12]'tl = p at g hb
  refine ⟨p.1, p.2, tr l 12, runF_ok (e := [some (lI (tr l 12)), some (.lst (edges.map pD))]) ?_, hb⟩
  have g' : ixD (.lst [.tup [.int 0, .int 0], .tup [.int 0, .int 1], .tup [.int 1, .int 0], .tup [.int 1, .int 1], .tup [.int 1, .int 2], .tup [.int 2, .int 1], .tup [.int 2, .int 3], .tup [.int 3, .int 0], .tup [.int 3, .int 4], .tup [.int 4, .int 5], .tup [.int 2, .int 0], .tup [.int 3, .int 1]]) (nI (tk l 12)) = some (pD p) := g
  simp [b__law_edge, aC_ap, mkL_12, t, g']
  rfl
/-! ### the law -/
theorem lstRg_ok {m : Nat} (h : m < 100000) : lstRg [nI m] = some (.lst ((List.range m).map nI)) := by
  show (if (decide (0 ≤ (m : Int)) && decide ((m : Int) < 100000)) = true then some (D.lst ((List.range' 0 (m : Int).toNat).map fun (i : Nat) => D.int (0 + i))) else none) = _
  rw [if_pos (by rw [decide_eq_true (show 0 ≤ (m : Int) by omega), decide_eq_true (show (m : Int) < 100000 by omega)]; rfl), Int.toNat_natCast, List.range_eq_range']
  congr 2
  apply List.map_congr_left
  intro j _
  show D.int (0 + (j : Int)) = D.int j
  congr 1
  omega
theorem forM_cons {i : Nat} {body : DL.M Fl} {x : D} {xs : List D} {env : En} : DL.forM i body (x :: xs) env = (body (env.set i (some x))).bind fun fl env' => match fl with
  | .nx => DL.forM i body xs env'
  | .ct => DL.forM i body xs env'
  | .bk => .ok .nx env'
  | .rt d => .ok (.rt d) env' := id rfl
theorem forM_nil {i : Nat} {body : DL.M Fl} {env : En} : DL.forM i body [] env = .ok .nx env := id rfl
theorem ix_0 {a b : D} : ixD (.tup [a, b]) (.int 0) = some a := id rfl
theorem ix_1 {a b : D} : ixD (.tup [a, b]) (.int 1) = some b := id rfl
theorem isBool {b : Bool} : isa1 .bool (.bl b) = some (.bl true) := id rfl
end KX

set_option Elab.async false
set_option linter.all false
set_option maxRecDepth 100000
set_option maxHeartbeats 4000000
namespace KX
open DL
/-! ### marks inside a set of things, renumbered -/
def emb (C y : List Nat) : List Nat := y.map fun i => C.getD i 0
def idx (C : List Nat) (x : Nat) : Nat := C.idxOf x
def inC (C l : List Nat) : Bool := l.all fun x => C.contains x
def insM (k : Nat) (M : List (List Nat)) (C : List Nat) : List (List Nat) := (lots C.length k).filter fun y => decide (emb C y ∈ M)
def insB (n k : Nat) (C : List Nat) : Bool := (((lots n k).filter (inC C)).map (List.map (idx C)) == lots C.length k) && ((lots n k).all fun l => !inC C l || (emb C (l.map (idx C)) == l)) && (lots C.length k).all fun y => (lots n k).contains (emb C y)
theorem ins_chk : ((List.range 7).all fun n => (List.range (n + 1)).all fun m => (lots n m).all fun C => (List.range 8).all fun k => insB n k C) = true := by kernel_rfl
theorem pk_sub_chk : ((List.range 7).all fun n => (List.range 7).all fun k => (lots n (k + 1)).all fun t => (pk t).all fun l => (lots n k).contains l) = true := by kernel_rfl
theorem out_chk : ((List.range 7).all fun n => (List.range 7).all fun k => !Nat.ble (k + 2) n || (lots n (k + 1)).all fun t => (List.range n).any fun x => !t.contains x) = true := by kernel_rfl
theorem turns_not_chk : ((List.range 7).all fun m => (allB m).all fun bs => Nat.beq (turns (bs.map not)) (turns bs)) = true := by kernel_rfl
section
variable {n k m : Nat} {M : List (List Nat)} {C : List Nat}
theorem ins_all (hn : n ≤ 6) (hk : k ≤ 7) (hC : C ∈ lots n m) (hm : m ≤ n) : insB n k C = true :=
  all_range (List.all_eq_true.mp (all_range (all_range ins_chk (show n < 7 by omega)) (show m < n + 1 by omega)) C hC) (show k < 8 by omega)
theorem ins_eqs (hn : n ≤ 6) (hk : k ≤ 7) (hC : C ∈ lots n m) (hm : m ≤ n) : ((lots n k).filter (inC C)).map (List.map (idx C)) = lots C.length k ∧ (∀ l ∈ lots n k, inC C l = true → emb C (l.map (idx C)) = l) ∧ ∀ y ∈ lots C.length k, emb C y ∈ lots n k := by
  have h := ins_all hn hk hC hm
  unfold insB at h
  obtain ⟨h12, h3⟩ := Bool.and_eq_true_iff.mp h
  obtain ⟨h1, h2⟩ := Bool.and_eq_true_iff.mp h12
  refine ⟨eq_of_beq h1, fun l hl hi => ?_, fun y hy => ?_⟩
  · have := List.all_eq_true.mp h2 l hl
    rw [hi] at this
    simpa using this
  · have := List.all_eq_true.mp h3 y hy
    simpa using this
theorem mk_eq (h : Mk n k M) : (lots n k).filter (fun l => decide (l ∈ M)) = M :=
  srt_uniq sto_llt (Rsg.srt sto_llt ((lots_rsg n k).filter _)) (h.rsg.srt sto_llt) (by
    refine (List.perm_ext_iff_of_nodup (Rsg.nodup sto_llt ((lots_rsg n k).filter _)) h.nd).mpr fun l => ?_
    rw [List.mem_filter]
    exact ⟨fun z => of_decide_eq_true z.2, fun z => ⟨h.sub l z, decide_eq_true z⟩⟩)
theorem ins_eq (hn : n ≤ 6) (hk : k ≤ 7) (hC : C ∈ lots n m) (hm : m ≤ n) (h : Mk n k M) : (M.filter (inC C)).map (List.map (idx C)) = insM k M C := by
  obtain ⟨e1, e2, e3⟩ := ins_eqs hn hk hC hm
  unfold insM
  rw [← e1, List.filter_map]
  have : M.filter (inC C) = ((lots n k).filter (inC C)).filter (fun l => decide (emb C (l.map (idx C)) ∈ M)) := by
    conv => lhs; rw [← mk_eq h]
    rw [List.filter_filter, List.filter_filter]
    apply List.filter_congr
    intro l hl
    by_cases c : inC C l = true
    · rw [e2 l hl c, Bool.and_comm]
    · have c' : inC C l = false := by simpa using c
      rw [c']
      simp
  rw [this]
  rfl
theorem ins_mk : Mk C.length k (insM k M C) := mk_filter _
theorem ins_mem {y : List Nat} : y ∈ insM k M C ↔ y ∈ lots C.length k ∧ emb C y ∈ M := by
  unfold insM
  rw [List.mem_filter]
  exact ⟨fun z => ⟨z.1, of_decide_eq_true z.2⟩, fun z => ⟨z.1, decide_eq_true z.2⟩⟩
theorem pk_sub (hn : n ≤ 6) (hk : k ≤ 6) {t : List Nat} (ht : t ∈ lots n (k + 1)) : ∀ l ∈ pk t, l ∈ lots n k := fun l hl => by
  have := List.all_eq_true.mp (List.all_eq_true.mp (all_range (all_range pk_sub_chk (show n < 7 by omega)) (show k < 7 by omega)) t ht) l hl
  simpa using this
theorem ins_bits (h6 : C.length ≤ 6) (hk : k ≤ 6) {t : List Nat} (ht : t ∈ lots C.length (k + 1)) : bitsOf (insM k M C) t = bitsOf M (emb C t) := by
  unfold bitsOf
  have e : pk (emb C t) = (pk t).map (emb C) := pk_map _ t
  rw [e, List.map_map]
  apply List.map_congr_left
  intro l hl
  have := pk_sub h6 hk ht l hl
  show decide (l ∈ insM k M C) = decide (emb C l ∈ M)
  exact decide_eq_decide.mpr ⟨fun z => (ins_mem.mp z).2, fun z => ins_mem.mpr ⟨this, z⟩⟩
theorem lot_len (hC : C ∈ lots n m) : C.length = m := ((lots_mem n m C).mp hC).len
theorem lot_le (hC : C ∈ lots n m) : m ≤ n := by
  have L := (lots_mem n m C).mp hC
  rw [← L.len]
  exact L.le
theorem lots_none {n k : Nat} (h : n < k) : lots n k = [] := by
  apply List.eq_nil_iff_forall_not_mem.mpr
  intro y hy
  have := lot_le hy
  omega
/-- a family stays one -/
theorem ins_keep (hn : n ≤ 6) (hC : C ∈ lots n m) (h : leastB n k M = none) : leastB C.length k (insM k M C) = none := by
  have hm := lot_le hC
  have hl := lot_len hC
  rw [least_none hn] at h
  rw [least_none (by omega)]
  intro t ht
  have h1 := lot_le ht
  rw [ins_bits (by omega) (by omega) ht]
  exact h _ ((ins_eqs hn (by omega) hC hm).2.2 t ht)
/-- the things but one -/
def oth (n t : Nat) : List Nat := (List.range n).filter fun x => !decide (x = t)
theorem oth_chk : ((List.range 7).all fun n => (List.range n).all fun t => (lots n (n - 1)).contains (oth n t)) = true := by kernel_rfl
theorem oth_lot (hn : n ≤ 6) {t : Nat} (ht : t < n) : oth n t ∈ lots n (n - 1) := by
  have := all_range (all_range oth_chk (show n < 7 by omega)) ht
  simpa using this
theorem left_all (hn : n ≤ 6) (hk : k + 2 ≤ n) (h : ∀ t, t < n → leastB (n - 1) k (insM k M (oth n t)) = none) : leastB n k M = none := by
  rw [least_none hn]
  intro y hy
  have c := all_range (all_range out_chk (show n < 7 by omega)) (show k < 7 by omega)
  have c' : (lots n (k + 1)).all (fun t => (List.range n).any fun x => !t.contains x) = true := by
    have e : Nat.ble (k + 2) n = true := Nat.ble_eq.mpr hk
    rw [e] at c
    simpa using c
  obtain ⟨t, t1, t2⟩ := List.any_eq_true.mp (List.all_eq_true.mp c' y hy)
  have t1 := List.mem_range.mp t1
  have t2 : t ∉ y := by simpa using t2
  have hC := oth_lot hn t1
  have hl := lot_len hC
  have Ly := (lots_mem n (k + 1) y).mp hy
  have hi : inC (oth n t) y = true := by
    unfold inC
    rw [List.all_eq_true]
    intro x hx
    have hx2 := Ly.low x hx
    have : x ∈ oth n t := by
      unfold oth
      rw [List.mem_filter]
      refine ⟨List.mem_range.mpr hx2, ?_⟩
      have : ¬ x = t := fun e => t2 (e ▸ hx)
      simp [this]
    simpa using this
  obtain ⟨e1, e2, e3⟩ := ins_eqs (k := k + 1) hn (by omega) hC (by omega)
  have hy2 : y.map (idx (oth n t)) ∈ lots (oth n t).length (k + 1) := by
    rw [← e1]
    exact List.mem_map.mpr ⟨y, List.mem_filter.mpr ⟨hy, hi⟩, rfl⟩
  have h1 := h t t1
  rw [← hl, least_none (by omega)] at h1
  have h2 := h1 _ hy2
  rw [ins_bits (by omega) (by omega) hy2, e2 y hy hi] at h2
  exact h2
theorem emb_range {y : List Nat} (h : ∀ x ∈ y, x < n) : emb (List.range n) y = y := by
  unfold emb
  conv => rhs; rw [← List.map_id y]
  apply List.map_congr_left
  intro x hx
  have := h x hx
  simp [List.getD, List.getElem?_range, this]
theorem ins_range (h : Mk n k M) : insM k M (List.range n) = M := by
  unfold insM
  rw [List.length_range]
  refine Eq.trans (List.filter_congr fun y hy => ?_) (mk_eq h)
  rw [emb_range ((lots_mem n k y).mp hy).low]
theorem turns_not {bs : List Bool} (h : bs.length ≤ 6) : turns (bs.map not) = turns bs := by
  have := List.all_eq_true.mp (all_range turns_not_chk (show bs.length < 7 by omega)) bs (allB_mem _ bs rfl)
  exact Nat.eq_of_beq_eq_true this
def conM (n k : Nat) (M : List (List Nat)) : List (List Nat) := (lots n k).filter fun l => !decide (l ∈ M)
theorem con_mk : Mk n k (conM n k M) := mk_filter _
theorem con_keep (hn : n ≤ 6) (h : leastB n k M = none) : leastB n k (conM n k M) = none := by
  rw [least_none hn] at h ⊢
  intro t ht
  have h1 := lot_le ht
  have e : bitsOf (conM n k M) t = (bitsOf M t).map not := by
    unfold bitsOf
    rw [List.map_map]
    apply List.map_congr_left
    intro l hl
    have := pk_sub hn (by omega) ht l hl
    show decide (l ∈ conM n k M) = !decide (l ∈ M)
    unfold conM
    by_cases c : l ∈ M <;> simp [c, this]
  rw [e, turns_not]
  · exact h t ht
  · have := lot_len ht
    have hb : (bitsOf M t).length = (pk t).length := by simp [bitsOf]
    rw [hb, pk_len]
    omega
end
end KX

set_option Elab.async false
set_option linter.all false
set_option maxRecDepth 100000
set_option maxHeartbeats 4000000
namespace KX
open DL
/-! ### dicts, plain -/
section
variable {i : Nat} {env : En} {ks : List (List Int)} {ds : List D} {x : Int} {fk fv : DL.M D}
theorem vDIn_of (h : env[i]? = some (some (.dic false ks ds))) (hk : fk env = .ok (.int x) env) : vDIn i fk env = .ok (.bl (hasDi false [x] ks)) env := by
  simp [vDIn, vDicGet, isDic, h, hk]
theorem vDNotIn_of (h : env[i]? = some (some (.dic false ks ds))) (hk : fk env = .ok (.int x) env) : vDNotIn i fk env = .ok (.bl (!hasDi false [x] ks)) env := by
  simp [vDNotIn, vDicGet, isDic, h, hk]
theorem vDGet_of {d : D} (h : env[i]? = some (some (.dic false ks ds))) (hk : fk env = .ok (.int x) env) (hg : getDi false [x] ks ds = some d) : vDGet i fk env = .ok d env := by
  simp [vDGet, vDicGet, isDic, h, hk, hg]
theorem sDPut_of {d : D} (h : env[i]? = some (some (.dic false ks ds))) (hv : fv env = .ok d env) (hk : fk env = .ok (.int x) env) (hs : ks.length ≤ 1000000) (hn : hasDi false [x] ks = false) : sDPut_ i fk fv env = .ok .nx (env.set i (some (.dic false (ks ++ [[x]]) (ds ++ [d])))) := by
  simp [sDPut_, isDic, h, hk, hv, putDi, hn]
  omega
end
abbrev kI (x : Nat) : List Int := [(x : Int)]
theorem has_map (x : Nat) : ∀ C : List Nat, hasDi false [(x : Int)] (C.map kI) = decide (x ∈ C)
  | [] => by simp [hasDi]
  | a :: C => by
    have ih := has_map x C
    unfold hasDi at ih ⊢
    rw [List.map_cons, List.any_cons, ih]
    have : eqK false (kI a) [(x : Int)] = decide (x = a) := by
      show ((a : Int) == (x : Int)) = _
      by_cases e : x = a
      · simp [e]
      · have : ¬ (a : Int) = x := by omega
        simp [e, this]
    rw [this]
    simp [List.mem_cons]
theorem get_map_ (x : Nat) : ∀ (C : List Nat) (s : Nat), x ∈ C → getDi false [(x : Int)] (C.map kI) ((List.range' s C.length).map nI) = some (nI (s + C.idxOf x))
  | [], _, h => by cases h
  | a :: C, s, h => by
    rw [List.map_cons, List.length_cons, List.range'_succ, List.map_cons]
    show (if eqK false (kI a) [(x : Int)] = true then some (nI s) else getDi false [(x : Int)] (C.map kI) ((List.range' (s + 1) C.length).map nI)) = _
    by_cases e : a = x
    · subst e
      have : eqK false (kI a) [(a : Int)] = true := by simp [eqK]
      rw [if_pos this]
      simp
    · have : ¬ eqK false (kI a) [(x : Int)] = true := by
        show ¬ ((a : Int) == (x : Int)) = true
        have : ¬ (a : Int) = x := by omega
        simp [this]
      rw [if_neg this, get_map_ x C (s + 1) (by
        rcases List.mem_cons.mp h with z | z
        · exact absurd z.symm e
        · exact z), List.idxOf_cons, beq_eq_false_iff_ne.mpr e]
      show some (nI (s + 1 + C.idxOf x)) = some (nI (s + (C.idxOf x + 1)))
      congr 2
      omega
theorem get_map0 {x : Nat} {C : List Nat} (h : x ∈ C) : getDi false [(x : Int)] (C.map kI) ((List.range C.length).map nI) = some (nI (idx C x)) := by
  have := get_map_ x C 0 h
  rw [Nat.zero_add] at this
  rw [List.range_eq_range']
  exact this
section
variable {c n k m : Nat} {M : List (List Nat)} {C : List Nat}
theorem inC_len (lot : List Nat) : ((lot.filter fun x => decide (x ∈ C)).length = lot.length) ↔ inC C lot = true := by
  rw [List.length_filter_eq_length_iff]
  unfold inC
  rw [List.all_eq_true]
  constructor
  · intro h x hx
    have := h x hx
    simpa using this
  · intro h x hx
    have := h x hx
    simpa using this
theorem inside_ok (hc : c = 62 ∨ c = 100) (hn : n ≤ 6) (hk : k ≤ 7) (h : Mk n k M) (hC : C ∈ lots n m) (x : D) (hx : x = .lst (C.map nI) ∨ x = tN C) : m__inside [mo c n k M, x] = .ok (.lst ((insM k M C).map tN)) none := by
  have hm := lot_le hC
  have LC := (lots_mem n m C).mp hC
  have hl := LC.len
  have hM := h.len hn (by omega)
  have nd : C.Nodup := LC.rise.imp fun {a b} z e => by omega
  let dC : D := .dic false (C.map kI) ((List.range C.length).map nI)
  have loop1 := for_inv (i := 3) (body := L__inside_3) nI (fun pre e => ∃ x3, e = [some (mo c n k M), some x, some (.dic false (pre.map kI) ((List.range pre.length).map nI)), x3, none, none]) C [] [some (mo c n k M), some x, some (.dic false [] []), none, none, none] ⟨_, rfl⟩ (by
    rintro pre' y post hp e ⟨x3, rfl⟩
    refine ⟨[some (mo c n k M), some x, some (.dic false ((pre' ++ [y]).map kI) ((List.range (pre' ++ [y]).length).map nI)), some (nI y), none, none], ?_, _, rfl⟩
    have hy : y ∉ pre' := fun z => by
      rw [List.nil_append] at hp
      rw [hp] at nd
      exact (List.nodup_append.mp nd).2.2 y z y List.mem_cons_self rfl
    have hl2 : pre'.length ≤ 6 := by
      have := congrArg List.length hp
      simp at this
      omega
    refine (sDPut_of (i := 2) (env := [some (mo c n k M), some x, some (.dic false (pre'.map kI) ((List.range pre'.length).map nI)), some (nI y), none, none]) (ks := pre'.map kI) (ds := (List.range pre'.length).map nI) (x := (y : Int)) (d := nI pre'.length) (fk := vVar 3) (fv := op1 lenDi (vVar 2)) rfl (by simp [lenDi]) rfl (by simp; omega) (by rw [has_map]; simp [hy])).trans ?_
    simp [List.range_succ])
  obtain ⟨e1, h1, x3, rfl⟩ := loop1
  rw [List.nil_append] at h1
  have loop2 := for_inv (i := 5) (body := L__inside_5) tN (fun pre e => ∃ x5, e = [some (mo c n k M), some x, some dC, x3, some (.lst (((pre.filter (inC C)).map (List.map (idx C))).map tN)), x5]) M [] [some (mo c n k M), some x, some dC, x3, some (.lst []), none] ⟨_, rfl⟩ (by
    rintro pre' y post hp e ⟨x5, rfl⟩
    have hy : y ∈ M := by rw [← List.nil_append M, hp]; simp
    have hyl := lot_len (h.sub y hy)
    have hpl : pre'.length ≤ 20 := by
      have := congrArg List.length hp
      simp at this
      omega
    have lc1 := lcM_t (i := 3) (fi := iSeq (vVar 5)) (cond := tB1 (vDIn 2 (vVar 3))) (elt := vVar 3) (env := [some (mo c n k M), some x, some dC, x3, some (.lst (((pre'.filter (inC C)).map (List.map (idx C))).map tN)), some (tN y)])
      nI (fun z => decide (z ∈ C)) nI y rfl (by omega) (fun z hz => by
        have := vDIn_of (i := 2) (env := [some (mo c n k M), some x, some dC, some (nI z), some (.lst (((pre'.filter (inC C)).map (List.map (idx C))).map tN)), some (tN y)]) (ks := C.map kI) (ds := (List.range C.length).map nI) (x := (z : Int)) (fk := vVar 3) rfl rfl
        rw [has_map] at this
        show tB1 (vDIn 2 (vVar 3)) [some (mo c n k M), some x, some dC, some (nI z), some (.lst (((pre'.filter (inC C)).map (List.map (idx C))).map tN)), some (tN y)] = _
        rw [tB1_ap, this]
        rfl) (fun z hz _ => rfl)
    refine ⟨[some (mo c n k M), some x, some dC, x3, some (.lst ((((pre' ++ [y]).filter (inC C)).map (List.map (idx C))).map tN)), some (tN y)], ?_, _, rfl⟩
    have il := inC_len (C := C) y
    by_cases q : inC C y = true
    · have lc2 := lcM_map (i := 3) (fi := iSeq (vVar 5)) (elt := vDGet 2 (vVar 3)) (env := [some (mo c n k M), some x, some dC, x3, some (.lst (((pre'.filter (inC C)).map (List.map (idx C))).map tN)), some (tN y)])
        nI (fun z => nI (idx C z)) y rfl (by omega) (fun z hz => by
          have hz' : z ∈ C := by
            have := List.all_eq_true.mp q z hz
            simpa using this
          exact vDGet_of (i := 2) (env := [some (mo c n k M), some x, some dC, some (nI z), some (.lst (((pre'.filter (inC C)).map (List.map (idx C))).map tN)), some (tN y)]) (ks := C.map kI) (ds := (List.range C.length).map nI) (x := (z : Int)) (fk := vVar 3) rfl rfl (get_map0 hz'))
      have e1 : ((y.filter fun x => decide (x ∈ C)).length : Int) = y.length := by rw [il.mpr q]
      have ap := append_of (l := ((pre'.filter (inC C)).map (List.map (idx C))).map tN) (d := tN (y.map (idx C))) (by
        have := List.length_filter_le (inC C) pre'
        simp only [List.length_map]
        omega)
      have e2 : D.tup (y.map fun z => nI (idx C z)) = tN (y.map (idx C)) := by simp
      simp [-List.map_map, L__inside_5, lc1, lc2, e1, e2, ap, q, List.filter_append]
    · have q' : inC C y = false := by simpa using q
      have e1 : ¬ ((y.filter fun x => decide (x ∈ C)).length : Int) = y.length := fun z => q (il.mp (by omega))
      simp [-List.map_map, L__inside_5, lc1, e1, q', List.filter_append])
  obtain ⟨e2, h2, x5, rfl⟩ := loop2
  rw [List.nil_append, ins_eq hn hk hC hm h] at h2
  refine runF_ok (e := [some (mo c n k M), some x, some dC, x3, some (.lst ((insM k M C).map tN)), x5]) ?_
  rcases hx with rfl | rfl <;> simp [-List.map_map, b__inside, h1, hc, h2, dC]
end
end KX

set_option Elab.async false
set_option linter.all false
set_option maxRecDepth 100000
set_option maxHeartbeats 4000000
namespace KX
open DL
section
variable {c n k m : Nat} {M : List (List Nat)} {C : List Nat}
theorem like_ok {n' k' : Nat} {M' : List (List Nat)} (hc : c = 62 ∨ c = 100) (h : Mk n' k' M') (hn : n' ≤ 6) (hk : k' ≤ n' + 1) (x : D) (hx : x = .lst (M'.map tN) ∨ x = tNs M') (hl : c = 100 → leastB n' k' M' = none) : m__like [mo c n k M, nI n', nI k', x] = .ok (mo c n' k' M') none := by
  refine runF_ok (e := [some (mo c n k M), some (nI n'), some (nI k'), some x]) ?_
  rcases hc with rfl | rfl
  · simp [-List.map_map, b__like, cMake_ap, marks_init (c := 62) (.inl rfl) h hn hk x hx]
  · simp [-List.map_map, b__like, cMake_ap, family_good h hn hk x hx (hl rfl)]
/-! ### the thing's number -/
def okI (r : Rs) (i : Int) : Bool := match r with
  | .ok (.int j) none => decide (j = i)
  | _ => false
theorem okI_eq {r : Rs} {i : Int} (h : okI r i = true) : r = .ok (.int i) none := by
  unfold okI at h
  split at h
  · rw [of_decide_eq_true h]
  · cases h
def isEs (r : Rs) (c f : Nat) (s : Nat) : Bool := match r with
  | .err c' [f'] [.str t] none => c' == c && f' == f && t == s
  | _ => false
theorem isEs_eq {r : Rs} {c f s : Nat} (h : isEs r c f s = true) : r = .err c [f] [.str s] none := by
  unfold isEs at h
  split at h
  · obtain ⟨h12, h3⟩ := Bool.and_eq_true_iff.mp h
    obtain ⟨h1, h2⟩ := Bool.and_eq_true_iff.mp h12
    rw [beq_iff_eq.mp h1, beq_iff_eq.mp h2, beq_iff_eq.mp h3]
  · cases h
theorem thing_chk : ((List.range 7).all fun n => ((List.range n).all fun t => okI (m_check_number [.str 90, nI t, .int 0, .int ((n : Int) - 1)]) t) && [nI n, .int (-1), .bl true, .non].all fun x => isEs (m_check_number [.str 90, x, .int 0, .int ((n : Int) - 1)]) 176 50 90) = true := by kernel_rfl
theorem thing_ok (hn : n ≤ 6) : (∀ t, t < n → m_check_number [.str 90, nI t, .int 0, .int ((n : Int) - 1)] = .ok (nI t) none) ∧ ∀ x ∈ [nI n, .int (-1), .bl true, .non], m_check_number [.str 90, x, .int 0, .int ((n : Int) - 1)] = .err 176 [50] [.str 90] none := by
  obtain ⟨h1, h2⟩ := Bool.and_eq_true_iff.mp (all_range thing_chk (show n < 7 by omega))
  exact ⟨fun t ht => okI_eq (all_range h1 ht), fun x hx => isEs_eq (List.all_eq_true.mp h2 x hx)⟩
theorem pred_nI {n : Nat} (h : 1 ≤ n) : D.int ((n : Int) - 1) = nI (n - 1) := by
  show D.int _ = D.int _
  congr 1
  omega
theorem left_out_ok (hc : c = 62 ∨ c = 100) (hn : n ≤ 6) (hk : k ≤ n) (h : Mk n k M) (hl : c = 100 → leastB n k M = none) {t : Nat} (ht : t < n) : m_left_out [mo c n k M, nI t] = .ok (mo c (n - 1) k (insM k M (oth n t))) none := by
  refine runF_ok (e := [some (mo c n k M), some (nI t), none, some (.lst ((oth n t).map nI))]) ?_
  have hC := oth_lot hn ht
  have hm := lot_len hC
  have tk := (thing_ok hn).1 t ht
  have lc := lcM_t (i := 2) (fi := iRng rng1 (aCons (op1 (fldD ocs 53) (vVar 0)) (aNil))) (cond := tB1 (op2 neD (vVar 2) (vVar 1))) (elt := vVar 2) (env := [some (mo c n k M), some (nI t), none, none])
    nI (fun x => !decide (x = t)) nI (List.range n) (by simp [-List.map_map, hc, rng1_of (n := n) (by omega)]) (by simp; omega) (fun x _ => by
      by_cases e : x = t
      · simp [e]
      · have : ¬ (x : Int) = t := by omega
        simp [e, this]) (fun x _ _ => by simp)
  have io := inside_ok (k := k) hc hn (by omega) h hC (.lst ((oth n t).map nI)) (.inl rfl)
  have mk' := ins_mk (k := k) (M := M) (C := oth n t)
  rw [hm] at mk'
  have li := like_ok (n := n) (k := k) (M := M) hc mk' (by omega) (by omega) (.lst ((insM k M (oth n t)).map tN)) (.inl rfl) (fun e => by
    have := ins_keep hn hC (hl e)
    rw [hm] at this
    exact this)
  have kn : ¬ (n : Int) < k := by omega
  rw [pred_nI (show 1 ≤ n by omega)] at tk
  have e0 : (oth n t).map nI = ((List.range n).filter fun x => !decide (x = t)).map nI := rfl
  rw [e0] at io ⊢
  simp [-List.map_map, b_left_out, hc, tk, kn, lc, io, pred_nI (show 1 ≤ n by omega), li]
theorem left_out_shape (hc : c = 62 ∨ c = 100) (hn : n ≤ 6) (hk : n < k) {t : Nat} (ht : t < n) : m_left_out [mo c n k M, nI t] = .err 190 [53, 83] [nI n, nI k] none := by
  refine (runF_err (e := [some (mo c n k M), some (nI t), none, none]) ?_).trans rfl
  have tk := (thing_ok hn).1 t ht
  have kn : (n : Int) < k := by omega
  simp [-List.map_map, b_left_out, hc, tk, kn]
theorem left_out_wrong (hc : c = 62 ∨ c = 100) (hn : n ≤ 6) {x : D} (hx : x ∈ [nI n, .int (-1), .bl true, .non]) : m_left_out [mo c n k M, x] = .err 176 [50] [.str 90] none := by
  refine (runF_err (e := [some (mo c n k M), some x, none, none]) ?_).trans rfl
  have tk := (thing_ok hn).2 x hx
  simp [-List.map_map, b_left_out, hc, tk]
/-! ### restricted -/
theorem restricted_ok (hc : c = 62 ∨ c = 100) (hn : n ≤ 6) (hk : k ≤ n + 1) (h : Mk n k M) (hl : c = 100 → leastB n k M = none) (hC : C ∈ lots n m) (hm : k ≤ m + 1) (x : D) (hx : m_check_set [nI n, x] = .ok (tN C) none) : m_restricted [mo c n k M, x] = .ok (mo c m k (insM k M C)) none := by
  refine runF_ok (e := [some (mo c n k M), some x, some (tN C)]) ?_
  have hm2 := lot_len hC
  have hm3 := lot_le hC
  have io := inside_ok (k := k) hc hn (by omega) h hC (tN C) (.inr rfl)
  have mk' := ins_mk (k := k) (M := M) (C := C)
  rw [hm2] at mk'
  have li := like_ok (n := n) (k := k) (M := M) hc mk' (by omega) (by omega) (.lst ((insM k M C).map tN)) (.inl rfl) (fun e => by
    have := ins_keep hn hC (hl e)
    rw [hm2] at this
    exact this)
  have kn : ¬ (m : Int) < (k : Int) - 1 := by omega
  simp [-List.map_map, b_restricted, hc, hx, hm2, kn, io, li]
theorem restricted_shape (hc : c = 62 ∨ c = 100) (hC : C ∈ lots n m) (hm : m + 1 < k) (x : D) (hx : m_check_set [nI n, x] = .ok (tN C) none) : m_restricted [mo c n k M, x] = .err 190 [53, 83] [nI m, nI k] none := by
  refine (runF_err (e := [some (mo c n k M), some x, some (tN C)]) ?_).trans rfl
  have hm2 := lot_len hC
  have kn : (m : Int) < (k : Int) - 1 := by omega
  simp [-List.map_map, b_restricted, hc, hx, hm2, kn]
theorem restricted_wrong (hc : c = 62 ∨ c = 100) {x : D} {i : Int} (hx : m_check_set [nI n, x] = .err 98 [88] [.int i] none) : m_restricted [mo c n k M, x] = .err 98 [88] [.int i] none := by
  refine (runF_err (e := [some (mo c n k M), some x, none]) ?_).trans rfl
  simp [-List.map_map, b_restricted, hc, hx]
/-! ### contrary -/
theorem others_ok2 (hn : n ≤ 6) (hk : k ≤ n + 2) (h : Mk n k M) : m__others [nI n, nI k, tNs M] = .ok (tNs (conM n k M)) none := by
  have hM := h.len hn (by omega)
  refine runF_ok (e := [some (nI n), some (nI k), some (tNs M), some (.set (M.map fun a => a.map fun x : Nat => (x : Int))), none]) ?_
  have lc := lcM_t (i := 4) (fi := iSeq (cCall 2 m__lots (aCons (vVar 0) (aCons (vVar 1) (aNil))))) (cond := tB1 (op2 notInD (vVar 4) (vVar 3))) (elt := vVar 4) (env := [some (nI n), some (nI k), some (tNs M), some (.set (M.map fun a => a.map fun x : Nat => (x : Int))), none])
    tN (fun l => !decide (l ∈ M)) tN (lots n k) (by simp [-List.map_map, lots_ok n k hn hk]) (by have := lots_len (n := n) (k := k) hn (by omega); omega) (fun l _ => by simp [-List.map_map, (in_set_lots l M).2]) (fun l _ _ => by simp)
  simp [-List.map_map, b__others, set_lots (l := M) (by omega), lc, conM]
theorem contrary_ok (hc : c = 62 ∨ c = 100) (hn : n ≤ 6) (hk : k ≤ n + 1) (h : Mk n k M) (hl : c = 100 → leastB n k M = none) : ∃ m, mtGet mt_contrary c = some m ∧ m [mo c n k M] = .ok (mo c n k (conM n k M)) none := by
  have un : m_Marks_unmarked [mo c n k M] = .ok (tNs (conM n k M)) none := by
    refine runF_ok (e := [some (mo c n k M)]) ?_
    simp [-List.map_map, b_Marks_unmarked, hc, others_ok2 hn (show k ≤ n + 2 by omega) h]
  rcases hc with rfl | rfl
  · refine ⟨m_Marks_contrary, rfl, runF_ok (e := [some (mo 62 n k M)]) ?_⟩
    have mi := marks_init (c := 62) (.inl rfl) con_mk hn hk (tNs (conM n k M)) (.inr rfl)
    have cm : cMeth 1 173 mt_unmarked (vVar 0) aNil [some (mo 62 n k M)] = .ok (tNs (conM n k M)) [some (mo 62 n k M)] := by
      show (match m_Marks_unmarked [mo 62 n k M] with
        | .ok d _ => R.ok d [some (mo 62 n k M)]
        | .err c ns es _ => R.err c ns es [some (mo 62 n k M)]
        | .stuck => .stuck) = _
      rw [un]
    simp [-List.map_map, b_Marks_contrary, cm, cMake_ap, mi]
  · refine ⟨m_Family_contrary, rfl, runF_ok (e := [some (mo 100 n k M)]) ?_⟩
    have mi := family_good con_mk hn hk (tNs (conM n k M)) (.inr rfl) (con_keep hn (hl rfl))
    have cm : cMeth 1 173 mt_unmarked (vVar 0) aNil [some (mo 100 n k M)] = .ok (tNs (conM n k M)) [some (mo 100 n k M)] := by
      show (match m_Marks_unmarked [mo 100 n k M] with
        | .ok d _ => R.ok d [some (mo 100 n k M)]
        | .err c ns es _ => R.err c ns es [some (mo 100 n k M)]
        | .stuck => .stuck) = _
      rw [un]
    simp [-List.map_map, b_Family_contrary, cm, cMake_ap, mi]
/-! ### the law's own keeps -/
theorem law_keeps_ok (hn : n ≤ 6) (hk : k ≤ n + 1) : m__law_keeps [nI n, nI k, .lst (M.map tN)] = .ok (.bl (leastB n k M).isNone) none := by
  have body : ∀ y ∈ lots n (k + 1), ∀ c0, ∃ e', L__law_keeps_3 (([some (nI n), some (nI k), some (.lst (M.map tN)), none, none] : En).set 3 c0 |>.set 3 (some (tN y))) = if decide (2 ≤ turns (bitsOf M y)) = true then .ok (.rt (.bl false)) e' else .ok .nx (([some (nI n), some (nI k), some (.lst (M.map tN)), none, none] : En).set 3 (some (tN y))) := by
    intro y hy c0
    have Ly := (lots_mem n (k + 1) y).mp hy
    have hyl := Ly.le
    have lc := lcM_map (i := 4) (fi := iSeq (cCall 1 m__law_packet (aCons (vVar 3) (aNil)))) (elt := op2 inD (vVar 4) (vVar 2)) (env := [some (nI n), some (nI k), some (.lst (M.map tN)), some (tN y), none])
      tN (fun l => .bl (decide (l ∈ M))) (pk y) (by simp [-List.map_map, (pk_ok (y := y) (by omega)).2]) (by rw [pk_len]; omega) (fun l hl => by simp [-List.map_map, (in_lots l M).1])
    have e1 : (pk y).map (fun l => D.bl (decide (l ∈ M))) = (bitsOf M y).map .bl := by unfold bitsOf; rw [List.map_map]; rfl
    rw [e1] at lc
    have lt := law_turns_ok .bl ne_bl (bitsOf M y) (by simp [bitsOf, pk_len]; omega)
    refine ⟨[some (nI n), some (nI k), some (.lst (M.map tN)), some (tN y), none], ?_⟩
    by_cases q : 2 ≤ turns (bitsOf M y)
    · have q' : (1 : Int) < turns (bitsOf M y) := by omega
      simp [-List.map_map, L__law_keeps_3, lc, lt, q, q']
    · have q' : ¬ (1 : Int) < turns (bitsOf M y) := by omega
      simp [-List.map_map, L__law_keeps_3, lc, lt, q, q']
  have ll := law_lots_ok n (k + 1) hn (by omega)
  rcases for_find (i := 3) (body := L__law_keeps_3) tN (fun t => decide (2 ≤ turns (bitsOf M t))) (fun _ => .bl false) [some (nI n), some (nI k), some (.lst (M.map tN)), none, none] (lots n (k + 1)) none body with ⟨y, e', f1, f2⟩ | ⟨f1, c', f2⟩
  · have hy := List.mem_of_find?_eq_some f1
    have hp := List.find?_some f1
    have : ¬ leastB n k M = none := fun z => by
      have := (least_none hn).mp z y hy
      have hp := of_decide_eq_true hp
      omega
    have e2 : (leastB n k M).isNone = false := by
      cases q : leastB n k M with
      | none => exact absurd q this
      | some _ => rfl
    rw [e2]
    refine runF_ok (e := e') ?_
    have f2' : DL.forM 3 L__law_keeps_3 ((lots n (k + 1)).map tN) [some (nI n), some (nI k), some (.lst (M.map tN)), none, none] = .ok (.rt (.bl false)) e' := f2
    simp [-List.map_map, b__law_keeps, ← nI_succ, ll, f2']
  · have : leastB n k M = none := (least_none hn).mpr fun t ht => by
      have := List.find?_eq_none.mp f1 t ht
      simp at this
      omega
    rw [this]
    refine runF_ok (e := ([some (nI n), some (nI k), some (.lst (M.map tN)), none, none] : En).set 3 c') ?_
    have f2' : DL.forM 3 L__law_keeps_3 ((lots n (k + 1)).map tN) [some (nI n), some (nI k), some (.lst (M.map tN)), none, none] = .ok .nx (([some (nI n), some (nI k), some (.lst (M.map tN)), none, none] : En).set 3 c') := f2
    simp [-List.map_map, b__law_keeps, ← nI_succ, ll, f2']
end
end KX

set_option Elab.async false
set_option linter.all false
set_option maxRecDepth 100000
set_option maxHeartbeats 4000000
namespace KX
open DL
/-! k03: what the law's own defs answer -/
theorem okF_s (s : Nat) (h : Nat.blt s nmN = true) (n : Nat) : okF n (.str s) = true := by
  cases n <;> exact h
theorem eqF_s (s n : Nat) : eqF n (.str s) (.str s) = true := by
  cases n <;> simp [eqF]
theorem eq_self {d : D} (o : okF 12 d = true) (e : eqF 12 d d = true) : eqD d d = some (.bl true) ∧ neD d d = some (.bl false) := by
  constructor
  · unfold eqD eqB
    rw [if_pos (by rw [o]; rfl), e]
    rfl
  · unfold neD eqB
    rw [if_pos (by rw [o]; rfl), e]
    rfl
theorem eq_str (s : Nat) (h : Nat.blt s nmN = true) : eqD (.str s) (.str s) = some (.bl true) ∧ neD (.str s) (.str s) = some (.bl false) := eq_self (okF_s s h 12) (eqF_s s 12)
theorem okF_i (i : Int) (n : Nat) : okF n (.int i) = true := by cases n <;> rfl
theorem eqF_i (i : Int) (n : Nat) : eqF n (.int i) (.int i) = true := by cases n <;> simp [eqF]
theorem eq_si (s : Nat) (h : Nat.blt s nmN = true) (i : Int) : eqD (.tup [.str s, .int i]) (.tup [.str s, .int i]) = some (.bl true) ∧ neD (.tup [.str s, .int i]) (.tup [.str s, .int i]) = some (.bl false) := by
  apply eq_self
  · show (okF 11 (.str s) && (okF 11 (.int i) && true)) = true
    rw [okF_s s h, okF_i]
    rfl
  · show (eqF 11 (.str s) (.str s) && (eqF 11 (.int i) (.int i) && true)) = true
    rw [eqF_s, eqF_i]
    rfl
theorem eq_ss (s t : Nat) (h : Nat.blt s nmN = true) (h' : Nat.blt t nmN = true) : eqD (.tup [.str s, .str t]) (.tup [.str s, .str t]) = some (.bl true) ∧ neD (.tup [.str s, .str t]) (.tup [.str s, .str t]) = some (.bl false) := by
  apply eq_self
  · show (okF 11 (.str s) && (okF 11 (.str t) && true)) = true
    rw [okF_s s h, okF_s t h']
    rfl
  · show (eqF 11 (.str s) (.str s) && (eqF 11 (.str t) (.str t) && true)) = true
    rw [eqF_s, eqF_s]
    rfl
theorem eq_sii (s : Nat) (h : Nat.blt s nmN = true) (i j : Int) : eqD (.tup [.str s, .int i, .int j]) (.tup [.str s, .int i, .int j]) = some (.bl true) ∧ neD (.tup [.str s, .int i, .int j]) (.tup [.str s, .int i, .int j]) = some (.bl false) := by
  apply eq_self
  · show (okF 11 (.str s) && (okF 11 (.int i) && (okF 11 (.int j) && true))) = true
    rw [okF_s s h, okF_i, okF_i]
    rfl
  · show (eqF 11 (.str s) (.str s) && (eqF 11 (.int i) (.int i) && (eqF 11 (.int j) (.int j) && true))) = true
    rw [eqF_s, eqF_i, eqF_i]
    rfl
section
variable {c n k m : Nat} {M : List (List Nat)} {C : List Nat}
/-! ### left_told, kept_told -/
theorem left_told_ok (hc : c = 62 ∨ c = 100) (hn : n ≤ 6) (hk : k ≤ n) (h : Mk n k M) (hl : c = 100 → leastB n k M = none) {t : Nat} (ht : t < n) : m__law_left_told [mo c n k M, nI t] = .ok (.tup [.str 44, mo c (n - 1) k (insM k M (oth n t))]) none := by
  refine runF_ok (e := [some (mo c n k M), some (nI t), some (.tup [.str 44, mo c (n - 1) k (insM k M (oth n t))]), none]) ?_
  simp [-List.map_map, b__law_left_told, sTry, left_out_ok hc hn hk h hl ht]
theorem left_told_shape (hc : c = 62 ∨ c = 100) (hn : n ≤ 6) (hk : n < k) {t : Nat} (ht : t < n) : m__law_left_told [mo c n k M, nI t] = .ok (.tup [.str 89, nI n, nI k]) none := by
  refine runF_ok (e := [some (mo c n k M), some (nI t), some (.tup [.str 89, nI n, nI k]), none]) ?_
  have ni : ∀ x : Nat, noX (nI x) = true := fun _ => rfl
  have nt : noX (.tup [.str 51, .int 0]) = true := rfl
  have nt2 : noX (.tup [.str 89, nI n, nI k]) = true := rfl
  simp [-List.map_map, b__law_left_told, sTry, left_out_shape hc hn hk ht, catchM, runHd, giveE, wipeE, vXf, getF, cleanE, cleanF, ni, nt, nt2]
theorem left_told_wrong (hc : c = 62 ∨ c = 100) (hn : n ≤ 6) {x : D} (hx : x ∈ [nI n, .int (-1), .bl true, .non]) (nx : noX x = true) : m__law_left_told [mo c n k M, x] = .ok (.tup [.str 123, .str 90]) none := by
  refine runF_ok (e := [some (mo c n k M), some x, some (.tup [.str 123, .str 90]), none]) ?_
  have nt : noX (.tup [.str 51, .int 0]) = true := rfl
  have nt2 : noX (.tup [.str 123, .str 90]) = true := rfl
  simp [-List.map_map, b__law_left_told, sTry, left_out_wrong hc hn hx, catchM, runHd, giveE, wipeE, vXf, getF, cleanE, cleanF, nx, nt, nt2]
theorem kept_told_ok (hc : c = 62 ∨ c = 100) (hn : n ≤ 6) (hk : k ≤ n + 1) (h : Mk n k M) (hl : c = 100 → leastB n k M = none) (hC : C ∈ lots n m) (hm : k ≤ m + 1) (x : D) (hx : m_check_set [nI n, x] = .ok (tN C) none) : m__law_kept_told [mo c n k M, x] = .ok (.tup [.str 44, mo c m k (insM k M C)]) none := by
  refine runF_ok (e := [some (mo c n k M), some x, some (.tup [.str 44, mo c m k (insM k M C)]), none]) ?_
  simp [-List.map_map, b__law_kept_told, sTry, restricted_ok hc hn hk h hl hC hm x hx]
theorem kept_told_shape (hc : c = 62 ∨ c = 100) (hC : C ∈ lots n m) (hm : m + 1 < k) (x : D) (nx : noX x = true) (hx : m_check_set [nI n, x] = .ok (tN C) none) : m__law_kept_told [mo c n k M, x] = .ok (.tup [.str 89, nI m, nI k]) none := by
  refine runF_ok (e := [some (mo c n k M), some x, some (.tup [.str 89, nI m, nI k]), none]) ?_
  have ni : ∀ x : Nat, noX (nI x) = true := fun _ => rfl
  have nt : noX (.tup [.str 51, .int 0]) = true := rfl
  have nt2 : noX (.tup [.str 89, nI m, nI k]) = true := rfl
  simp [-List.map_map, b__law_kept_told, sTry, restricted_shape hc hC hm x hx, catchM, runHd, giveE, wipeE, vXf, getF, cleanE, cleanF, nx, ni, nt, nt2]
theorem kept_told_wrong (hc : c = 62 ∨ c = 100) {x : D} {i : Int} (nx : noX x = true) (hx : m_check_set [nI n, x] = .err 98 [88] [.int i] none) : m__law_kept_told [mo c n k M, x] = .ok (.tup [.str 27, .int i]) none := by
  refine runF_ok (e := [some (mo c n k M), some x, some (.tup [.str 27, .int i]), none]) ?_
  have nt : noX (.tup [.str 51, .int 0]) = true := rfl
  have nt2 : noX (.tup [.str 27, .int i]) = true := rfl
  simp [-List.map_map, b__law_kept_told, sTry, restricted_wrong hc hx, catchM, runHd, giveE, wipeE, vXf, getF, cleanE, cleanF, nx, nt, nt2]
/-! ### is, left, inside -/
theorem is_ok {n' k' : Nat} {M' : List (List Nat)} (hc : c = 62 ∨ c = 100) : m__law_is [mo c n' k' M', mo c n k M, nI n', nI k', .lst (M'.map tN)] = .ok (.bl true) none := by
  refine runF_ok (e := [some (mo c n' k' M'), some (mo c n k M), some (nI n'), some (nI k'), some (.lst (M'.map tN))]) ?_
  have e := (eqD_tNs M' M').1
  simp only [decide_true] at e
  rcases hc with rfl | rfl <;> simp [-List.map_map, b__law_is, e]
theorem renum_chk : ((List.range 7).all fun n => (List.range n).all fun t => (List.range n).all fun x => Nat.beq x t || Nat.beq (idx (oth n t) x) (if t < x then x - 1 else x)) = true := by kernel_rfl
theorem renum {t x : Nat} (hn : n ≤ 6) (ht : t < n) (hx : x < n) (h : x ≠ t) : idx (oth n t) x = if t < x then x - 1 else x := by
  have := all_range (all_range (all_range renum_chk (show n < 7 by omega)) ht) hx
  rcases Bool.or_eq_true_iff.mp this with z | z
  · exact absurd (Nat.eq_of_beq_eq_true z) h
  · exact Nat.eq_of_beq_eq_true z
theorem inC_oth {t : Nat} {l : List Nat} (hl : ∀ x ∈ l, x < n) : inC (oth n t) l = !decide (t ∈ l) := by
  unfold inC
  by_cases q : t ∈ l
  · have : ¬ (l.all fun x => (oth n t).contains x) = true := fun z => by
      have := List.all_eq_true.mp z t q
      simp [oth] at this
    simp only [q, decide_true, Bool.not_true]
    exact Bool.eq_false_iff.mpr this
  · simp only [q, decide_false, Bool.not_false]
    rw [List.all_eq_true]
    intro x hx
    have h1 := hl x hx
    have h2 : ¬ x = t := fun e => q (e ▸ hx)
    simp [oth, h1, h2]
theorem sort_ins : sortD (.lst ((insM k M C).map tN)) = some (.lst ((insM k M C).map tN)) := by
  have mk := ins_mk (k := k) (M := M) (C := C)
  have s1 := (sort_lots mk.okl).1
  rw [sortB_id sto_llt (mk.rsg.srt sto_llt)] at s1
  exact s1
theorem law_left_ok (hn : n ≤ 6) (hk : k ≤ 7) (h : Mk n k M) {t : Nat} (ht : t < n) : m__law_left [.lst (M.map tN), nI t] = .ok (.lst ((insM k M (oth n t)).map tN)) none := by
  have hM := h.len hn (by omega)
  have hC := oth_lot hn ht
  have low : ∀ l ∈ M, ∀ x ∈ l, x < n := fun l hl => ((lots_mem n k l).mp (h.sub l hl)).low
  have len : ∀ l ∈ M, l.length ≤ 6 := fun l hl => by
    have := ((lots_mem n k l).mp (h.sub l hl)).le
    omega
  have lc1 := lcM_t (i := 2) (fi := iSeq (vVar 0)) (cond := tB1 (op2 notInD (vVar 1) (vVar 2))) (elt := vVar 2) (env := [some (.lst (M.map tN)), some (nI t), none, none, none])
    tN (fun l => !decide (t ∈ l)) tN M (by simp [-List.map_map]) (by omega) (fun l _ => by simp [-List.map_map, (notIn_nats t l).2]) (fun l _ _ => by simp)
  have e1 : M.filter (fun l => !decide (t ∈ l)) = M.filter (inC (oth n t)) := List.filter_congr fun l hl => (inC_oth (low l hl)).symm
  rw [e1] at lc1
  have lc2 := lcM_map (i := 2) (fi := iSeq (vVar 3)) (elt := op1 tupleD (lcM 4 (iSeq (vVar 2)) (bTrue) (op2 subD (vVar 4) (op1 intD (op2 gtI (vVar 4) (vVar 1)))))) (env := [some (.lst (M.map tN)), some (nI t), none, some (.lst ((M.filter (inC (oth n t))).map tN)), none])
    tN (fun l => tN (l.map (idx (oth n t)))) (M.filter (inC (oth n t))) (by simp [-List.map_map]) (by
      have := List.length_filter_le (inC (oth n t)) M
      omega) (fun l hl => by
      obtain ⟨l1, l2⟩ := List.mem_filter.mp hl
      have lc3 := lcM_map (i := 4) (fi := iSeq (vVar 2)) (elt := op2 subD (vVar 4) (op1 intD (op2 gtI (vVar 4) (vVar 1)))) (env := [some (.lst (M.map tN)), some (nI t), some (tN l), some (.lst ((M.filter (inC (oth n t))).map tN)), none])
        nI (fun x => nI (idx (oth n t) x)) l (by simp) (by have := len l l1; omega) (fun x hx => by
          have hxn := low l l1 x hx
          have nt : x ≠ t := fun e => by
            have := inC_oth (n := n) (t := t) (low l l1)
            rw [l2] at this
            subst e
            simp [hx] at this
          have re := renum hn ht hxn nt
          by_cases q : t < x
          · rw [if_pos q] at re
            have q' : (t : Int) < x := by omega
            have e2 : ((x : Int) - 1) = ((idx (oth n t) x : Nat) : Int) := by omega
            simp [q', e2]
          · rw [if_neg q] at re
            have q' : ¬ (t : Int) < x := by omega
            simp [q', re])
      have e2 : D.tup (l.map fun x => nI (idx (oth n t) x)) = tN (l.map (idx (oth n t))) := by simp
      simp [-List.map_map, lc3, e2])
  have e3 : (M.filter (inC (oth n t))).map (fun l => tN (l.map (idx (oth n t)))) = (insM k M (oth n t)).map tN := by
    rw [← ins_eq hn hk hC (by omega) h, List.map_map]
    rfl
  rw [e3] at lc2
  refine runF_ok (e := [some (.lst (M.map tN)), some (nI t), none, some (.lst ((M.filter (inC (oth n t))).map tN)), none]) ?_
  simp [-List.map_map, b__law_left, lc1, lc2, sort_ins]
theorem find_nI (x : Nat) : ∀ C : List Nat, x ∈ C → (C.map nI).findIdx? (fun z => eqF 12 z (nI x)) = some (idx C x)
  | [], h => by cases h
  | a :: C, h => by
    rw [List.map_cons, List.findIdx?_cons]
    unfold idx
    rw [List.idxOf_cons]
    by_cases e : a = x
    · subst e
      rw [(eqF_nI 12 a a).mpr rfl]
      simp
    · have e1 : eqF 12 (nI a) (nI x) = false := Bool.eq_false_iff.mpr fun z => e ((eqF_nI 12 a x).mp z)
      have ih := find_nI x C (by
        rcases List.mem_cons.mp h with z | z
        · exact absurd z.symm e
        · exact z)
      unfold idx at ih
      rw [e1, ih, beq_eq_false_iff_ne.mpr e]
      rfl
theorem index_ok {x : Nat} (h : x ∈ C) : indexD (.lst (C.map nI)) (nI x) = some (nI (idx C x)) := by
  show (if (okF 12 (nI x) && (C.map nI).all (okF 12)) = true then ((C.map nI).findIdx? fun z => eqF 12 z (nI x)).map fun j => D.int (j : Nat) else none) = _
  rw [if_pos (by rw [okF_nI, all_map_true (okF_nI 12)]; rfl), find_nI x C h]
  rfl
theorem law_inside_ok (hn : n ≤ 6) (hk : k ≤ 7) (h : Mk n k M) (hC : C ∈ lots n m) : m__law_inside [.lst (M.map tN), .lst (C.map nI)] = .ok (.lst ((insM k M C).map tN)) none := by
  have hM := h.len hn (by omega)
  have hm := lot_le hC
  have len : ∀ l ∈ M, l.length ≤ 6 := fun l hl => by
    have := ((lots_mem n k l).mp (h.sub l hl)).le
    omega
  have lc1 := lcM_t (i := 2) (fi := iSeq (vVar 0)) (cond := tB1 (op2 eqD (op1 lenD (lcM 3 (iSeq (vVar 2)) (tB1 (op2 inD (vVar 3) (vVar 1))) (vVar 3))) (op1 lenD (vVar 2)))) (elt := vVar 2) (env := [some (.lst (M.map tN)), some (.lst (C.map nI)), none, none, none])
    tN (fun l => inC C l) tN M (by simp [-List.map_map]) (by omega) (fun l hl => by
      have lc := lcM_t (i := 3) (fi := iSeq (vVar 2)) (cond := tB1 (op2 inD (vVar 3) (vVar 1))) (elt := vVar 3) (env := [some (.lst (M.map tN)), some (.lst (C.map nI)), some (tN l), none, none])
        nI (fun x => decide (x ∈ C)) nI l (by simp) (by have := len l hl; omega) (fun x _ => by simp [(in_nats x C).1]) (fun x _ _ => by simp)
      have il := inC_len (C := C) l
      by_cases q : inC C l = true
      · have e1 : ((l.filter fun x => decide (x ∈ C)).length : Int) = l.length := by rw [il.mpr q]
        simp [-List.map_map, lc, e1, q]
      · have q' : inC C l = false := by simpa using q
        have e1 : ¬ ((l.filter fun x => decide (x ∈ C)).length : Int) = l.length := fun z => q (il.mp (by omega))
        simp [-List.map_map, lc, e1, q']) (fun l _ _ => by simp)
  have lc2 := lcM_map (i := 2) (fi := iSeq (vVar 4)) (elt := op1 tupleD (lcM 3 (iSeq (vVar 2)) (bTrue) (vIndex (vVar 1) (vVar 3)))) (env := [some (.lst (M.map tN)), some (.lst (C.map nI)), none, none, some (.lst ((M.filter (inC C)).map tN))])
    tN (fun l => tN (l.map (idx C))) (M.filter (inC C)) (by simp [-List.map_map]) (by
      have := List.length_filter_le (inC C) M
      omega) (fun l hl => by
      obtain ⟨l1, l2⟩ := List.mem_filter.mp hl
      have lc3 := lcM_map (i := 3) (fi := iSeq (vVar 2)) (elt := vIndex (vVar 1) (vVar 3)) (env := [some (.lst (M.map tN)), some (.lst (C.map nI)), some (tN l), none, some (.lst ((M.filter (inC C)).map tN))])
        nI (fun x => nI (idx C x)) l (by simp) (by have := len l l1; omega) (fun x hx => by
          have hx' : x ∈ C := by
            have := List.all_eq_true.mp l2 x hx
            simpa using this
          simp [vIndex, index_ok hx'])
      have e2 : D.tup (l.map fun x => nI (idx C x)) = tN (l.map (idx C)) := by simp
      simp [-List.map_map, lc3, e2])
  have e3 : (M.filter (inC C)).map (fun l => tN (l.map (idx C))) = (insM k M C).map tN := by
    rw [← ins_eq hn hk hC hm h, List.map_map]
    rfl
  rw [e3] at lc2
  refine runF_ok (e := [some (.lst (M.map tN)), some (.lst (C.map nI)), none, none, some (.lst ((M.filter (inC C)).map tN))]) ?_
  simp [-List.map_map, b__law_inside, lc1, lc2, sort_ins]
end
end KX

set_option Elab.async false
set_option linter.all false
set_option maxRecDepth 100000
set_option maxHeartbeats 4000000
namespace KX
open DL
/-! k03: the law -/
def isE (r : Rs) (c : Nat) (i : Int) : Bool := match r with
  | .err c' [88] [.int j] none => c' == c && decide (j = i)
  | _ => false
theorem isE_eq {r : Rs} {c : Nat} {i : Int} (h : isE r c i = true) : r = .err c [88] [.int i] none := by
  unfold isE at h
  split at h
  · obtain ⟨h1, h2⟩ := Bool.and_eq_true_iff.mp h
    rw [beq_iff_eq.mp h1, of_decide_eq_true h2]
  · cases h
theorem set2_chk : ((List.range 7).all fun n => (isE (m_check_set [nI n, .lst [nI n]]) 98 0 && isE (m_check_set [nI n, .int 3]) 98 (-1)) && (List.range 8).all fun k => (lots n k).all fun l => okT (m_check_set [nI n, tN l]) l && okT (m_check_set [nI n, .lst (l.map nI)]) l) = true := by kernel_rfl
theorem set2_ok {n k : Nat} {l : List Nat} (hn : n ≤ 6) (hk : k ≤ 7) (h : l ∈ lots n k) : m_check_set [nI n, tN l] = .ok (tN l) none ∧ m_check_set [nI n, .lst (l.map nI)] = .ok (tN l) none := by
  have := List.all_eq_true.mp (all_range (Bool.and_eq_true_iff.mp (all_range set2_chk (show n < 7 by omega))).2 (show k < 8 by omega)) l h
  obtain ⟨h1, h2⟩ := Bool.and_eq_true_iff.mp this
  exact ⟨okT_eq h1, okT_eq h2⟩
theorem set_bad {n : Nat} (hn : n ≤ 6) : m_check_set [nI n, .lst [nI n]] = .err 98 [88] [.int 0] none ∧ m_check_set [nI n, .int 3] = .err 98 [88] [.int (-1)] none := by
  obtain ⟨h1, h2⟩ := Bool.and_eq_true_iff.mp (Bool.and_eq_true_iff.mp (all_range set2_chk (show n < 7 by omega))).1
  exact ⟨isE_eq h1, isE_eq h2⟩
theorem okF_bits (bs : List Bool) : okF 12 (.tup (bs.map bI)) = true := all_map_true (fun b => by cases b <;> rfl) bs
theorem eqF_bits (a b : List Bool) : eqF 12 (.tup (a.map bI)) (.tup (b.map bI)) = true ↔ a = b := allF_map (fun a b => by cases a <;> cases b <;> decide) a b
theorem range_lot_chk : ((List.range 7).all fun n => (List.range (n + 1)).all fun m => (lots n m).contains (List.range m)) = true := by kernel_rfl
theorem range_lot {n m : Nat} (hn : n ≤ 6) (hm : m ≤ n) : List.range m ∈ lots n m := by
  have := all_range (all_range range_lot_chk (show n < 7 by omega)) (show m < n + 1 by omega)
  simpa using this
section
variable {c n k m : Nat} {M : List (List Nat)} {C : List Nat}
theorem nS (k : Nat) : nI (k + 1) = .int ((k : Int) + 1) := id rfl
theorem packet_marks_of (hc : c = 62 ∨ c = 100) (hn : n ≤ 6) (hk : k ≤ n + 1) {y : List Nat} (hy : y ∈ lots n (k + 1)) {x : D} (hx : m_check_set [nI n, x] = .ok (tN y) none) :
    m_packet_marks [mo c n k M, x] = .ok (.tup ((bitsOf M y).map bI)) none := by
  have Ly := (lots_mem n (k + 1) y).mp hy
  have hl := Ly.le
  have hk2 : k + 1 ≤ n := by rw [← Ly.len]; exact hl
  refine runF_ok (e := [some (mo c n k M), some x, some (tN y), none]) ?_
  have lc := lcM_map (i := 3) (fi := iSeq (cCall 1 m__packet (aCons (vVar 2) (aNil)))) (elt := iff_ (tB1 (op2 inD (vVar 3) (op1 (fldD ocs 122) (vVar 0)))) (vC (.int 1)) (vC (.int 0))) (env := [some (mo c n k M), some x, some (tN y), none])
    tN (fun l => bI (decide (l ∈ M))) (pk y) (by simp [-List.map_map, (pk_ok (y := y) (by omega)).1]) (by rw [pk_len]; omega) (fun l hl => by
      by_cases q : l ∈ M <;> simp [-List.map_reverse, hc, (in_lots l M).2, q, bI])
  have lc' : (pk y).map (fun l => bI (decide (l ∈ M))) = (bitsOf M y).map bI := by unfold bitsOf; rw [List.map_map]; rfl
  rw [lc'] at lc
  simp [-List.map_map, b_packet_marks, hc, hx, lc, Ly.len]
/-! ### all_left -/
def keptF (n k : Nat) (M : List (List Nat)) (pre : List Nat) : Bool := pre.all fun t => (leastB (n - 1) k (insM k M (oth n t))).isNone
theorem all_left_big (hc : c = 62 ∨ c = 100) (hn : n ≤ 6) (hk : n < k) (g : Bool) : m__law_all_left [mo c n k M, .lst (M.map tN), .bl g] = .ok (.bl true) none := by
  have kn : (n : Int) < k := by omega
  have loop := for_inv (i := 6) (body := L__law_all_left_6) nI (fun pre e => ∃ x6 x7, e = [some (mo c n k M), some (.lst (M.map tN)), some (.bl g), some (nI n), some (nI k), some (.bl true), x6, x7]) (List.range n) [] [some (mo c n k M), some (.lst (M.map tN)), some (.bl g), some (nI n), some (nI k), some (.bl true), none, none] ⟨_, _, rfl⟩ (by
    rintro pre' t post hp e ⟨x6, x7, rfl⟩
    have ht : t < n := List.mem_range.mp (by rw [← List.nil_append (List.range _), hp]; simp)
    refine ⟨[some (mo c n k M), some (.lst (M.map tN)), some (.bl g), some (nI n), some (nI k), some (.bl true), some (nI t), some (.tup [.str 89, nI n, nI k])], ?_, _, _, rfl⟩
    have e1 := (eq_sii 89 rfl n k).2
    simp [-List.map_map, L__law_all_left_6, left_told_shape (M := M) hc hn hk ht, kn, e1])
  obtain ⟨e', h1, x6, x7, rfl⟩ := loop
  refine runF_ok (e := [some (mo c n k M), some (.lst (M.map tN)), some (.bl g), some (nI n), some (nI k), some (.bl true), x6, x7]) ?_
  simp [-List.map_map, b__law_all_left, hc, rng1_of (n := n) (by omega), h1, kn]
theorem all_left_ok (hc : c = 62 ∨ c = 100) (hn : n ≤ 6) (hk : k ≤ n + 1) (h : Mk n k M) (hl : c = 100 → leastB n k M = none) : m__law_all_left [mo c n k M, .lst (M.map tN), .bl (leastB n k M).isNone] = .ok (.bl true) none := by
  by_cases hkn : n < k
  · exact all_left_big hc hn hkn _
  have kn : ¬ (n : Int) < k := by omega
  have s44 := (eq_str 44 rfl).2
  have loop := for_inv (i := 6) (body := L__law_all_left_6) nI (fun pre e => ∃ x6 x7, e = [some (mo c n k M), some (.lst (M.map tN)), some (.bl (leastB n k M).isNone), some (nI n), some (nI k), some (.bl (keptF n k M pre)), x6, x7]) (List.range n) [] [some (mo c n k M), some (.lst (M.map tN)), some (.bl (leastB n k M).isNone), some (nI n), some (nI k), some (.bl true), none, none] ⟨_, _, rfl⟩ (by
    rintro pre' t post hp e ⟨x6, x7, rfl⟩
    have ht : t < n := List.mem_range.mp (by rw [← List.nil_append (List.range _), hp]; simp)
    have hC := oth_lot hn ht
    have hm := lot_len hC
    have mk' := ins_mk (k := k) (M := M) (C := oth n t)
    rw [hm] at mk'
    have ke := keeps_ok hc mk' (by omega) (by omega)
    have lt := left_told_ok hc hn (show k ≤ n by omega) h hl ht
    have ll := law_left_ok hn (by omega) h ht
    have io := is_ok (n := n) (k := k) (M := M) (n' := n - 1) (k' := k) (M' := insM k M (oth n t)) hc
    refine ⟨[some (mo c n k M), some (.lst (M.map tN)), some (.bl (leastB n k M).isNone), some (nI n), some (nI k), some (.bl (keptF n k M (pre' ++ [t]))), some (nI t), some (.tup [.str 44, mo c (n - 1) k (insM k M (oth n t))])], ?_, _, _, rfl⟩
    have ek : keptF n k M (pre' ++ [t]) = (keptF n k M pre' && (leastB (n - 1) k (insM k M (oth n t))).isNone) := by
      unfold keptF
      rw [List.all_append, List.all_cons, List.all_nil, Bool.and_true]
    rw [ek]
    cases q : keptF n k M pre' with
    | true => simp [-List.map_map, L__law_all_left_6, lt, kn, ix_0, ix_1, s44, ll, pred_nI (show 1 ≤ n by omega), io, ke]
    | false => simp [-List.map_map, L__law_all_left_6, lt, kn, ix_0, ix_1, s44, ll, pred_nI (show 1 ≤ n by omega), io])
  obtain ⟨e', h1, x6, x7, rfl⟩ := loop
  rw [List.nil_append] at h1
  refine runF_ok (e := [some (mo c n k M), some (.lst (M.map tN)), some (.bl (leastB n k M).isNone), some (nI n), some (nI k), some (.bl (keptF n k M (List.range n))), x6, x7]) ?_
  have kt : n < k + 2 → keptF n k M (List.range n) = true := fun hlt => by
    unfold keptF
    rw [List.all_eq_true]
    intro t ht
    have : leastB (n - 1) k (insM k M (oth n t)) = none := (least_none (by omega)).mpr fun y hy => by
      have := lot_le hy
      have := List.mem_range.mp ht
      omega
    rw [this]
    rfl
  by_cases hb : k + 2 ≤ n
  · have ke : keptF n k M (List.range n) = (leastB n k M).isNone := by
      cases q : leastB n k M with
      | none =>
        unfold keptF
        rw [List.all_eq_true.mpr]
        · rfl
        · intro t ht
          have ht := List.mem_range.mp ht
          have := ins_keep hn (oth_lot hn ht) q
          rw [lot_len (oth_lot hn ht)] at this
          rw [this]
          rfl
      | some b =>
        cases q2 : keptF n k M (List.range n) with
        | false => rfl
        | true =>
          have := left_all (M := M) hn hb fun t ht => by
            have := List.all_eq_true.mp q2 t (List.mem_range.mpr ht)
            exact Option.isNone_iff_eq_none.mp this
          rw [q] at this
          cases this
    have n1 : ¬ (n : Int) = (k : Int) + 1 := by omega
    have n2 : (k : Int) + 2 ≤ n := by omega
    rw [ke] at h1 ⊢
    cases q : (leastB n k M).isNone with
    | true =>
      rw [q] at h1
      simp [-List.map_map, b__law_all_left, hc, rng1_of (n := n) (by omega), h1, kn, n1, n2]
    | false =>
      rw [q] at h1
      simp [-List.map_map, b__law_all_left, hc, rng1_of (n := n) (by omega), h1, kn, n1, n2]
  · have n2 : ¬ (k : Int) + 2 ≤ n := by omega
    rw [kt (by omega)] at h1 ⊢
    by_cases n1 : (n : Int) = (k : Int) + 1
    · have q1 : ¬ ((k : Int) + 1 < k) := by omega
      have q2 : ¬ ((k : Int) + 2 ≤ k + 1) := by omega
      have r1 := rng1_of (n := n) (by omega)
      rw [n1] at r1
      obtain rfl : n = k + 1 := by omega
      have kn2 : ¬ (((k + 1 : Nat) : Int) < k) := by omega
      have n3 : (((k + 1 : Nat) : Int) == (k : Int) + 1) = true := by
        rw [beq_iff_eq]
        omega
      have n4 : ¬ ((k : Int) + 2 ≤ ((k + 1 : Nat) : Int)) := by omega
      have r2 := rng1_of (n := k + 1) (by omega)
      simp [-List.map_map, -Int.natCast_add, b__law_all_left, hc, r2, h1, kn2, n3, n4]
    · simp [-List.map_map, b__law_all_left, hc, rng1_of (n := n) (by omega), h1, kn, n1, n2]
/-! ### share -/
theorem oEq_ok (hc : c = 62 ∨ c = 100) : oEq t_eq (mo c n k M) (mo c n k M) = some (.bl true) := by
  have e := eq_ok (n := n) (k := k) (M := M) hc hc
  rcases hc with rfl | rfl
  · show (match m_Marks___eq__ [mo 62 n k M, mo 62 n k M] with
      | .ok d _ => some d
      | _ => none) = _
    rw [e]
  · show (match m_Marks___eq__ [mo 100 n k M, mo 100 n k M] with
      | .ok d _ => some d
      | _ => none) = _
    rw [e]
theorem tupRg_ok {m : Nat} (h : m < 100000) : tupRg [nI m] = some (tN (List.range m)) := by
  show (if (decide (0 ≤ (m : Int)) && decide ((m : Int) < 100000)) = true then some (D.tup ((List.range' 0 (m : Int).toNat).map fun (i : Nat) => D.int (0 + i))) else none) = _
  rw [if_pos (by rw [decide_eq_true (show 0 ≤ (m : Int) by omega), decide_eq_true (show (m : Int) < 100000 by omega)]; rfl), Int.toNat_natCast, List.range_eq_range']
  congr 2
  apply List.map_congr_left
  intro j _
  show D.int (0 + (j : Int)) = D.int j
  congr 1
  omega
end
end KX

set_option Elab.async false
set_option linter.all false
set_option maxRecDepth 100000
set_option maxHeartbeats 4000000
namespace KX
open DL
section
variable {c n k m : Nat} {M : List (List Nat)} {C : List Nat}
theorem share_ok (hc : c = 62 ∨ c = 100) (hn : n ≤ 6) (hk : k ≤ n + 1) (h : Mk n k M) (hl : c = 100 → leastB n k M = none) (hC : C ∈ lots n m) : m__law_share [mo c n k M, .lst (M.map tN), tN C] = .ok (.bl true) none := by
  have hm := lot_le hC
  have hlen := lot_len hC
  have st : m_check_set [nI n, .lst (C.map nI).reverse] = .ok (tN C) none := by
    have := set_ok hn (show m ≤ 7 by omega) hC
    rw [List.map_reverse] at this
    exact this
  by_cases hkm : m + 1 < k
  · have nx : noX (.lst (C.map nI).reverse) = true := by
      rw [← List.map_reverse]
      exact noX_nI _
    have kt := kept_told_shape (M := M) (n := n) hc hC hkm _ nx st
    have e1 : (m : Int) < (k : Int) - 1 := by omega
    have e2 := (eq_sii 89 rfl m k).1
    refine runF_ok (e := [some (mo c n k M), some (.lst (M.map tN)), some (tN C), some (nI n), some (nI k), some (.tup [.str 89, nI m, nI k]), none, none]) ?_
    simp [-List.map_map, -List.map_reverse, b__law_share, hc, kt, hlen, e1, e2]
  · have kt := kept_told_ok hc hn hk h hl hC (show k ≤ m + 1 by omega) _ st
    have e1 : ¬ (m : Int) < (k : Int) - 1 := by omega
    have s44 := (eq_str 44 rfl).2
    have li := law_inside_ok hn (show k ≤ 7 by omega) h hC
    have io := is_ok (n := n) (k := k) (M := M) (n' := m) (k' := k) (M' := insM k M C) hc
    have ll := law_lots_ok m (k + 1) (by omega) (by omega)
    have loop := for_inv (i := 6) (body := L__law_share_6) tN (fun pre e => ∃ x6, e = [some (mo c n k M), some (.lst (M.map tN)), some (tN C), some (nI n), some (nI k), some (.tup [.str 44, mo c m k (insM k M C)]), x6, none]) (lots m (k + 1)) [] [some (mo c n k M), some (.lst (M.map tN)), some (tN C), some (nI n), some (nI k), some (.tup [.str 44, mo c m k (insM k M C)]), none, none] ⟨_, rfl⟩ (by
      rintro pre' y post hp e ⟨x6, rfl⟩
      have hy : y ∈ lots m (k + 1) := by rw [← List.nil_append (lots m (k + 1)), hp]; simp
      have hyl := lot_le hy
      refine ⟨[some (mo c n k M), some (.lst (M.map tN)), some (tN C), some (nI n), some (nI k), some (.tup [.str 44, mo c m k (insM k M C)]), some (tN y), none], ?_, _, rfl⟩
      have hyC : y ∈ lots C.length (k + 1) := by rw [hlen]; exact hy
      have p1 := packet_marks_of (M := insM k M C) hc (show m ≤ 6 by omega) (show k ≤ m + 1 by omega) hy (set2_ok (show m ≤ 6 by omega) (by omega) hy).1
      rw [ins_bits (by omega) (by omega) hyC] at p1
      have he := (ins_eqs hn (show k + 1 ≤ 7 by omega) hC hm).2.2 y hyC
      have p2 := packet_marks_of (M := M) hc hn hk he (set2_ok hn (by omega) he).2
      have low := ((lots_mem m (k + 1) y).mp hy).low
      have lc := lcM_map (i := 7) (fi := iSeq (vVar 6)) (elt := op2 ixD (vVar 2) (vVar 7)) (env := [some (mo c n k M), some (.lst (M.map tN)), some (tN C), some (nI n), some (nI k), some (.tup [.str 44, mo c m k (insM k M C)]), some (tN y), none])
        nI (fun i => nI (C.getD i 0)) y (by simp) (by have := lot_len hy; omega) (fun i hi => by
          have := low i hi
          simp [getN (ts := C) (k := i) (by omega)])
      have e2 : y.map (fun i => nI (C.getD i 0)) = (emb C y).map nI := by unfold emb; rw [List.map_map]; rfl
      rw [e2] at lc
      have eb := (eq_self (okF_bits (bitsOf M (emb C y))) ((eqF_bits _ _).mpr rfl)).2
      simp [-List.map_map, L__law_share_6, ix_1, p1, lc, p2, eb])
    obtain ⟨e', h1, x6, rfl⟩ := loop
    have hR := range_lot hn (Nat.le_refl n)
    have kr := kept_told_ok hc hn hk h hl hR hk _ (set2_ok hn (by omega) hR).2
    rw [ins_range h] at kr
    have kw := kept_told_wrong (M := M) (k := k) hc (show noX (.lst [nI n]) = true from rfl) (set_bad hn).1
    have lr := lstRg_ok (m := n) (by omega)
    have e3 := (eq_si 27 rfl 0).1
    refine runF_ok (e := [some (mo c n k M), some (.lst (M.map tN)), some (tN C), some (nI n), some (nI k), some (.tup [.str 44, mo c m k (insM k M C)]), x6, none]) ?_
    have q1 : cCall 2 m__law_kept_told (aCons (vVar 0) (aCons (opN lstRg (aCons (vVar 3) aNil)) (aNil))) [some (mo c n k M), some (.lst (M.map tN)), some (tN C), some (nI n), some (nI k), some (.tup [.str 44, mo c m k (insM k M C)]), x6, none] = .ok (.tup [.str 44, mo c n k M]) [some (mo c n k M), some (.lst (M.map tN)), some (tN C), some (nI n), some (nI k), some (.tup [.str 44, mo c m k (insM k M C)]), x6, none] := by
      simp [-List.map_map, lr, kr]
    have q2 : cCall 2 m__law_kept_told (aCons (vVar 0) (aCons (opN mkL (aCons (vVar 3) (aNil))) (aNil))) [some (mo c n k M), some (.lst (M.map tN)), some (tN C), some (nI n), some (nI k), some (.tup [.str 44, mo c m k (insM k M C)]), x6, none] = .ok (.tup [.str 27, .int 0]) [some (mo c n k M), some (.lst (M.map tN)), some (tN C), some (nI n), some (nI k), some (.tup [.str 44, mo c m k (insM k M C)]), x6, none] := by
      simp [-List.map_map, kw]
    have e27 : eqD (.tup [.str 27, .int 0]) (.tup [.str 27, .int 0]) = some (.bl true) := e3
    have q3 := oEq_ok (n := n) (k := k) (M := M) hc
    have fin : sRet (vAnd (op2 (oEq t_eq) (op2 ixD (cCall 2 m__law_kept_told (aCons (vVar 0) (aCons (opN lstRg (aCons (vVar 3) aNil)) (aNil)))) (vC (.int 1))) (vVar 0)) (op2 eqD (cCall 2 m__law_kept_told (aCons (vVar 0) (aCons (opN mkL (aCons (vVar 3) (aNil))) (aNil)))) (opN mkT (aCons (vC (.str 27)) (aCons (vC (.int 0)) (aNil)))))) [some (mo c n k M), some (.lst (M.map tN)), some (tN C), some (nI n), some (nI k), some (.tup [.str 44, mo c m k (insM k M C)]), x6, none] = .ok (.rt (.bl true)) [some (mo c n k M), some (.lst (M.map tN)), some (tN C), some (nI n), some (nI k), some (.tup [.str 44, mo c m k (insM k M C)]), x6, none] := by
      rw [sRet_ap, vAnd_ap, op2_ap, op2_ap, q1]
      simp only [bind_ok, vC_ap, of_some, ix_1, vVar_ap, List.getElem?_cons_zero, q3]
      rw [op2_ap, q2]
      simp [e27]
    have p : iSeq (cCall 2 m__law_lots (aCons (op1 lenD (vVar 2)) (aCons (op2 addD (vVar 4) (vC (.int 1))) (aNil)))) [some (mo c n k M), some (.lst (M.map tN)), some (tN C), some (nI n), some (nI k), some (.tup [.str 44, mo c m k (insM k M C)]), none, none] = .ok ((lots m (k + 1)).map tN) [some (mo c n k M), some (.lst (M.map tN)), some (tN C), some (nI n), some (nI k), some (.tup [.str 44, mo c m k (insM k M C)]), none, none] := by
      have a1 : addD (nI k) (.int 1) = some (nI (k + 1)) := id rfl
      have a2 : lenD (tN C) = some (nI m) := by simp [hlen]
      simp only [iSeq_ap, cCall_ap, aCons_ap, op1_ap, op2_ap, vVar_ap, vC_ap, aNil_ap, bind_ok, of_some, List.getElem?_cons_succ, List.getElem?_cons_zero, a1, a2]
      rw [ll]
      simp only [List.length_cons, List.length_nil, if_true, bind_ok, of_some]
    unfold b__law_share
    generalize (sRet (vAnd (op2 (oEq t_eq) (op2 ixD (cCall 2 m__law_kept_told (aCons (vVar 0) (aCons (opN lstRg (aCons (vVar 3) aNil)) (aNil)))) (vC (.int 1))) (vVar 0)) (op2 eqD (cCall 2 m__law_kept_told (aCons (vVar 0) (aCons (opN mkL (aCons (vVar 3) (aNil))) (aNil)))) (opN mkT (aCons (vC (.str 27)) (aCons (vC (.int 0)) (aNil))))))) = rest at fin ⊢
    simp [-List.map_map, -List.map_reverse, -iSeq_ap, hc, kt, hlen, e1, ix_0, ix_1, s44, li, io, p, h1, fin]
/-! ### the drawn set -/
theorem drawn_ok (hn : n ≤ 6) (l : List Int) : ∃ C l', m__law_drawn_set [lI l, nI n] = .ok (tN C) (some (lI l')) ∧ C ∈ lots n C.length := by
  have key := lcM_inv (i := 2) (cond := tB1 (op2 eqD (cCallIo 2 0 m__law_take (aCons (vC (.int 2)) (aNil))) (vC (.int 1)))) (elt := vVar 2) (fi := iRng rng1 (aCons (vVar 1) (aNil)))
    nI (fun pre acc e => ∃ (l : List Int) (S : List Nat), e = [some (lI l), some (nI n), none] ∧ acc = S.map nI ∧ S.Sublist pre) (List.range n) [some (lI l), some (nI n), none] [some (lI l), some (nI n), none] (by simp [rng1_of (n := n) (by omega)]) ⟨_, [], rfl, rfl, List.Sublist.refl _⟩ (by simp; omega) ?_
  · obtain ⟨out, e', h1, l', S, h2, h3, h4⟩ := key
    subst h2 h3
    refine ⟨S, l', runF_ok (e := [some (lI l'), some (nI n), none]) ?_, (lots_mem n S.length S).mpr ⟨List.pairwise_lt_range.sublist h4, fun x hx => List.mem_range.mp (h4.subset hx), rfl⟩⟩
    simp [-List.map_map, b__law_drawn_set]
    rw [h1]
    simp
  · rintro pre' y post acc' e hp ⟨l', S, rfl, rfl, hS⟩
    have t2 : m__law_take [lI l', .int 2] = _ := take_ok l' 2
    refine ⟨decide (((tk l' 2 : Nat) : Int) = 1), [some (lI (tr l' 2)), some (nI n), some (nI y)], ?_, fun _ => ⟨nI y, [some (lI (tr l' 2)), some (nI n), some (nI y)], by simp, tr l' 2, S ++ [y], rfl, by rw [List.map_append]; rfl, hS.append (List.Sublist.refl _)⟩, fun _ => ⟨tr l' 2, S, rfl, rfl, hS.trans (List.sublist_append_left _ _)⟩⟩
    simp [-List.map_map, t2]
    rfl
end
/-! ### the law -/
def lawT : DL.M Fl := sSeq (sSet 3 (op2 ixD (vVar 2) (vC (.int 0)))) (sSeq (sSet 4 (op2 ixD (vVar 2) (vC (.int 1)))) (sSeq (sSet 5 (cCallIo 3 1 m__law_marks (aCons (vVar 3) (aCons (vVar 4) (aNil))))) (sSeq (sSet 6 (cCall 3 m__law_keeps (aCons (vVar 3) (aCons (vVar 4) (aCons (vVar 5) (aNil)))))) (sSeq (sSet 7 (cMake 62 4 m_Marks___init__ (aCons (vVar 3) (aCons (vVar 4) (aCons (op1 listD (vVar 5)) (aNil)))))) (sSeq (sIf (bAnd (tTru (vVar 6)) (tB1 (op2 eqD (cCallIo 2 1 m__law_take (aCons (vC (.int 2)) (aNil))) (vC (.int 1))))) (sSet 7 (cMake 100 4 m_Family___init__ (aCons (vVar 3) (aCons (vVar 4) (aCons (op1 listD (vVar 5)) (aNil)))))) (sNx)) (sSeq (sIf (bNot (tB1 (cCall 3 m__law_all_left (aCons (vVar 7) (aCons (vVar 5) (aCons (vVar 6) (aNil))))))) (sRet (vC (.bl false))) (sNx)) (sSeq (sIf (bNot (tB1 (cCall 3 m__law_share (aCons (vVar 7) (aCons (vVar 5) (aCons (cCallIo 2 1 m__law_drawn_set (aCons (vVar 3) (aNil))) (aNil))))))) (sRet (vC (.bl false))) (sNx)) (sSeq (sIf (bNot (tB1 (cCall 3 m__law_share (aCons (vVar 7) (aCons (vVar 5) (aCons (opN tupRg (aCons (opN min2D (aCons (vVar 3) (aCons (op2 addD (vVar 4) (vC (.int 1))) (aNil)))) aNil)) (aNil))))))) (sRet (vC (.bl false))) (sNx)) (sSeq (sFor 8 (iSeq (opN mkL (aCons (vVar 3) (aCons (op1 negD (vC (.int 1))) (aCons (vC (.bl true)) (aCons (vC .non) (aNil))))))) (L_law_8)) (sSeq (sIf (tB1 (op2 neD (cCall 2 m__law_kept_told (aCons (vVar 7) (aCons (vC (.int 3)) (aNil)))) (opN mkT (aCons (vC (.str 27)) (aCons (op1 negD (vC (.int 1))) (aNil)))))) (sRet (vC (.bl false))) (sNx)) (sSeq (sSet 9 (cCall 3 m__law_others (aCons (vVar 3) (aCons (vVar 4) (aCons (vVar 5) (aNil)))))) (sRet (vAnd (cCall 5 m__law_is (aCons (cMeth 1 167 mt_contrary (vVar 7) aNil) (aCons (vVar 7) (aCons (vVar 3) (aCons (vVar 4) (aCons (vVar 9) (aNil))))))) (op2 eqD (op1 (fldD ocs 122) (vVar 7)) (op1 tupleD (vVar 5))))))))))))))))
theorem law_eq : b_law = sSeq (sSet 1 (cCall 1 m__law_draws (aCons (vVar 0) (aNil)))) (sSeq (sSet 2 (cCallIo 1 1 m__law_shape (aNil))) (sSeq (sIf (tB1 (op2 eqD (cCallIo 2 1 m__law_take (aCons (vC (.int 4)) (aNil))) (vC (.int 3)))) (sSet 2 (cCallIo 1 1 m__law_edge (aNil))) (sNx)) (lawT))) := rfl
theorem mkL_4 {a b c d : D} : mkL [a, b, c, d] = some (.lst [a, b, c, d]) := id rfl
end KX

set_option Elab.async false
set_option linter.all false
set_option maxRecDepth 100000
set_option maxHeartbeats 4000000
namespace KX
open DL
def lawV : DL.M Fl := sSeq (sFor 8 (iSeq (opN mkL (aCons (vVar 3) (aCons (op1 negD (vC (.int 1))) (aCons (vC (.bl true)) (aCons (vC .non) (aNil))))))) (L_law_8)) (sSeq (sIf (tB1 (op2 neD (cCall 2 m__law_kept_told (aCons (vVar 7) (aCons (vC (.int 3)) (aNil)))) (opN mkT (aCons (vC (.str 27)) (aCons (op1 negD (vC (.int 1))) (aNil)))))) (sRet (vC (.bl false))) (sNx)) (sSeq (sSet 9 (cCall 3 m__law_others (aCons (vVar 3) (aCons (vVar 4) (aCons (vVar 5) (aNil)))))) (sRet (vAnd (cCall 5 m__law_is (aCons (cMeth 1 167 mt_contrary (vVar 7) aNil) (aCons (vVar 7) (aCons (vVar 3) (aCons (vVar 4) (aCons (vVar 9) (aNil))))))) (op2 eqD (op1 (fldD ocs 122) (vVar 7)) (op1 tupleD (vVar 5)))))))
def lawU : DL.M Fl := sSeq (sIf (bNot (tB1 (cCall 3 m__law_all_left (aCons (vVar 7) (aCons (vVar 5) (aCons (vVar 6) (aNil))))))) (sRet (vC (.bl false))) (sNx)) (sSeq (sIf (bNot (tB1 (cCall 3 m__law_share (aCons (vVar 7) (aCons (vVar 5) (aCons (cCallIo 2 1 m__law_drawn_set (aCons (vVar 3) (aNil))) (aNil))))))) (sRet (vC (.bl false))) (sNx)) (sSeq (sIf (bNot (tB1 (cCall 3 m__law_share (aCons (vVar 7) (aCons (vVar 5) (aCons (opN tupRg (aCons (opN min2D (aCons (vVar 3) (aCons (op2 addD (vVar 4) (vC (.int 1))) (aNil)))) aNil)) (aNil))))))) (sRet (vC (.bl false))) (sNx)) (lawV)))
theorem lawT_eq : lawT = sSeq (sSet 3 (op2 ixD (vVar 2) (vC (.int 0)))) (sSeq (sSet 4 (op2 ixD (vVar 2) (vC (.int 1)))) (sSeq (sSet 5 (cCallIo 3 1 m__law_marks (aCons (vVar 3) (aCons (vVar 4) (aNil))))) (sSeq (sSet 6 (cCall 3 m__law_keeps (aCons (vVar 3) (aCons (vVar 4) (aCons (vVar 5) (aNil)))))) (sSeq (sSet 7 (cMake 62 4 m_Marks___init__ (aCons (vVar 3) (aCons (vVar 4) (aCons (op1 listD (vVar 5)) (aNil)))))) (sSeq (sIf (bAnd (tTru (vVar 6)) (tB1 (op2 eqD (cCallIo 2 1 m__law_take (aCons (vC (.int 2)) (aNil))) (vC (.int 1))))) (sSet 7 (cMake 100 4 m_Family___init__ (aCons (vVar 3) (aCons (vVar 4) (aCons (op1 listD (vVar 5)) (aNil)))))) (sNx)) (lawU)))))) := rfl
section
variable {c n k : Nat} {M : List (List Nat)}
theorem lawV_ok (ns l : List Int) (hc : c = 62 ∨ c = 100) (hn : n ≤ 6) (hk : k ≤ n + 1) (h : Mk n k M) (hl : c = 100 → leastB n k M = none) (g : Bool) : ∃ e, lawV [some (.scr ns), some (lI l), some (.tup [nI n, nI k]), some (nI n), some (nI k), some (.lst (M.map tN)), some (.bl g), some (mo c n k M), none, none] = .ok (.rt (.bl true)) e := by
  have w1 := left_told_wrong (k := k) (M := M) hc hn (x := nI n) (by simp) rfl
  have w2 := left_told_wrong (k := k) (M := M) hc hn (x := .int (-1)) (by simp) rfl
  have w3 := left_told_wrong (k := k) (M := M) hc hn (x := .bl true) (by simp) rfl
  have w4 := left_told_wrong (k := k) (M := M) hc hn (x := .non) (by simp) rfl
  have e1 := (eq_ss 123 90 rfl rfl).2
  have kw := kept_told_wrong (M := M) (k := k) hc (show noX (.int 3) = true from rfl) (set_bad hn).2
  have e2 := (eq_si 27 rfl (-1)).2
  have ot := others_ok hn (show k ≤ n + 2 by omega) M
  obtain ⟨f, hf, hf2⟩ := contrary_ok hc hn hk h hl
  have io := is_ok (n := n) (k := k) (M := M) (n' := n) (k' := k) (M' := conM n k M) hc
  have cm : ∀ env : En, env[7]? = some (some (mo c n k M)) → cMeth 1 167 mt_contrary (vVar 7) aNil env = .ok (mo c n k (conM n k M)) env := by
    intro env he
    have hh : hasF 167 [53, 83, 122] = false := rfl
    simp [cMeth, he, mo, hh, hf]
    rw [show D.obj c [53, 83, 122] [nI n, nI k, tNs M] = mo c n k M from rfl, hf2]
    rfl
  have ee := (eqD_tNs M M).1
  simp only [decide_true] at ee
  have c2 : (lots n k).filter (fun l => !decide (l ∈ M)) = conM n k M := rfl
  rw [c2] at ot
  refine ⟨[some (.scr ns), some (lI l), some (.tup [nI n, nI k]), some (nI n), some (nI k), some (.lst (M.map tN)), some (.bl g), some (mo c n k M), some .non, some (.lst ((conM n k M).map tN))], ?_⟩
  simp [-List.map_map, lawV, L_law_8, mkL_4, forM_cons, forM_nil, w1, w2, w3, w4, e1, kw, e2, ot, cm, io, hc, ee]
theorem lawU_ok (ns l : List Int) (hc : c = 62 ∨ c = 100) (hn : n ≤ 6) (hk : k ≤ n + 1) (h : Mk n k M) (hl : c = 100 → leastB n k M = none) : ∃ e, lawU [some (.scr ns), some (lI l), some (.tup [nI n, nI k]), some (nI n), some (nI k), some (.lst (M.map tN)), some (.bl (leastB n k M).isNone), some (mo c n k M), none, none] = .ok (.rt (.bl true)) e := by
  have al := all_left_ok hc hn hk h hl
  obtain ⟨C, l', hd, hC⟩ := drawn_ok hn l
  have s1 := share_ok hc hn hk h hl hC
  have s2 := share_ok hc hn hk h hl (range_lot hn (show min n (k + 1) ≤ n by omega))
  obtain ⟨e, hv⟩ := lawV_ok ns l' hc hn hk h hl (leastB n k M).isNone
  have a1 : addD (nI k) (.int 1) = some (nI (k + 1)) := id rfl
  have mn : min2D [nI n, nI (k + 1)] = some (nI (min n (k + 1))) := by
    show some (D.int (if ((k + 1 : Nat) : Int) < (n : Int) then ((k + 1 : Nat) : Int) else (n : Int))) = _
    rw [show (if ((k + 1 : Nat) : Int) < (n : Int) then ((k + 1 : Nat) : Int) else (n : Int)) = ((min n (k + 1) : Nat) : Int) by split <;> omega]
  have tr := tupRg_ok (m := min n (k + 1)) (by omega)
  have q : ∀ env : En, env[3]? = some (some (nI n)) → env[4]? = some (some (nI k)) → opN tupRg (aCons (opN min2D (aCons (vVar 3) (aCons (op2 addD (vVar 4) (vC (.int 1))) (aNil)))) aNil) env = .ok (tN (List.range (min n (k + 1)))) env := by
    intro env h3 h4
    simp only [opN_ap, aCons_ap, op2_ap, vVar_ap, vC_ap, aNil_ap, h3, h4, bind_ok, of_some, a1, mn, tr]
  refine ⟨e, ?_⟩
  unfold lawU
  simp [-List.map_map, -opN_ap, q, al, hd, s1, s2, hv]
theorem tail_ok (ns l : List Int) (hn : n ≤ 6) (hk : k ≤ n + 1) : ∃ e, lawT [some (.scr ns), some (lI l), some (.tup [nI n, nI k]), none, none, none, none, none, none, none] = .ok (.rt (.bl true)) e := by
  obtain ⟨M, l', hM, h⟩ := marks_ok hn hk l
  have lk := law_keeps_ok (M := M) hn hk
  have mi := marks_init (c := 62) (.inl rfl) h hn hk _ (.inl rfl)
  have t : m__law_take [lI l', .int 2] = _ := take_ok l' 2
  rw [lawT_eq]
  cases q : leastB n k M with
  | some b =>
    obtain ⟨e, hu⟩ := lawU_ok ns l' (c := 62) (.inl rfl) hn hk h (fun z => by cases z)
    rw [q] at lk hu
    refine ⟨e, ?_⟩
    simp only [Option.isNone_some] at lk hu
    simp [-List.map_map, ix_0, ix_1, hM, lk, cMake_ap, mi, hu]
  | none =>
    by_cases q2 : ((tk l' 2 : Nat) : Int) = 1
    · have fg := family_good h hn hk _ (.inl rfl) q
      obtain ⟨e, hu⟩ := lawU_ok ns (tr l' 2) (c := 100) (.inr rfl) hn hk h (fun _ => q)
      rw [q] at lk hu
      simp only [Option.isNone_none] at lk hu
      refine ⟨e, ?_⟩
      simp [-List.map_map, ix_0, ix_1, hM, lk, cMake_ap, mi, t, q2, fg, hu]
    · obtain ⟨e, hu⟩ := lawU_ok ns (tr l' 2) (c := 62) (.inl rfl) hn hk h (fun _ => q)
      rw [q] at lk hu
      simp only [Option.isNone_none] at lk hu
      refine ⟨e, ?_⟩
      simp [-List.map_map, ix_0, ix_1, hM, lk, cMake_ap, mi, t, q2, hu]
end
theorem law_ok (ns : List Int) (h : ns.length ≤ 63) : ∃ io, m_law [.scr ns] = .ok (.bl true) io := by
  obtain ⟨l, io, hd⟩ := draws_ok ns h
  obtain ⟨n, k, l1, hs, hn, hk⟩ := shape_ok2 l
  have t : m__law_take [lI l1, .int 4] = _ := take_ok l1 4
  by_cases q : ((tk l1 4 : Nat) : Int) = 3
  · obtain ⟨n2, k2, l2, he, hn2, hk2⟩ := edge_ok (tr l1 4)
    obtain ⟨e, ht⟩ := tail_ok ns l2 hn2 hk2
    refine ⟨_, runF_ok (e := e) ?_⟩
    rw [law_eq]
    simp [hd, hs, t, q, he, ht]
  · obtain ⟨e, ht⟩ := tail_ok ns (tr l1 4) hn hk
    refine ⟨_, runF_ok (e := e) ?_⟩
    rw [law_eq]
    simp [hd, hs, t, q, ht]
end KX

set_option Elab.async false
set_option linter.all false
set_option maxRecDepth 100000
set_option maxHeartbeats 0
namespace KX
open PySem PySem.Spec PyProof.Rows L2 DL
theorem ga_of {K : PySem.W.Frag} {h : Heap} {mg : Str → Option Value} {x y : Str} {a : Addr} (X : K.In h) (G : h.Ns mainGlobals mg) (h0 : PySem.W.nsIn K mainGlobals y = some none) (h1 : mg x = some (.ref a)) : He.ga K x = a := by
  have key : ∃ r, PySem.W.nsIn K mainGlobals x = some r := by
    unfold PySem.W.nsIn at h0 ⊢
    cases e : K.lookup mainGlobals with
    | none =>
      rw [e] at h0
      cases h0
    | some o =>
      obtain ⟨oc, od, dt, osl⟩ := o
      rw [e] at h0
      cases dt with
      | dict es n =>
        simp only at h0 ⊢
        split at h0
        · cases h0
        · split at h0
          · cases h0
          · rename_i hne
            split
            · exact ⟨_, rfl⟩
            · rw [if_neg hne]
              exact ⟨_, rfl⟩
      | _ => cases h0
  obtain ⟨r, hr⟩ := key
  cases r with
  | none =>
    have e := PySem.W.mg_none_of X G hr
    rw [h1] at e
    cases e
  | some u =>
    have e := PySem.W.mg_of X G hr
    rw [h1] at e
    cases e
    unfold He.ga
    rw [hr]
theorem facts {w : World} {K : PySem.W.Frag} {h : Heap} {mg : Str → Option Value} {f : Addr} (X : K.In h) (G : h.Ns mainGlobals mg) (hfa : mg "law" = some (.ref f)) (t : Told fxs fns K) :
    ∃ (fd : FuncData) (sp : Sp), (∀ (s : Shared) (v : Value), BindsTo s fd ⟨[v], []⟩ [("_law_script", v)]) ∧ (∀ (H : Hp) (a : Addr) (ns : List Int), ns.length ≤ 63 → SqL K H a (ns.map V.int) → sp [.ref a] H (fun v _ => v = .bl true) fun _ _ _ => False) ∧
      ∀ base : Heap, FnOk PySem.Challenge.pw_packetmarks_k03_things_left_out w K mg base L2.CX0 14 f fd ["_law_script"] sp := by
  have c : Cz PySem.Challenge.pw_packetmarks_k03_things_left_out w K mg := ⟨t, ⟨h, X, G⟩, rfl⟩
  obtain ⟨fd, F⟩ := Df.fun_ (c.told.df 57 (d := d_law) rfl) rfl
  have e : He.ga K "law" = f := ga_of (y := "len") X G (He.eqO_ok (c.told.fact 0 (f := fHe (.free "len")) rfl)) hfa
  have F' : FunD K d_law.name d_law.qual d_law.params d_law.body d_law.scope (d_law.dfl.map (He.Dv.v K)) [] (He.ga K "law") fd := F
  subst e
  exact ⟨fd, fun vs H Q _ => SpD ⟨K, PySem.Challenge.pw_packetmarks_k03_things_left_out, w, []⟩ 1 none false m_law vs H Q fun _ _ _ => False, fun s v => FunD.bindsA (ps := ["_law_script"]) F' (fun _ _ _ _ _ _ us hl => match us, hl with | [_], _ => rfl) s [v] rfl, fun H a ns hl hS => scr_sp (n := 63) law_ok hl hS, fun base => fnOk_quiet (ok_law F' c)⟩
end KX
open PySem PySem.W PySem.Calls PyProof.Rows
theorem PySem.Challenge.cw_packetmarks_k03_things_left_out_holds : PySem.Challenge.rw_packetmarks_k03_things_left_out.Holds := by
  w_on; o_law
  refine HandSHeadRun.head_imp (r := OpenLaw.row PySem.Challenge.rw_packetmarks_k03_things_left_out) (q := view (OpenLaw.row PySem.Challenge.rw_packetmarks_k03_things_left_out).prog [0, 67]) (H := KX.hk) (ob := KX.ob) (M := 20000) (loose := KX.tops) (d := HandSHeadRun.topDef (OpenLaw.row PySem.Challenge.rw_packetmarks_k03_things_left_out).prog 67) (kwd := []) KX.ob_eq KX.run
    (by kernel_rfl) (by kernel_rfl) (by kernel_rfl) (by rfl) (by first | assumption | decide +kernel) (by decide +kernel) ⟨rfl, rfl, rfl, rfl, rfl, by decide +kernel⟩ ?hw ?hc
  case hw => w_witness2
  case hc =>
    refine L2.walk_ofE (l := PySem.Challenge.rw_packetmarks_k03_things_left_out) (n := 63) (k := 14) (x := "_law_script") (CX := L2.CX0) rfl (by decide) (by kernel_rfl) ⟨rfl, by decide, by decide⟩ ?F (fun _ _ _ _ z => z)
    intro w mg fa h Y G hmg0
    obtain ⟨K, X, c⟩ := Y
    have hmg : mg ("law" : PySem.Str) = some (.ref fa) := by
      have e : (HandSHeadRun.topDef (OpenLaw.row PySem.Challenge.rw_packetmarks_k03_things_left_out).prog 67).name = ("law" : PySem.Str) := by kernel_rfl
      rw [← e]
      exact hmg0
    obtain ⟨fd, sp, hb, hs, hF⟩ := KX.facts (w := w) X G hmg c
    exact ⟨K, fd, sp, X, hb, fun H a ns hl _ hS => hs H a ns hl hS, fun base _ _ => hF base⟩

