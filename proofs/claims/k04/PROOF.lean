import PyProof.Rows.All
import Wide.All
import OpenK.AllK
import Wide.FinOn
import HandS.Base
import HandS.ForMost
import HandS.ForExc
import PyProof.TwoTypesSub
import PyProof.EqAt
import HandS.Text
import KE.DataCmp
import HandS.Wide
import HandS.WideBits
import HandS.TupAny
import HandS.TupLe
import HandS.IsInst
import KE.LtData
import HandS.Flow
import HandS.ExcField
import PyProof.DictStraight
import HandS.More
import HandS.StrMore
import PyProof.EqKinds
import HandS.SetFor
import HandS.Codes
import HandS.Replace
import HandS.Style
import HandS.Conv
import HandS.IntHex
import HandS.WordsDict
import HandS.RaiseMore
import HandS.FStr
import KE.KExcIs
import HandS.NoneIn
import HandS.Zip
import HandS.Iter
import HandS.List
import HandS.Small
import PyProof.ReprNest
import PyProof.ReprUnder
import PyProof.ReprDict
import PyProof.CallFns
import HandS.OwnEq
import PyProof.InstSpecial
import KE.SortKeyHeap
import HandS.SortKw
import HandS.Keys
import PyProof.InstEq
import KE.KCallOwn
import KE.KFmtOwn
import PyProof.Conv_bool
import HandS.Records
import HandS.HotCalls
import HandS.ExcBuiltin
import PyProof.NeKinds
import HandS.ExcInit
import HandS.ExcOwn
import HandS.TryMany
import HandS.ExcIs
import HandS.Defaults
import HandS.Steps
import HandS.HeadHook2
import HandS.Head2
import HandS.EndBits
import PyProof.ExcBaseAll.ValueError
import PyProof.ExcBaseAll.ZeroDivisionError
import PyProof.StrLawsRepr
import HandS.Head0
import HandS.Head1
import PySem.Challenge.RW_casknotes_k04_weights_by_their_words
set_option Elab.async false
set_option linter.all false
set_option maxRecDepth 100000
set_option maxHeartbeats 0
namespace Cn
open PySem
/-! names by number; the fields of the classes whose instances never change; built-in types by number -/
def nmL : List String := ["__init__", "_law_script", "append", "at", "begun", "behind", "book", "born", "bottom", "burn", "by_days", "cask", "casks", "casks_asked", "casks_kept", "casks_on", "change", "count", "day", "day_now", "deed", "default", "draw", "drying", "drying_told", "due", "ended", "excess", "extend", "fate", "fates_kept", "fire", "first", "fresh", "get", "goal", "good", "grains", "index", "insert", "is_below", "is_nought", "items", "join", "judge", "k", "kept", "key", "lacks", "last", "least", "less", "lessened", "look_at_name", "look_at_room", "lose", "loss", "lstrip", "make", "many", "mark", "marks", "marks_given", "merge", "name", "names", "note", "note_of", "notes", "notes_kept", "number", "numbers", "one", "other", "pairs", "part", "partition", "parts", "pay", "pieces", "played", "plus", "pop", "promised", "rank", "remove", "replace", "rest", "results", "row", "rows", "say", "second", "self", "send", "settled", "share", "since", "split", "state", "stock", "store", "strike", "takings", "tell", "text", "thing", "things", "times", "today", "told", "top", "until", "update", "upper", "values", "ware", "weigh", "weight", "weight_of", "weights", "what", "whole_up", "word", "words"]
def nm (i : Nat) : Str := match nmL[i]? with
  | some s => Str.ofString s
  | none => ⟨#[1114112 + i]⟩
def flds : Nat → List Nat
  | 0 => [111, 8]
  | 1 => [64, 116, 37, 7]
  | 2 => [60, 97, 77]
  | _ => []
def tyN : Nat → String
  | 0 => "int"
  | 1 => "bool"
  | 2 => "str"
  | 3 => "tuple"
  | 4 => "list"
  | 5 => "dict"
  | 6 => "NoneType"
  | _ => "object"
/-- exceptions: fields, the class above, the built-in one -/
def xfl : Nat → List Nat
  | 18 => [89]
  | 19 => [121]
  | 20 => [121]
  | 21 => [121]
  | 22 => [121]
  | 23 => [48]
  | 24 => [48]
  | 25 => [48]
  | 26 => [121]
  | 27 => [18]
  | 32 => [116]
  | 33 => [70]
  | _ => []
/-- what stands for the field where none is handed in -/
def xdi : Nat → Option Int
  | 18 => some 0
  | _ => none
def xpar : Nat → Nat
  | 11 => 10
  | 12 => 11
  | 13 => 11
  | 14 => 11
  | 15 => 11
  | 16 => 11
  | 17 => 11
  | 18 => 11
  | 19 => 10
  | 20 => 19
  | 21 => 19
  | 22 => 19
  | 23 => 10
  | 24 => 23
  | 25 => 23
  | 26 => 10
  | 27 => 10
  | 28 => 10
  | 29 => 10
  | 30 => 10
  | _ => 0
def xsub (c d : Nat) : Bool := (Nat.beq c d).or ((Nat.beq (xpar c) d).or ((Nat.beq (xpar (xpar c)) d).or (Nat.beq (xpar (xpar (xpar c))) d)))
def xbase : Nat → Nat
  | 31 => 3
  | 32 => 1
  | 33 => 2
  | _ => 0
def xtyN : Nat → String
  | 0 => "ValueError"
  | 1 => "KeyError"
  | 2 => "IndexError"
  | _ => "ZeroDivisionError"
/-- the methods: class, name, def -/
def mthL : List ((Nat × Nat) × Nat) := [((4, 0), 1), ((4, 10), 3), ((4, 20), 4), ((4, 71), 5), ((4, 80), 6), ((4, 88), 7), ((4, 101), 8), ((4, 102), 9), ((4, 104), 10), ((2, 0), 12), ((2, 52), 16), ((2, 75), 17), ((2, 119), 18), ((5, 0), 19), ((5, 91), 20), ((33, 0), 21), ((18, 0), 22), ((32, 0), 23), ((1, 0), 25), ((3, 0), 29), ((3, 4), 31), ((3, 9), 32), ((3, 11), 33), ((3, 12), 34), ((3, 13), 35), ((3, 15), 36), ((3, 22), 37), ((3, 26), 38), ((3, 27), 39), ((3, 29), 40), ((3, 31), 41), ((3, 53), 42), ((3, 54), 43), ((3, 55), 44), ((3, 58), 45), ((3, 63), 46), ((3, 67), 47), ((3, 68), 48), ((3, 75), 49), ((3, 78), 50), ((3, 83), 51), ((3, 94), 52), ((3, 95), 53), ((3, 99), 54), ((3, 100), 55), ((3, 109), 56), ((3, 117), 57), ((27, 0), 58), ((26, 0), 59), ((23, 0), 60), ((19, 0), 61), ((0, 0), 63), ((0, 40), 66), ((0, 41), 67), ((0, 51), 68), ((0, 81), 69), ((0, 108), 70), ((0, 122), 71)]
def mth (c m : Nat) : Option Nat := mthL.lookup (c, m)
theorem nmL_small : (nmL.all fun s => (Str.ofString s).cps.all (· < 1114112)) = true := by decide +kernel
theorem nmL_nodup : (nmL.map Str.ofString).Nodup := by decide +kernel
theorem nm_inj {i j : Nat} (h : nm i = nm j) : i = j := by
  unfold nm at h
  cases e1 : nmL[i]? with
  | none =>
    cases e2 : nmL[j]? with
    | none =>
      rw [e1, e2] at h
      simp at h
      omega
    | some t =>
      rw [e1, e2] at h
      have q := List.all_eq_true.mp nmL_small t (List.mem_of_getElem? e2)
      have h' : (⟨#[1114112 + i]⟩ : Str) = Str.ofString t := h
      rw [← h'] at q
      simp at q
      omega
  | some s =>
    cases e2 : nmL[j]? with
    | none =>
      rw [e1, e2] at h
      have q := List.all_eq_true.mp nmL_small s (List.mem_of_getElem? e1)
      have h' : Str.ofString s = (⟨#[1114112 + j]⟩ : Str) := h
      rw [h'] at q
      simp at q
      omega
    | some t =>
      rw [e1, e2] at h
      have h' : Str.ofString s = Str.ofString t := h
      have m1 : (nmL.map Str.ofString)[i]? = some (Str.ofString s) := by rw [List.getElem?_map, e1]; rfl
      have m2 : (nmL.map Str.ofString)[j]? = some (Str.ofString s) := by rw [List.getElem?_map, e2, h']; rfl
      exact L2.nodup_ix nmL_nodup m1 m2
end Cn

namespace Cn
open PySem PySem.Spec PyProof.Rows L2

/-! ## A. Tree values -/
inductive D where
  | non | bl (b : Bool) | int (i : Int) | str (s : List Nat) | tup (l : List D) | lst (l : List D)
  | dct (ks vs : List D) | ins (c : Nat) (l : List D) | adr (a : Addr) | fn (f : Nat) | cls (c : Nat) | ty (n : Nat)
  | exc (c : Nat) (l : List D) | xcl (c : Nat) | xty (n : Nat)
  deriving Inhabited

/-- the text of code points -/
abbrev S (s : List Nat) : Str := ⟨s.toArray⟩
theorem S_list (z : Str) : S z.cps.toList = z := by cases z; simp [S]
theorem S_inj {a b : List Nat} (h : S a = S b) : a = b := by
  have := congrArg Str.cps h
  simpa [S] using this

/-- attribute names by number; the fields of the frozen classes; the built-in types by number -/
structure Tab where
  cA : Nat → Addr
  fA : Nat → Addr
  ok : Nat → Bool
  xA : Nat → Addr
  xok : Nat → Bool

def Kp (H H' : Hp) : Prop := (∀ b xs, H b = some (.tup xs) → H' b = some (.tup xs)) ∧ ∀ b o u, H b = some (.frz o u) → H' b = some (.frz o u)
theorem Kp.refl (H : Hp) : Kp H H := ⟨fun _ _ h => h, fun _ _ _ h => h⟩
theorem Kp.trans {H H1 H2 : Hp} (a : Kp H H1) (b : Kp H1 H2) : Kp H H2 := ⟨fun c xs h => b.1 c xs (a.1 c xs h), fun c o u h => b.2 c o u (a.2 c o u h)⟩
theorem Kp.new {H : Hp} {p : Addr} {o : HO} (h : H p = none) : Kp H (upd H p o) :=
  ⟨fun b xs e => by rw [upd_ne (ne_of_none e h)]; exact e, fun b q u e => by rw [upd_ne (ne_of_none e h)]; exact e⟩
theorem Kp.mut {H : Hp} {p : Addr} {o u : HO} (h : H p = some o) (n1 : ∀ xs, o ≠ .tup xs) (n2 : ∀ q v, o ≠ .frz q v) : Kp H (upd H p u) :=
  ⟨fun b xs e => by rw [upd_ne (ne_of e h fun z => n1 xs z.symm)]; exact e, fun b q v e => by rw [upd_ne (ne_of e h fun z => n2 q v z.symm)]; exact e⟩
theorem Kp.un {fs ex : List Addr} {H H' : Hp} {h h' : Heap} (u : Un fs ex H H' h h') : Kp H H' := ⟨u.tups, u.frzs⟩

/-- a list that nobody writes any more -/
def FzL (H : Hp) (a : Addr) (xs : List V) : Prop := ∃ o, H a = some (.frz o (.lst xs))
theorem FzL.mono {H H' : Hp} {a : Addr} {xs : List V} (k : Kp H H') : FzL H a xs → FzL H' a xs
  | ⟨o, h⟩ => ⟨o, k.2 _ _ _ h⟩
theorem SqT.keep {K : PySem.W.Frag} {H H' : Hp} {a : Addr} {xs : List V} (k : Kp H H') : SqT K H a xs → SqT K H' a xs
  | .inl (.inl h) => .inl (.inl (k.1 _ _ h))
  | .inl (.inr ⟨o, h⟩) => .inl (.inr ⟨o, k.2 _ _ _ h⟩)
  | .inr h => .inr h

/-- something stands at a -/
def exF (a : Addr) : HO := .ext fun h => ∃ o, h.get? a = some o
/-- the dict of an exception that was made: its fields, in order -/
def XdF (H : Hp) (dd : Option Addr) (ks : List Nat) (xs : List V) : Prop := match ks with
  | [] => dd = none ∧ xs = []
  | _ => ∃ d od gs, dd = some d ∧ H d = some (.frz od (.xd gs)) ∧ ks.map (fun f => gs.lookup (nm f)) = xs.map some
theorem XdF.keep {H H' : Hp} {dd : Option Addr} {ks : List Nat} {xs : List V} (k : Kp H H') (h : XdF H dd ks xs) : XdF H' dd ks xs := by
  unfold XdF at h ⊢
  split at h
  · exact h
  · obtain ⟨d, od, gs, h1, h2, h3⟩ := h
    exact ⟨d, od, gs, h1, k.2 _ _ _ h2, h3⟩
mutual
/-- the value v is the tree d, as it stands for good -/
def Is (T : Tab) (K : PySem.W.Frag) (H : Hp) : D → V → Prop
  | .non, v => v = .non
  | .bl b, v => v = .bl b
  | .int i, v => v = .int i
  | .str s, v => v = .str (S s)
  | .tup l, v => ∃ a xs, v = .ref a ∧ SqT K H a xs ∧ IsL T K H l xs
  | .lst l, v => ∃ a xs, v = .ref a ∧ FzL H a xs ∧ IsL T K H l xs
  | .dct ks vs, v => ∃ a o kvs, v = .ref a ∧ H a = some (.frz o (.dK kvs)) ∧ IsL T K H ks (kvs.map fun p => kV p.1) ∧ IsL T K H vs (kvs.map (·.2))
  | .ins c l, v => ∃ a o dx fs xs, T.ok c = true ∧ v = .ref a ∧ H a = some (.frz o (.ins (T.cA c) dx fs)) ∧ (flds c).map (fun f => fs.lookup (nm f)) = xs.map some ∧
      (∀ x, (∀ f ∈ flds c, nm f ≠ x) → fs.lookup x = none) ∧ IsL T K H l xs
  | .adr a, v => v = .ref a
  | .fn f, v => v = .ref (T.fA f)
  | .cls c, v => T.ok c = true ∧ v = .ref (T.cA c)
  | .ty n, v => v = .ty (tyN n)
  | .xcl c, v => T.xok c = true ∧ v = .ref (T.xA c)
  | .xty n, v => v = .ty (xtyN n)
  | .exc c l, v => ∃ a o vs xs, T.xok c = true ∧ v = .ref a ∧ H a = some (.frz o (exF a)) ∧ o.cls = .ref (T.xA c) ∧ o.data = .fields vs ∧ XdF H o.dict (xfl c) xs ∧ IsL T K H l xs
def IsL (T : Tab) (K : PySem.W.Frag) (H : Hp) : List D → List V → Prop
  | [], xs => xs = []
  | d :: ds, xs => ∃ v vs, xs = v :: vs ∧ Is T K H d v ∧ IsL T K H ds vs
end

mutual
theorem Is.mono {T : Tab} {K : PySem.W.Frag} {H H' : Hp} (k : Kp H H') : ∀ (d : D) (v : V), Is T K H d v → Is T K H' d v
  | .non, _, h | .bl _, _, h | .int _, _, h | .str _, _, h | .adr _, _, h | .fn _, _, h | .cls _, _, h | .ty _, _, h | .xcl _, _, h | .xty _, _, h => by simpa only [Is] using h
  | .exc c l, v, h => by
    simp only [Is] at h ⊢
    obtain ⟨a, o, vs, xs, ok, e, s, q, z, x, i⟩ := h
    exact ⟨a, o, vs, xs, ok, e, k.2 _ _ _ s, q, z, x.keep k, IsL.mono k l xs i⟩
  | .tup l, v, h => by
    simp only [Is] at h ⊢
    obtain ⟨a, xs, e, s, i⟩ := h
    exact ⟨a, xs, e, SqT.keep k s, IsL.mono k l xs i⟩
  | .lst l, v, h => by
    simp only [Is] at h ⊢
    obtain ⟨a, xs, e, s, i⟩ := h
    exact ⟨a, xs, e, s.mono k, IsL.mono k l xs i⟩
  | .dct ks vs, v, h => by
    simp only [Is] at h ⊢
    obtain ⟨a, o, kvs, e, s, i, j⟩ := h
    exact ⟨a, o, kvs, e, k.2 _ _ _ s, IsL.mono k ks _ i, IsL.mono k vs _ j⟩
  | .ins c l, v, h => by
    simp only [Is] at h ⊢
    obtain ⟨a, o, dx, fs, xs, ok, e, s, q, z, i⟩ := h
    exact ⟨a, o, dx, fs, xs, ok, e, k.2 _ _ _ s, q, z, IsL.mono k l xs i⟩
theorem IsL.mono {T : Tab} {K : PySem.W.Frag} {H H' : Hp} (k : Kp H H') : ∀ (l : List D) (xs : List V), IsL T K H l xs → IsL T K H' l xs
  | [], _, h => by simpa only [IsL] using h
  | d :: ds, xs, h => by
    simp only [IsL] at h ⊢
    obtain ⟨v, vs, e, i, j⟩ := h
    exact ⟨v, vs, e, Is.mono k d v i, IsL.mono k ds vs j⟩
end
section
variable {T : Tab} {K : PySem.W.Frag} {H H' : Hp}
theorem IsL.nil : IsL T K H [] [] := by simp only [IsL]
theorem IsL.cons {d : D} {v : V} {ds : List D} {vs : List V} (h : Is T K H d v) (t : IsL T K H ds vs) : IsL T K H (d :: ds) (v :: vs) := by
  simp only [IsL]; exact ⟨v, vs, rfl, h, t⟩
theorem IsL.length : ∀ {l : List D} {xs : List V}, IsL T K H l xs → l.length = xs.length
  | [], _, h => by simp only [IsL] at h; subst h; rfl
  | d :: ds, xs, h => by
    simp only [IsL] at h
    obtain ⟨v, vs, rfl, i, j⟩ := h
    rw [List.length_cons, List.length_cons, j.length]
theorem IsL.get : ∀ {l : List D} {xs : List V} {i : Nat} {d : D}, IsL T K H l xs → l[i]? = some d → ∃ v, xs[i]? = some v ∧ Is T K H d v
  | [], _, _, _, h, e => by simp at e
  | d :: ds, xs, i, x, h, e => by
    simp only [IsL] at h
    obtain ⟨v, vs, rfl, a, j⟩ := h
    cases i with
    | zero => simp at e; subst e; exact ⟨v, rfl, a⟩
    | succ i =>
      obtain ⟨w, e2, q⟩ := j.get (i := i) (by simpa using e)
      exact ⟨w, by simpa using e2, q⟩
theorem IsL.get' : ∀ {l : List D} {xs : List V} {i : Nat} {v : V}, IsL T K H l xs → xs[i]? = some v → ∃ d, l[i]? = some d ∧ Is T K H d v
  | [], _, _, _, h, e => by simp only [IsL] at h; subst h; simp at e
  | d :: ds, xs, i, x, h, e => by
    simp only [IsL] at h
    obtain ⟨v, vs, rfl, a, j⟩ := h
    cases i with
    | zero => simp at e; subst e; exact ⟨d, rfl, a⟩
    | succ i =>
      obtain ⟨w, e2, q⟩ := j.get' (i := i) (by simpa using e)
      exact ⟨w, by simpa using e2, q⟩
theorem IsL.append : ∀ {l m : List D} {xs ys : List V}, IsL T K H l xs → IsL T K H m ys → IsL T K H (l ++ m) (xs ++ ys)
  | [], m, xs, ys, h, q => by simp only [IsL] at h; subst h; exact q
  | d :: ds, m, xs, ys, h, q => by
    simp only [IsL] at h
    obtain ⟨v, vs, rfl, a, j⟩ := h
    exact IsL.cons a (j.append q)
theorem IsL.take : ∀ {l : List D} {xs : List V} (n : Nat), IsL T K H l xs → IsL T K H (l.take n) (xs.take n)
  | _, _, 0, _ => by simp only [List.take_zero]; exact .nil
  | [], _, n + 1, h => by simp only [IsL] at h; subst h; exact .nil
  | d :: ds, xs, n + 1, h => by
    simp only [IsL] at h
    obtain ⟨v, vs, rfl, a, j⟩ := h
    exact IsL.cons a (j.take n)
theorem IsL.drop : ∀ {l : List D} {xs : List V} (n : Nat), IsL T K H l xs → IsL T K H (l.drop n) (xs.drop n)
  | _, _, 0, h => by simpa using h
  | [], _, n + 1, h => by simp only [IsL] at h; subst h; exact .nil
  | d :: ds, xs, n + 1, h => by
    simp only [IsL] at h
    obtain ⟨v, vs, rfl, a, j⟩ := h
    simpa using j.drop n
theorem IsL.set : ∀ {l : List D} {xs : List V} {d : D} {v : V} (i : Nat), IsL T K H l xs → Is T K H d v → IsL T K H (l.set i d) (xs.set i v)
  | [], _, _, _, _, h, _ => by simp only [IsL] at h; subst h; exact .nil
  | d :: ds, xs, _, _, i, h, q => by
    simp only [IsL] at h
    obtain ⟨v, vs, rfl, a, j⟩ := h
    cases i with
    | zero => exact IsL.cons q j
    | succ i => exact IsL.cons a (j.set i q)
theorem IsL.of_map {f : D → V} : ∀ {l : List D}, (∀ d ∈ l, Is T K H d (f d)) → IsL T K H l (l.map f)
  | [], _ => .nil
  | d :: ds, h => IsL.cons (h d List.mem_cons_self) (IsL.of_map fun x hx => h x (List.mem_cons_of_mem _ hx))
theorem IsL.reverse : ∀ {l : List D} {xs : List V}, IsL T K H l xs → IsL T K H l.reverse xs.reverse
  | [], _, h => by simp only [IsL] at h; subst h; exact .nil
  | d :: ds, xs, h => by
    simp only [IsL] at h
    obtain ⟨v, vs, rfl, a, j⟩ := h
    rw [List.reverse_cons, List.reverse_cons]
    exact j.reverse.append (IsL.cons a .nil)
end

/-! ## B. What may change: lists, dicts, instances -/
inductive GO where
  | lst (l : List D) | dct (ks vs : List D) | ins (c : Nat) (fs : List (Nat × D))
abbrev G := Addr → Option GO
def gset (g : G) (a : Addr) (o : GO) : G := fun b => if b = a then some o else g b
theorem gset_same {g : G} {a : Addr} {o : GO} : gset g a o a = some o := by unfold gset; rw [if_pos rfl]
theorem gset_ne {g : G} {a b : Addr} {o : GO} (h : b ≠ a) : gset g a o b = g b := by unfold gset; rw [if_neg h]
def gdel (g : G) (a : Addr) : G := fun b => if b = a then none else g b

def GOk (T : Tab) (K : PySem.W.Frag) (H : Hp) (a : Addr) : GO → Prop
  | .lst l => ∃ xs, H a = some (.lst xs) ∧ IsL T K H l xs
  | .dct ks vs => ∃ kvs, H a = some (.dK kvs) ∧ IsL T K H ks (kvs.map fun p => kV p.1) ∧ IsL T K H vs (kvs.map (·.2))
  | .ins c fs => ∃ dx gs, T.ok c = true ∧ H a = some (.ins (T.cA c) dx gs) ∧ gs.length ≤ fs.length ∧ (∀ f d, fs.lookup f = some d → ∃ v, gs.lookup (nm f) = some v ∧ Is T K H d v) ∧
      ∀ x, (∀ f, (fs.lookup f).isSome = true → nm f ≠ x) → gs.lookup x = none
def RG (T : Tab) (K : PySem.W.Frag) (g : G) (H : Hp) : Prop := ∀ a o, g a = some o → GOk T K H a o
section
variable {T : Tab} {K : PySem.W.Frag} {H H' : Hp} {g : G} {a p : Addr}
theorem GOk.move {o : GO} (k : Kp H H') (e : H' a = H a) (h : GOk T K H a o) : GOk T K H' a o := by
  cases o with
  | lst l => obtain ⟨xs, h1, h2⟩ := h; exact ⟨xs, e.trans h1, h2.mono k⟩
  | dct ks vs => obtain ⟨kvs, h1, h2, h3⟩ := h; exact ⟨kvs, e.trans h1, h2.mono k, h3.mono k⟩
  | ins c fs =>
    obtain ⟨dx, gs, ok, h1, hl, h2, h3⟩ := h
    exact ⟨dx, gs, ok, e.trans h1, hl, fun f d q => let ⟨v, q1, q2⟩ := h2 f d q; ⟨v, q1, q2.mono k⟩, h3⟩
theorem GOk.some {o : GO} (h : GOk T K H a o) : ∃ u, H a = some u := by
  cases o with
  | lst l => obtain ⟨xs, h1, _⟩ := h; exact ⟨_, h1⟩
  | dct ks vs => obtain ⟨kvs, h1, _⟩ := h; exact ⟨_, h1⟩
  | ins c fs => obtain ⟨dx, gs, _, h1, _⟩ := h; exact ⟨_, h1⟩
theorem RG.none (r : RG T K g H) (h : H p = none) : g p = none := by
  cases e : g p with
  | none => rfl
  | some o => obtain ⟨u, q⟩ := (r p o e).some; rw [h] at q; cases q
/-- something new stands beside -/
theorem RG.beside {o : HO} (r : RG T K g H) (h : H p = Option.none) : RG T K g (upd H p o) := fun b q e => by
  obtain ⟨u, hu⟩ := (r b q e).some
  exact (r b q e).move (Kp.new h) (upd_ne (ne_of_none hu h))
/-- a new thing that may change -/
theorem RG.add {o : HO} {q : GO} (r : RG T K g H) (h : H p = Option.none) (ok : GOk T K (upd H p o) p q) : RG T K (gset g p q) (upd H p o) := fun b u e => by
  by_cases hb : b = p
  · subst hb; rw [gset_same] at e; cases e; exact ok
  · rw [gset_ne hb] at e; exact r.beside h b u e
/-- one of them changes -/
theorem RG.put {o o1 : HO} {q : GO} (r : RG T K g H) (h : H p = some o1) (k : Kp H (upd H p o)) (ok : GOk T K (upd H p o) p q) : RG T K (gset g p q) (upd H p o) := fun b u e => by
  by_cases hb : b = p
  · subst hb; rw [gset_same] at e; cases e; exact ok
  · rw [gset_ne hb] at e; exact (r b u e).move k (upd_ne hb)
end

/-- what a piece of code may do: what it does not own stays, and stays unowned -/
structure Kg (g : G) (H : Hp) (g' : G) (H' : Hp) : Prop where
  kp : Kp H H'
  fr : ∀ b o, H b = some o → g b = none → H' b = some o ∧ g' b = none
theorem Kg.refl (g : G) (H : Hp) : Kg g H g H := ⟨Kp.refl H, fun _ _ h n => ⟨h, n⟩⟩
theorem Kg.trans {g g1 g2 : G} {H H1 H2 : Hp} (a : Kg g H g1 H1) (b : Kg g1 H1 g2 H2) : Kg g H g2 H2 :=
  ⟨a.kp.trans b.kp, fun c o h n => let ⟨h1, n1⟩ := a.fr c o h n; b.fr c o h1 n1⟩
theorem Kg.new {g : G} {H : Hp} {p : Addr} {o : HO} (h : H p = none) : Kg g H g (upd H p o) :=
  ⟨Kp.new h, fun b u e n => ⟨by rw [upd_ne (ne_of_none e h)]; exact e, n⟩⟩
theorem Kg.add {g : G} {H : Hp} {p : Addr} {o : HO} {q : GO} (h : H p = none) : Kg g H (gset g p q) (upd H p o) :=
  ⟨Kp.new h, fun b u e n => ⟨by rw [upd_ne (ne_of_none e h)]; exact e, by rw [gset_ne (ne_of_none e h)]; exact n⟩⟩
theorem Kg.put {g : G} {H : Hp} {p : Addr} {o : HO} {q q0 : GO} (hp : g p = some q0) (k : Kp H (upd H p o)) : Kg g H (gset g p q) (upd H p o) :=
  ⟨k, fun b u e n => by
    have hb : b ≠ p := fun z => by rw [z, hp] at n; cases n
    exact ⟨by rw [upd_ne hb]; exact e, by rw [gset_ne hb]; exact n⟩⟩
theorem Kg.del {g : G} {H : Hp} {p : Addr} {o : HO} {q0 : GO} (hp : g p = some q0) (k : Kp H (upd H p o)) : Kg g H (gdel g p) (upd H p o) :=
  ⟨k, fun b u e n => by
    have hb : b ≠ p := fun z => by rw [z, hp] at n; cases n
    exact ⟨by rw [upd_ne hb]; exact e, by unfold gdel; rw [if_neg hb]; exact n⟩⟩

/-! ## C. Slots -/
abbrev R := List (Option D)
structure RS (T : Tab) (K : PySem.W.Frag) (H : Hp) (ρ : R) (σ : L2.St) : Prop where
  len : σ.length = ρ.length
  at_ : ∀ (i : Nat) (d : D), ρ[i]? = some (some d) → ∃ v, σ[i]? = some (some v) ∧ Is T K H d v
theorem RS.mono {T : Tab} {K : PySem.W.Frag} {H H' : Hp} {ρ : R} {σ : L2.St} (k : Kp H H') (r : RS T K H ρ σ) : RS T K H' ρ σ :=
  ⟨r.len, fun i d e => let ⟨v, a, b⟩ := r.at_ i d e; ⟨v, a, b.mono k⟩⟩
theorem RS.set {T : Tab} {K : PySem.W.Frag} {H : Hp} {ρ : R} {σ : L2.St} {d : D} {v : V} (r : RS T K H ρ σ) (i : Nat) (h : Is T K H d v) : RS T K H (ρ.set i (some d)) (σ.set i (some v)) := by
  refine ⟨by rw [List.length_set, List.length_set, r.len], fun j x e => ?_⟩
  by_cases hj : j = i
  · subst hj
    have hl : j < ρ.length := by
      have := (List.getElem?_eq_some_iff.mp e).1
      rwa [List.length_set] at this
    rw [List.getElem?_set_self hl] at e
    cases e
    exact ⟨v, List.getElem?_set_self (by rw [r.len]; exact hl), h⟩
  · rw [List.getElem?_set_ne (Ne.symm hj)] at e ⊢
    exact r.at_ j x e
end Cn

namespace Cn
open PySem PySem.Spec PyProof.Rows L2

/-! ## D. Transformers over trees -/
/-- an exception: its class, its fields -/
structure DX where
  c : Nat
  l : List D := []
def EXr (T : Tab) (K : PySem.W.Frag) (H : Hp) (cls : Value) (dd : Option Addr) (x : DX) : Prop :=
  T.xok x.c = true ∧ cls = .ref (T.xA x.c) ∧ ∃ xs, XdF H dd (xfl x.c) xs ∧ IsL T K H x.l xs
abbrev QT := D → G → Prop
abbrev QL := List D → G → Prop
abbrev ET := DX → G → Prop
/-- what the defs promise: by number, the positional and the keywords' values -/
abbrev Cal := Nat → List D → List (Nat × D) → G → QT → ET → Prop
abbrev DTE := Cal → R → G → QT → ET → Prop
abbrev DTT := Cal → R → G → (Bool → G → Prop) → ET → Prop
structure DE where
  nx : R → G → Prop
  rt : QT
  bk : R → G → Prop
  ct : R → G → Prop
  ex : DX → R → G → Prop
abbrev DTS := Cal → R → G → DE → Prop

section
variable (T : Tab) (K : PySem.W.Frag)
structure Ct (g : G) (H : Hp) (QD : QT) (Q : VK) : Prop where
  go : ∀ v d H' g', Kg g H g' H' → Is T K H' d v → RG T K g' H' → QD d g' → Q v H'
structure CtL (g : G) (H : Hp) (QD : QL) (Q : List V → Hp → Prop) : Prop where
  go : ∀ vs ds H' g', Kg g H g' H' → IsL T K H' ds vs → RG T K g' H' → QD ds g' → Q vs H'
structure CtB (g : G) (H : Hp) (QD : Bool → G → Prop) (Q : Bool → Hp → Prop) : Prop where
  go : ∀ b H' g', Kg g H g' H' → RG T K g' H' → QD b g' → Q b H'
structure CtE (g : G) (H : Hp) (ED : ET) (E : XK) : Prop where
  go : ∀ x cls dd H' g', Kg g H g' H' → EXr T K H' cls dd x → RG T K g' H' → ED x g' → E cls dd H'
structure CtS (g : G) (H : Hp) (W : WX) (DD : DE) (Dn : Ends) : Prop where
  nx : ∀ ρ σ H' g', Kg g H g' H' → RS T K H' ρ σ → RG T K g' H' → DD.nx ρ g' → Dn.nx σ H'
  rt : ∀ v d H' g', Kg g H g' H' → Is T K H' d v → RG T K g' H' → DD.rt d g' → Dn.rt v H'
  bk : ∀ ρ σ H' g', Kg g H g' H' → RS T K H' ρ σ → RG T K g' H' → DD.bk ρ g' → Dn.bk σ H'
  ct : ∀ ρ σ H' g', Kg g H g' H' → RS T K H' ρ σ → RG T K g' H' → DD.ct ρ g' → Dn.ct σ H'
  ex : ∀ x cls dd ρ σ H' g', Kg g H g' H' → EXr T K H' cls dd x → RS T K H' ρ σ → RG T K g' H' → DD.ex x ρ g' → W cls dd σ H'
def LE (C : Cal) (W : WX) (t : DTE) : TE := fun σ H Q => ∃ ρ g QD ED, RS T K H ρ σ ∧ RG T K g H ∧ t C ρ g QD ED ∧ Ct T K g H QD Q ∧ CtE T K g H ED fun cls dd H' => W cls dd σ H'
def LT (C : Cal) (W : WX) (t : DTT) : TT := fun σ H Q => ∃ ρ g QD ED, RS T K H ρ σ ∧ RG T K g H ∧ t C ρ g QD ED ∧ CtB T K g H QD Q ∧ CtE T K g H ED fun cls dd H' => W cls dd σ H'
def LS (C : Cal) (W : WX) (t : DTS) : TS := fun Dn σ H => ∃ ρ g DD, RS T K H ρ σ ∧ RG T K g H ∧ t C ρ g DD ∧ CtS T K g H W DD Dn
def dArgs : List DTE → Cal → R → G → QL → ET → Prop
  | [], _, _, g, Q, _ => Q [] g
  | t :: ts, C, ρ, g, Q, E => t C ρ g (fun d g1 => dArgs ts C ρ g1 (fun ds g2 => Q (d :: ds) g2) E) E
def LA (C : Cal) (W : WX) (ts : List DTE) : TA := fun σ H Q => ∃ ρ g QD ED, RS T K H ρ σ ∧ RG T K g H ∧ dArgs ts C ρ g QD ED ∧ CtL T K g H QD Q ∧ CtE T K g H ED fun cls dd H' => W cls dd σ H'
/-- operations on values -/
abbrev DO1 := D → G → QT → Prop
abbrev DO2 := D → D → G → QT → Prop
abbrev DOL := List D → G → QT → Prop
def LO1 (o : DO1) : V → Hp → VK → Prop := fun x H Q => ∃ dx g QD, Is T K H dx x ∧ RG T K g H ∧ o dx g QD ∧ Ct T K g H QD Q
def LO2 (o : DO2) : R2 := fun x y H Q => ∃ dx dy g QD, Is T K H dx x ∧ Is T K H dy y ∧ RG T K g H ∧ o dx dy g QD ∧ Ct T K g H QD Q
def LOL (o : DOL) : List V → Hp → VK → Prop := fun xs H Q => ∃ ds g QD, IsL T K H ds xs ∧ RG T K g H ∧ o ds g QD ∧ Ct T K g H QD Q
/-- a def's promise -/
abbrev DSp := List D → List (Nat × D) → G → QT → ET → Prop
def LSp (sp : DSp) (ks : List Nat) (vs zs : List V) (H : Hp) (Q : VK) (E : XK) : Prop :=
  ∃ ds es g QD ED, IsL T K H ds vs ∧ IsL T K H es zs ∧ RG T K g H ∧ sp ds (ks.zip es) g QD ED ∧ Ct T K g H QD Q ∧ CtE T K g H ED E
end
section
variable {T : Tab} {K : PySem.W.Frag} {g g1 : G} {H H1 : Hp}
theorem Ct.mono {QD : QT} {Q : VK} (k : Kg g H g1 H1) (c : Ct T K g H QD Q) : Ct T K g1 H1 QD Q := ⟨fun v d H' g' k' => c.go v d H' g' (k.trans k')⟩
theorem CtL.mono {QD : QL} {Q : List V → Hp → Prop} (k : Kg g H g1 H1) (c : CtL T K g H QD Q) : CtL T K g1 H1 QD Q := ⟨fun v d H' g' k' => c.go v d H' g' (k.trans k')⟩
theorem CtB.mono {QD : Bool → G → Prop} {Q : Bool → Hp → Prop} (k : Kg g H g1 H1) (c : CtB T K g H QD Q) : CtB T K g1 H1 QD Q := ⟨fun b H' g' k' => c.go b H' g' (k.trans k')⟩
theorem CtE.mono {ED : ET} {E : XK} (k : Kg g H g1 H1) (c : CtE T K g H ED E) : CtE T K g1 H1 ED E := ⟨fun x cls dd H' g' k' => c.go x cls dd H' g' (k.trans k')⟩
theorem CtS.mono {W : WX} {DD : DE} {Dn : Ends} (k : Kg g H g1 H1) (c : CtS T K g H W DD Dn) : CtS T K g1 H1 W DD Dn :=
  ⟨fun ρ σ H' g' k' => c.nx ρ σ H' g' (k.trans k'), fun v d H' g' k' => c.rt v d H' g' (k.trans k'), fun ρ σ H' g' k' => c.bk ρ σ H' g' (k.trans k'),
   fun ρ σ H' g' k' => c.ct ρ σ H' g' (k.trans k'), fun x cls dd ρ σ H' g' k' => c.ex x cls dd ρ σ H' g' (k.trans k')⟩
theorem CtS.exE {W : WX} {DD : DE} {Dn : Ends} (c : CtS T K g H W DD Dn) {ρ : R} {σ : L2.St} (r : RS T K H ρ σ) : CtE T K g H (fun x g => DD.ex x ρ g) fun cls dd H' => W cls dd σ H' :=
  ⟨fun x cls dd H' g' k e rg q => c.ex x cls dd ρ σ H' g' k e (r.mono k.kp) rg q⟩
theorem CtE.no {E : XK} : CtE T K g H (fun _ _ => False) E := ⟨fun _ _ _ _ _ _ _ _ q => q.elim⟩
end
theorem PE.imp {X : Cx} {e : Expr} {t t' : TE} (h : PE X e t) (k : ∀ σ H Q, t' σ H Q → t σ H Q) : PE X e t' := ⟨fun pins s σ H Q I q => h.run pins s σ H Q I (k σ H Q q)⟩
theorem PT.imp {X : Cx} {e : Expr} {t t' : TT} (h : PT X e t) (k : ∀ σ H Q, t' σ H Q → t σ H Q) : PT X e t' := ⟨fun pins s σ H Q I q => h.run pins s σ H Q I (k σ H Q q)⟩
theorem PA.imp {X : Cx} {e : List Expr} {t t' : TA} (h : PA X e t) (k : ∀ σ H Q, t' σ H Q → t σ H Q) : PA X e t' := ⟨fun pos pins s σ H Q I q => h.run pos pins s σ H Q I (k σ H Q q)⟩
theorem PS.imp {X : Cx} {e : Stmt} {t t' : TS} (h : PS X e t) (k : ∀ Dn σ H, t' Dn σ H → t Dn σ H) : PS X e t' := ⟨fun pins s σ H Dn I q => h.run pins s σ H Dn I (k Dn σ H q)⟩
theorem PSs.imp {X : Cx} {e : List Stmt} {t t' : TS} (h : PSs X e t) (k : ∀ Dn σ H, t' Dn σ H → t Dn σ H) : PSs X e t' := ⟨fun pins s σ H Dn I q => h.run pins s σ H Dn I (k Dn σ H q)⟩

/-! ## E. Calls -/
mutual
/-- how deep a tree is (a cask counts more) -/
def dep : D → Nat
  | .tup l => depL l + 1
  | .lst l => depL l + 1
  | .dct ks vs => max (depL ks) (depL vs) + 1
  | .ins c l => depL l + (if Nat.beq c 2 then 20 else 1)
  | _ => 0
def depL : List D → Nat
  | [] => 0
  | d :: ds => max (dep d) (depL ds)
end
mutual
/-- a tree of data alone -/
def dat : D → Bool
  | .non => true | .bl _ => true | .int _ => true | .str _ => true
  | .tup l => datL l
  | .lst l => datL l
  | .dct ks vs => (datL ks).and (datL vs)
  | .ins _ l => datL l
  | _ => false
def datL : List D → Bool
  | [] => true
  | d :: ds => (dat d).and (datL ds)
end
/-- what the guards hold stands above the trees of depth m, or is not tracked -/
def GdOk (T : Tab) (K : PySem.W.Frag) (m : Nat) (gl : List Code) (s : Shared) (H : Hp) : Prop := ∀ id c rest kw, Code.builtin id ⟨.ref c :: rest, kw⟩ ∈ gl →
  (H c = none ∧ (∃ o, s.heap.get? c = some o) ∧ K.lookup c = none) ∨ ∃ d, dat d = true ∧ m < dep d ∧ Is T K H d (.ref c)
def GdX (T : Tab) (K : PySem.W.Frag) (gm : Option Nat) (A : Around) (s : Shared) (H : Hp) : Prop := match gm with
  | none => A.guards = some []
  | some m => ∃ gl, A.guards = some gl ∧ GdOk T K m gl s H
structure Rm (gm : Option Nat) (T : Tab) (K : PySem.W.Frag) (k : Nat) (A : Around) (s : Shared) (H : Hp) : Prop where
  room : Room k A
  gd : GdX T K gm A s H
section
variable {gm : Option Nat} {T : Tab} {K : PySem.W.Frag} {A B : Around} {s : Shared} {H : Hp}
theorem Rm.mono {j k : Nat} (r : Rm gm T K k A s H) (h : j ≤ k) : Rm gm T K j A s H := ⟨r.room.mono h, r.gd⟩
theorem GdX.same (g : GdX T K gm A s H) (e : B.guards = A.guards) : GdX T K gm B s H := by
  unfold GdX at g ⊢
  cases gm with
  | none => exact e.trans g
  | some m => obtain ⟨gl, h1, h2⟩ := g; exact ⟨gl, e.trans h1, h2⟩
theorem Rm.deeper {k : Nat} (r : Rm gm T K (k + 1) A s H) (env : Env) : Rm gm T K k (A.deeper env) s H := ⟨r.room.deeper env, r.gd.same rfl⟩
end
/-- the same of a context, wherever it stands -/
structure RmX (gm : Option Nat) (T : Tab) (k : Nat) (X : Cx) : Prop where
  rm : Rm gm T X.K k X.A X.s_0 X.H_0
  ex : gm = none ∨ X.ex = []
theorem RmX.mono {gm : Option Nat} {T : Tab} {X : Cx} {j k : Nat} (r : RmX gm T k X) (h : j ≤ k) : RmX gm T j X := ⟨r.rm.mono h, r.ex⟩
theorem RmX.at_ {gm : Option Nat} {T : Tab} {X : Cx} {k : Nat} (r : RmX gm T k X) {pins : List (Addr × Obj)} {σ : L2.St} {H : Hp} {s : Shared} (I : Inv X pins σ H s) : Rm gm T X.K k X.A s H := by
  refine ⟨r.rm.room, ?_⟩
  have g := r.rm.gd
  unfold GdX at g ⊢
  cases gm with
  | none => exact g
  | some m =>
    obtain ⟨gl, h1, h2⟩ := g
    have ex : X.ex = [] := r.ex.resolve_left (fun z => by cases z)
    refine ⟨gl, h1, fun id c rest kw hm => ?_⟩
    rcases h2 id c rest kw hm with ⟨a, ⟨o, b⟩, cc⟩ | ⟨d, a, b, cc⟩
    · have hx : c ∉ X.ex := by rw [ex]; simp
      exact .inl ⟨I.base.free c o b a hx, I.base.there c o b hx, cc⟩
    · exact .inr ⟨d, a, b, cc.mono (Kp.un I.base)⟩
/-- the def at a keeps the promise sp, with room k -/
def CalOk (gm : Option Nat) (T : Tab) (P : Program) (w : World) (K : PySem.W.Frag) (mg : Str → Option Value) (base : Heap) (k : Nat) (a : Addr) (sp : DSp) : Prop :=
  ∀ (A : Around) (outer : List Env) (s : Shared) (H : Hp) (us ws : List Value) (vs zs : List V) (ks : List Nat) (Q : VK) (E : XK), Rm gm T K k A s H → Env0 P w K mg base A outer s H → Vals vs us → Vals zs ws →
    LSp T K sp ks vs zs H Q E → codeAny (model P w) A (.call (.ref a) ⟨us, (ks.map nm).zip ws⟩) (CR (L2.CX P w) outer P w H s Q E) s
theorem CalOk.mono {gm : Option Nat} {T : Tab} {P : Program} {w : World} {K : PySem.W.Frag} {mg : Str → Option Value} {base : Heap} {j k : Nat} {a : Addr} {sp : DSp} (c : CalOk gm T P w K mg base j a sp) (h : j ≤ k) : CalOk gm T P w K mg base k a sp :=
  fun A outer s H us ws vs zs ks Q E r => c A outer s H us ws vs zs ks Q E (r.mono h)
section
variable {gm : Option Nat} {X : Cx} {T : Tab} {k : Nat} {a : Addr} {sp : DSp} {W : WX}
theorem run_cal {pins : List (Addr × Obj)} {σ : L2.St} {H : Hp} {s : Shared} {Q : VK} {us ws : List Value} {vs zs : List V} {ks : List Nat} (F : CalOk gm T X.prog X.w X.K X.mg X.base k a sp) (hr : RmX gm T k X) (tk : Takes X W)
    (I : Inv X pins σ H s) (r : Vals vs us) (rz : Vals zs ws) (h : LSp T X.K sp ks vs zs H Q (WE W σ)) : wpAny (model X.prog X.w) X.A (call (.ref a) us ((ks.map nm).zip ws)) (EP X pins σ Q) X.xe s := by
  refine wpAny_call (codeAny_mono (F X.A X.stack s H us ws vs zs ks Q (WE W σ) (hr.at_ I) I.env0 r rz h) fun r s' hq => ?_)
  cases r with
  | error e => exact passAt tk σ pins H s e s' I hq
  | ok fl =>
    cases fl with
    | ret u => exact I.after hq
    | next => exact False.elim hq
    | brk => exact False.elim hq
    | cont => exact False.elim hq
/-- C(..): the new instance x, then __init__, by values -/
theorem run_mk {pins : List (Addr × Obj)} {σ : L2.St} {H : Hp} {s : Shared} {Q : VK} {us ws : List Value} {vs zs : List V} {ks : List Nat} {C : Addr} (M : Mk X.K C a) (F : CalOk gm T X.prog X.w X.K X.mg X.base k a sp) (hr : RmX gm T (k + 1) X) (tk : Takes X W)
    (I : Inv X pins σ H s) (r : Vals vs us) (rz : Vals zs ws)
    (h : ∀ x dx, H x = none → H dx = none → dx ≠ x → LSp T X.K sp ks (.ref x :: vs) zs (upd (upd H dx (.own x)) x (.ins C dx [])) (fun v H2 => v = .non ∧ Q (.ref x) H2) (WE W σ)) :
    wpAny (model X.prog X.w) X.A (call (.ref C) us ((ks.map nm).zip ws)) (EP X pins σ Q) X.xe s := by
  have hq := h (s.heap.objs.size + 1) s.heap.objs.size (I.hok.fresh (Nat.le_succ _)) (I.hok.fresh (Nat.le_refl _)) (Nat.ne_of_lt (Nat.lt_succ_self _))
  have I2 := Inv.made (C := C) I
  have r1 : Vals (V.ref (s.heap.objs.size + 1) :: vs) (Value.ref (s.heap.objs.size + 1) :: us) := .cons rfl r
  have hr1 := (hr.at_ I2)
  have hr1 : Rm gm T X.K k (X.A.under (.builtin "type.__call__" ⟨.ref C :: us, (ks.map nm).zip ws⟩)) _ _ := ⟨hr1.room.make C us _, hr1.gd.same (by
    first | rfl | simp [Around.under, Code.guards, Code.isGuard, guardIds, pushGuards])⟩
  refine wpAny_call (make_map (f := a) I.kIn M.makes M.init (beq_iff_eq.mp M.fn) (codeAny_mono (F _ X.stack _ _ (Value.ref (s.heap.objs.size + 1) :: us) ws _ zs ks _ (WE W σ) hr1
    (I2.env0.make C us _) r1 rz hq) fun r s' hq' => ?_))
  cases r with
  | error e => exact passAt tk σ pins _ _ e s' I2 hq'
  | ok fl =>
    cases fl with
    | ret u =>
      obtain ⟨v, H', I3, rv, ev, q3⟩ := I2.after hq'
      subst ev
      exact ⟨rv, ⟨V.ref (s.heap.objs.size + 1), H', I3, rfl, q3⟩⟩
    | next => exact False.elim hq'
    | brk => exact False.elim hq'
    | cont => exact False.elim hq'
end

abbrev MT := Nat → Nat → Option Nat
end Cn

namespace Cn
open PySem PySem.Spec PyProof.Rows L2

/-! ## G. From now on nobody writes it -/
def Soft : HO → Prop
  | .lst _ => True
  | .dK _ => True
  | .ins _ _ _ => True
  | .xd _ => True
  | _ => False
theorem HOk.freeze {P : Program} {w : World} {H : Hp} {h : Heap} {a : Addr} {u : HO} {ob : Obj} (ok : HOk P w H h) (e : H a = some u) (so : Soft u) (ho : h.get? a = some ob) : HOk P w (upd H a (.frz ob u)) h := fun b q z => by
  have nown : ∀ c y, H c = some (.own y) → c ≠ a := fun c y r z => by subst z; rw [e] at r; cases r; exact so
  have ntup : ∀ c xs, H c = some (.tup xs) → c ≠ a := fun c xs r z => by subst z; rw [e] at r; cases r; exact so
  by_cases hb : b = a
  · subst hb
    rw [upd_same] at z
    cases z
    exact ⟨ho, (ok b u e).stay (fun _ _ _ r => r) (fun c r => by rw [upd_ne (nown c _ r)]; exact r) fun c xs r => by rw [upd_ne (ntup c xs r)]; exact r⟩
  · rw [upd_ne hb] at z
    exact (ok b q z).stay (fun _ _ _ r => r) (fun c r => by rw [upd_ne (nown c _ r)]; exact r) fun c xs r => by rw [upd_ne (ntup c xs r)]; exact r
theorem obj_of {P : Program} {w : World} {H : Hp} {h : Heap} {a : Addr} {u : HO} (ok : HOk P w H h) (e : H a = some u) (so : Soft u) : ∃ ob, h.get? a = some ob := by
  have x := ok a u e
  cases u with
  | lst xs => obtain ⟨_, _, _, _, e⟩ := x; exact ⟨_, e⟩
  | dK kvs => obtain ⟨_, _, _, _, o, _, _, e, _⟩ := x; exact ⟨_, e⟩
  | ins C dx fs => obtain ⟨_, _, _, e, _⟩ := x; exact ⟨_, e⟩
  | xd fs => obtain ⟨_, ⟨o, _, _, e, _⟩, _⟩ := x; exact ⟨o, e⟩
  | _ => exact so.elim
section
variable {X : Cx} {pins : List (Addr × Obj)} {σ : L2.St} {H : Hp} {s : Shared} {a : Addr} {u : HO} {ob : Obj}
theorem Inv.freeze (I : Inv X pins σ H s) (e : H a = some u) (so : Soft u) (ho : s.heap.get? a = some ob) : Inv X pins σ (upd H a (.frz ob u)) s where
  ok := I.ok
  os := I.os
  bare := I.bare
  base := {
    keep := I.base.keep
    slot := I.base.slot
    free := fun b o q n hx => by
      have z := I.base.free b o q n hx
      rw [upd_ne fun r => by rw [r, e] at z; cases z]
      exact z
    there := I.base.there
    tups := fun b xs q => by
      have z := I.base.tups b xs q
      rw [upd_ne fun r => by rw [r, e] at z; cases z; exact so]
      exact z
    frzs := fun b o v q => by
      have z := I.base.frzs b o v q
      rw [upd_ne fun r => by rw [r, e] at z; cases z; exact so]
      exact z
    tbls := fun b ps q => by
      obtain ⟨m, z⟩ := I.base.tbls b ps q
      refine ⟨m, ?_⟩
      rw [upd_ne fun r => by rw [r, e] at z; cases z; exact so]
      exact z }
  loc := I.loc
  cell := I.cell
  free := by
    rw [upd_ne fun r => by have z := I.free; rw [r, e] at z; cases z]
    exact I.free
  freeC := fun x c q => by
    have z := I.freeC x c q
    rw [upd_ne fun r => by rw [r, e] at z; cases z]
    exact z
  pin := fun p hp => by
    obtain ⟨h1, h2, h3, h4, h5⟩ := I.pin p hp
    refine ⟨h1, ?_, h3, h4, h5⟩
    rw [upd_ne fun r => by rw [r, e] at h2; cases h2]
    exact h2
  hok := HOk.freeze I.hok e so ho
  len := I.len
/-- a value that is handed on frozen -/
def frzQ (Q : VK) : VK := fun v H => ∃ a u, v = .ref a ∧ H a = some u ∧ Soft u ∧ ∀ ob, Q v (upd H a (.frz ob u))
theorem frz_ep {Q : VK} {v : Value} {s : Shared} (h : EP X pins σ (frzQ Q) v s) : EP X pins σ Q v s := by
  obtain ⟨x, H', I, r, a, u, rfl, e, so, q⟩ := h
  obtain ⟨ob, ho⟩ := obj_of I.hok e so
  exact ⟨_, _, Inv.freeze I e so ho, r, q ob⟩
theorem PE.frz {e : Expr} {t : TE} (h : PE X e t) : PE X e (fun σ H Q => t σ H (frzQ Q)) := ⟨fun pins s σ H Q I q => thn (h.run pins s σ H _ I q) fun _ _ z => frz_ep z⟩
theorem OpR.frz {f : Value → Value → Sem Value} {r : R2} (h : OpR X f r) : OpR X f (fun x y H Q => r x y H (frzQ Q)) := fun pins s σ H x y v u Q I rx ry q => thn (h pins s σ H x y v u _ I rx ry q) fun _ _ z => frz_ep z
theorem CallR.frz {f : Value} {r : List V → Hp → VK → Prop} (h : CallR X f r) : CallR X f (fun xs H Q => r xs H (frzQ Q)) := fun pins s σ H xs us Q I rx q => thn (h pins s σ H xs us _ I rx q) fun _ _ z => frz_ep z
theorem MtR.frz {id : String} {r : V → List V → Hp → VK → Prop} (h : MtR X id r) : MtR X id (fun x xs H Q => r x xs H (frzQ Q)) := fun pins s σ H x xs v us Q I rv rx q => thn (h pins s σ H x xs v us _ I rv rx q) fun _ _ z => frz_ep z
end

/-! ## H. The ends of rules -/
section
variable {T : Tab} {K : PySem.W.Frag} {H : Hp} {g : G} {QD : QT} {Q : VK}
theorem Kp.frz {u v : HO} {p : Addr} (h : H p = some u) (so : Soft u) : Kp H (upd H p v) :=
  Kp.mut h (fun xs e => by subst e; exact so) fun q w e => by subst e; exact so
theorem RG.frz {u : HO} {p : Addr} {ob : Obj} (r : RG T K g H) (n : g p = Option.none) (h : H p = some u) (so : Soft u) : RG T K g (upd H p (.frz ob u)) := fun b q e =>
  (r b q e).move (Kp.frz h so) (upd_ne fun z => by rw [z, n] at e; cases e)
/-- a value as it is -/
theorem Ct.is (c : Ct T K g H QD Q) {v : V} {d : D} (i : Is T K H d v) (r : RG T K g H) (h : QD d g) : Q v H := c.go v d H g (Kg.refl g H) i r h
/-- a new tuple -/
theorem Ct.tup (c : Ct T K g H QD Q) {p : Addr} {xs : List V} {l : List D} (hp : H p = none) (i : IsL T K H l xs) (r : RG T K g H) (h : QD (.tup l) g) : Q (.ref p) (upd H p (.tup xs)) :=
  c.go _ _ _ g (Kg.new hp) (by simp only [Is]; exact ⟨p, xs, rfl, SqT.of upd_same, i.mono (Kp.new hp)⟩) (r.beside hp) h
/-- a new list, that nobody writes -/
theorem Ct.lst (c : Ct T K g H QD Q) {p : Addr} {xs : List V} {l : List D} (hp : H p = none) (i : IsL T K H l xs) (r : RG T K g H) (h : QD (.lst l) g) : frzQ Q (.ref p) (upd H p (.lst xs)) := by
  refine ⟨p, _, rfl, upd_same, trivial, fun ob => ?_⟩
  rw [upd_upd]
  exact c.go _ _ _ g (Kg.new hp) (by simp only [Is]; exact ⟨p, xs, rfl, ⟨ob, upd_same⟩, i.mono (Kp.new hp)⟩) (r.beside hp) h
/-- a new list, that may be written -/
theorem Ct.mls (c : Ct T K g H QD Q) {p : Addr} {xs : List V} {l : List D} (hp : H p = none) (i : IsL T K H l xs) (r : RG T K g H) (h : ∀ a, g a = none → QD (.adr a) (gset g a (.lst l))) : Q (.ref p) (upd H p (.lst xs)) :=
  c.go _ _ _ _ (Kg.add hp) (by simp only [Is]) (r.add hp (q := .lst l) (show ∃ ys, _ = some (HO.lst ys) ∧ _ from ⟨xs, upd_same, i.mono (Kp.new hp)⟩)) (h p (r.none hp))
end

/-! ## I. Expressions -/
def getS (ρ : R) (i : Nat) (k : D → Prop) : Prop := match ρ[i]? with
  | some (some d) => k d
  | _ => False
def dVar (i : Nat) : DTE := fun _ ρ g Q _ => getS ρ i fun d => Q d g
def dC (d : D) : DTE := fun _ _ g Q _ => Q d g
def dBin (o : DO2) (ta tb : DTE) : DTE := fun C ρ g Q E => ta C ρ g (fun x g1 => tb C ρ g1 (fun y g2 => o x y g2 Q) E) E
def dUn (o : DO1) (ta : DTE) : DTE := fun C ρ g Q E => ta C ρ g (fun x g1 => o x g1 Q) E
def dOps (o : DOL) (ts : List DTE) : DTE := fun C ρ g Q E => dArgs ts C ρ g (fun ds g1 => o ds g1 Q) E
def dStop : DTE := fun _ _ _ _ _ => False
section
variable {X : Cx} {T : Tab} {C : Cal} {W : WX} {e a b : Expr} {ta tb : DTE} {pos : Pos}
theorem de_stop : PE X e (LE T X.K C W dStop) := ⟨fun _ _ _ _ _ _ ⟨_, _, _, _, _, _, h, _⟩ => h.elim⟩
theorem de_var {i : Nat} {x : Str} (hN : X.N[i]? = some x) (hv : Vis X.env.scope x) (hd : (x == ("__debug__" : Str)) = false) (hcd : (x == ("__classdict__" : Str)) = false) : PE X (.Name x pos) (LE T X.K C W (dVar i)) := by
  refine PE.imp (pe_var hN hv hd hcd) fun σ H Q ⟨ρ, g, QD, ED, rs, rg, h, c, _⟩ => ?_
  unfold dVar getS at h
  split at h
  · rename_i d e
    obtain ⟨v, e1, i1⟩ := rs.at_ i d e
    exact ⟨v, e1, c.is i1 rg h⟩
  · exact h.elim
theorem de_c {v : V} {d : D} (h : PE X e (tC v)) (i : ∀ H, Is T X.K H d v) : PE X e (LE T X.K C W (dC d)) :=
  PE.imp h fun σ H Q ⟨ρ, g, QD, ED, rs, rg, h, c, _⟩ => c.is (i H) rg h
theorem de_bin {o : DO2} {r : R2} (h : ∀ ta tb, PE X a ta → PE X b tb → PE X e (tOp r ta tb)) (hr : ∀ x y H Q, LO2 T X.K o x y H Q → r x y H Q) (ha : PE X a (LE T X.K C W ta)) (hb : PE X b (LE T X.K C W tb)) : PE X e (LE T X.K C W (dBin o ta tb)) := by
  refine PE.imp (h _ _ ha hb) fun σ H Q ⟨ρ, g, QD, ED, rs, rg, h, c, ce⟩ => ?_
  refine ⟨ρ, g, _, ED, rs, rg, h, ⟨fun x dx H1 g1 k1 i1 rg1 h1 => ?_⟩, ce⟩
  refine ⟨ρ, g1, _, ED, rs.mono k1.kp, rg1, h1, ⟨fun y dy H2 g2 k2 i2 rg2 h2 => ?_⟩, ce.mono k1⟩
  exact hr _ _ _ _ ⟨dx, dy, g2, QD, i1.mono k2.kp, i2, rg2, h2, (c.mono k1).mono k2⟩
theorem de_un {o : DO1} {r : V → Hp → VK → Prop} (h : ∀ ta, PE X a ta → PE X e (tUn r ta)) (hr : ∀ x H Q, LO1 T X.K o x H Q → r x H Q) (ha : PE X a (LE T X.K C W ta)) : PE X e (LE T X.K C W (dUn o ta)) := by
  refine PE.imp (h _ ha) fun σ H Q ⟨ρ, g, QD, ED, rs, rg, h, c, ce⟩ => ?_
  refine ⟨ρ, g, _, ED, rs, rg, h, ⟨fun x dx H1 g1 k1 i1 rg1 h1 => ?_⟩, ce⟩
  exact hr _ _ _ ⟨dx, g1, QD, i1, rg1, h1, c.mono k1⟩
/-- written arguments -/
def plainArg : Expr → Bool
  | .Starred _ _ => false
  | _ => true
theorem star_cons {e : Expr} {es : List Expr} {env : Env} (h : plainArg e = true) : starEach (e :: es) env = (false, eval e env) :: starEach es env := by
  cases e <;> first | rfl | cases h
theorem da_nil : PA X [] (LA T X.K C W []) := PA.imp pa_nil fun σ H Q ⟨ρ, g, QD, ED, rs, rg, h, c, _⟩ => c.go _ _ _ g (Kg.refl g H) .nil rg h
theorem da_cons {es : List Expr} {ts : List DTE} (hp : plainArg e = true) (ha : PE X e (LE T X.K C W ta)) (hb : PA X es (LA T X.K C W ts)) : PA X (e :: es) (LA T X.K C W (ta :: ts)) := by
  refine PA.imp (pa_cons ha hb (star_cons hp)) fun σ H Q ⟨ρ, g, QD, ED, rs, rg, h, c, ce⟩ => ?_
  refine ⟨ρ, g, _, ED, rs, rg, h, ⟨fun x dx H1 g1 k1 i1 rg1 h1 => ?_⟩, ce⟩
  refine ⟨ρ, g1, _, ED, rs.mono k1.kp, rg1, h1, ⟨fun xs ds H2 g2 k2 i2 rg2 h2 => ?_⟩, ce.mono k1⟩
  exact c.go _ _ _ _ (k1.trans k2) (.cons (i1.mono k2.kp) i2) rg2 h2
theorem de_ops {o : DOL} {r : List V → Hp → VK → Prop} {es : List Expr} {ts : List DTE} (h : ∀ t, PA X es t → PE X e (fun σ H Q => t σ H fun vs H1 => r vs H1 Q)) (hr : ∀ xs H Q, LOL T X.K o xs H Q → r xs H Q) (ha : PA X es (LA T X.K C W ts)) :
    PE X e (LE T X.K C W (dOps o ts)) := by
  refine PE.imp (h _ ha) fun σ H Q ⟨ρ, g, QD, ED, rs, rg, h, c, ce⟩ => ?_
  refine ⟨ρ, g, _, ED, rs, rg, h, ⟨fun xs ds H1 g1 k1 i1 rg1 h1 => ?_⟩, ce⟩
  exact hr _ _ _ ⟨ds, g1, QD, i1, rg1, h1, c.mono k1⟩
/-- displays -/
def oTup : DOL := fun ds g Q => ds.length ≤ sizeLine ∧ Q (.tup ds) g
def oLst (m : Bool) : DOL := fun ds g Q => ds.length ≤ sizeLine ∧ if m then ∀ a, g a = none → Q (.adr a) (gset g a (.lst ds)) else Q (.lst ds) g
theorem de_tup {x1} {es : List Expr} {ts : List DTE} (ha : PA X es (LA T X.K C W ts)) : PE X (.Tuple es x1 pos) (LE T X.K C W (dOps oTup ts)) :=
  de_ops (fun t h => pe_tup h) (fun xs H Q ⟨ds, g, QD, i, rg, ⟨z, q⟩, c⟩ => ⟨by rw [← i.length]; exact z, fun p hp => c.tup hp i rg q⟩) ha
theorem de_lst {m : Bool} {es : List Expr} {ts : List DTE} (ha : PA X es (LA T X.K C W ts)) : PE X (.List es pos) (LE T X.K C W (dOps (oLst m) ts)) := by
  cases m with
  | true => exact de_ops (r := fun xs H Q => xs.length ≤ sizeLine ∧ ∀ p, H p = none → Q (.ref p) (upd H p (.lst xs))) (fun t h => pe_lst h) (fun xs H Q ⟨ds, g, QD, i, rg, ⟨z, q⟩, c⟩ => ⟨by rw [← i.length]; exact z, fun p hp => c.mls hp i rg q⟩) ha
  | false => exact de_ops (r := fun xs H Q => xs.length ≤ sizeLine ∧ ∀ p, H p = none → frzQ Q (.ref p) (upd H p (.lst xs))) (fun t h => PE.frz (pe_lst h)) (fun xs H Q ⟨ds, g, QD, i, rg, ⟨z, q⟩, c⟩ => ⟨by rw [← i.length]; exact z, fun p hp => c.lst hp i rg q⟩) ha
end
end Cn

namespace Cn
open PySem PySem.Spec PyProof.Rows L2
/-! ## Truths reckoned with; a tuple beside the empty one -/
def b2i (b : Bool) : Int := if b then 1 else 0
section
variable {prog : Program} {w : World} {A : Around} {E : Value → Shared → Prop} {s : Shared} {a : Bool} {b : Int} {u : Tok} {Q : Value → Shared → Prop}
theorem g_add (a : Bool) (b : Int) (u : Tok) : Gives (Builtin.«int.__add__» ⟨[.bool a, .int b u], []⟩) (.int (b2i a + b)) := by cases a <;> exact .of_eq rfl
theorem g_sub (a : Bool) (b : Int) (u : Tok) : Gives (Builtin.«int.__sub__» ⟨[.bool a, .int b u], []⟩) (.int (b2i a - b)) := by cases a <;> exact .of_eq rfl
theorem g_sub2 (a : Bool) (b : Int) (u : Tok) : Gives (Builtin.«int.__sub__» ⟨[.int b u, .bool a], []⟩) (.int (b - b2i a)) := by cases a <;> exact .of_eq rfl
theorem nsub_int_bool : isSubtype (.type "int") (.type "bool") = pure false := by kernel_rfl
theorem add_bool_int (h : Q (.int (b2i a + b) s.toks) { s with toks := s.toks + 1 }) : wpAny (model prog w) A (binaryOp .Add (.bool a) (.int b u)) Q E s :=
  binaryOp_left_gives (op := .Add) (T := "bool") (U := "int") (by decide) rfl (fun s' => PySem.typeIs_int s' b u) F.fills_bool_add F.fills_int_add nsub_int_bool F.slot_bool_add F.slot_int_radd F.entry_int_add (F.args_int_add_2 _ _) (g_add a b u) trivial h
theorem sub_bool_int (h : Q (.int (b2i a - b) s.toks) { s with toks := s.toks + 1 }) : wpAny (model prog w) A (binaryOp .Sub (.bool a) (.int b u)) Q E s :=
  binaryOp_left_gives (op := .Sub) (T := "bool") (U := "int") (by decide) rfl (fun s' => PySem.typeIs_int s' b u) F.fills_bool_sub F.fills_int_sub nsub_int_bool F.slot_bool_sub F.slot_int_rsub F.entry_int_sub (F.args_int_sub_2 _ _) (g_sub a b u) trivial h
theorem same_int_bool_sub : reflectedDiffers (.type "int") (.type "bool") "sub" = pure false := by
  unfold reflectedDiffers
  show (typeLookup (.type "bool") (dunderR "sub") >>= fun rb => typeLookup (.type "int") (dunderR "sub") >>= fun ra => pure (rb.isSome && rb != ra)) = pure false
  rw [typeLookup_type, typeLookup_type, builtinLookup_eq_fast]; kernel_rfl
theorem sub_int_bool (h : Q (.int (b - b2i a) s.toks) { s with toks := s.toks + 1 }) : wpAny (model prog w) A (binaryOp .Sub (.int b u) (.bool a)) Q E s :=
  binaryOp_sub_gives (op := .Sub) (T := "int") (U := "bool") (by decide) (PySem.typeIs_int s b u) rfl F.fills_int_sub F.fills_bool_sub isSubtype_bool_int same_int_bool_sub F.slot_int_sub F.entry_int_sub (F.args_int_sub_2 _ _) (g_sub2 a b u) trivial h
theorem abs_bool (h : Q (.int (b2i a) s.toks) { s with toks := s.toks + 1 }) : wpAny (model prog w) A (call (.builtin "abs") [.bool a]) Q E s := by
  refine PySem.Calls.call_function_entry kind_abs plain_abs entry_abs (args_abs _) ?_
  unfold Builtin.«abs»
  refine wpAny_bind (m := oneArg "abs" _) (wpAny_pure ?_)
  refine wpAny_bind (m := callSpecial? (.bool a) (Str.ofString "__abs__")) (wpAny_callSpecial?_slot (name := Str.ofString "__abs__") (T := "bool") rfl F.slot_bool_abs
    (wpAny_call_entry (T := "bool") F.slot_bool_abs rfl F.entry_int_abs ?_ (F.args_int_abs_1 _)))
  cases a
  · exact wpAny_ret_mkInt (wpAny_pure ⟨_, rfl, h⟩)
  · exact wpAny_ret_mkInt (wpAny_pure ⟨_, rfl, h⟩)
end
section
variable {X : Cx}
theorem op_addb : OpR X (binaryOp .Add) (fun x y H Q => ∃ i j, x = .bl i ∧ y = .int j ∧ Q (.int (b2i i + j)) H) := by
  intro pins s σ H x y v u Q I rx ry ⟨i, j, e1, e2, q⟩
  subst e1 e2
  obtain rfl : v = .bool i := rx
  obtain ⟨t, rfl⟩ := ry
  exact add_bool_int ⟨.int _, H, I.tok _, ⟨_, rfl⟩, q⟩
theorem op_subb : OpR X (binaryOp .Sub) (fun x y H Q => ∃ i j, x = .bl i ∧ y = .int j ∧ Q (.int (b2i i - j)) H) := by
  intro pins s σ H x y v u Q I rx ry ⟨i, j, e1, e2, q⟩
  subst e1 e2
  obtain rfl : v = .bool i := rx
  obtain ⟨t, rfl⟩ := ry
  exact sub_bool_int ⟨.int _, H, I.tok _, ⟨_, rfl⟩, q⟩
theorem op_subr : OpR X (binaryOp .Sub) (fun x y H Q => ∃ i j, x = .int i ∧ y = .bl j ∧ Q (.int (i - b2i j)) H) := by
  intro pins s σ H x y v u Q I rx ry ⟨i, j, e1, e2, q⟩
  subst e1 e2
  obtain ⟨t, rfl⟩ := rx
  obtain rfl : u = .bool j := ry
  exact sub_int_bool ⟨.int _, H, I.tok _, ⟨_, rfl⟩, q⟩
theorem call_absb : CallR X (.builtin "abs") (fun xs H Q => ∃ i, xs = [.bl i] ∧ Q (.int (b2i i)) H) := by
  intro pins s σ H xs us Q I r ⟨i, e, q⟩
  subst e
  obtain ⟨u, rfl, e⟩ := vals1 r
  obtain rfl : u = .bool i := e
  exact abs_bool ⟨.int _, H, I.tok _, ⟨_, rfl⟩, q⟩
theorem call_strb : CallR X (.type "str") (fun xs H Q => ∃ i, xs = [.bl i] ∧ Q (.str (if i then "True" else "False")) H) := by
  intro pins s σ H xs us Q I r ⟨i, e, q⟩
  subst e
  obtain ⟨u, rfl, e⟩ := vals1 r
  obtain rfl : u = .bool i := e
  exact PySem.P.str_of_bool ⟨.str _, H, I.tok _, ⟨_, rfl⟩, q⟩
/-- a tuple beside the empty one -/
theorem op_eqE (hu : X.A.units + 64 < cLine) : OpR X (compareOp .Eq) (fun x y H Q => ∃ a b xs, x = .ref a ∧ y = .ref b ∧ SqT X.K H a xs ∧ SqT X.K H b [] ∧ Q (.bl xs.isEmpty) H) := by
  intro pins s σ H x y v u Q I rx ry ⟨a, b, xs, e1, e2, h1, h2, q⟩
  subst e1 e2
  obtain rfl : v = .ref a := rx
  obtain rfl : u = .ref b := ry
  obtain ⟨its, r1, t1, _⟩ := I.tuple h1
  obtain ⟨its2, r2, t2, _⟩ := I.tuple h2
  cases r2
  have e : (((List.range (min its.toArray.size ([] : List Value).toArray.size)).all fun _ => true) && its.toArray.size == ([] : List Value).toArray.size) = xs.isEmpty := by
    have := r1.length
    cases xs <;> cases its <;> simp_all
  refine SeqAt.RcAt.tuples (e := fun _ => true) (show s.heap.IsTuple a its.toArray from t1) (show s.heap.IsTuple b ([] : List Value).toArray from t2) (by omega) (fun j _ h => absurd h (by simp)) X.prog X.w _ _ ?_
  rw [e]
  exact ⟨.bl _, H, I, rfl, q⟩
end
end Cn

namespace Cn
open PySem PySem.Spec PyProof.Rows L2

/-! ## J. Operators -/
def lstOf (g : G) : D → Option (List D)
  | .lst l => some l
  | .adr a => match g a with
    | some (.lst l) => some l
    | _ => none
  | _ => none
section
variable {T : Tab} {K : PySem.W.Frag} {H : Hp} {g : G}
theorem lstOf_rd {d : D} {v : V} {l : List D} (r : RG T K g H) (i : Is T K H d v) (h : lstOf g d = some l) : ∃ a xs, v = .ref a ∧ Rd H a (.lst xs) ∧ IsL T K H l xs := by
  unfold lstOf at h
  split at h
  · cases h
    simp only [Is] at i
    obtain ⟨a, xs, e, ⟨o, f⟩, j⟩ := i
    exact ⟨a, xs, e, .inr ⟨o, f⟩, j⟩
  · split at h
    · rename_i a _ m e
      cases h
      simp only [Is] at i
      obtain ⟨xs, q, j⟩ := r _ _ e
      exact ⟨a, xs, i, .inl q, j⟩
    · cases h
  · cases h
theorem Rd.sq {a : Addr} {xs : List V} (h : Rd H a (.lst xs)) : SqL K H a xs := .inl h
end
theorem S_len (s : List Nat) : (S s).length = s.length := by simp [S, Str.length]
theorem S_app (a b : List Nat) : S a ++ S b = S (a ++ b) := by
  show Str.append (S a) (S b) = _
  simp [Str.append, S]
def oAdd (m : Bool) : DO2 := fun x y g Q => match x, y with
  | .int i, .int j => Q (.int (i + j)) g
  | .bl i, .int j => Q (.int (b2i i + j)) g
  | .str a, .str b => a.length + b.length ≤ sizeLine ∧ Q (.str (a ++ b)) g
  | .tup a, .tup b => a.length + b.length ≤ sizeLine ∧ Q (.tup (a ++ b)) g
  | x, y => match lstOf g x, lstOf g y with
    | some a, some b => a.length + b.length ≤ sizeLine ∧ if m then ∀ p, g p = none → Q (.adr p) (gset g p (.lst (a ++ b))) else Q (.lst (a ++ b)) g
    | _, _ => False
def oSub : DO2 := fun x y g Q => match x, y with
  | .int i, .int j => Q (.int (i - j)) g
  | .bl i, .int j => Q (.int (b2i i - j)) g
  | .int i, .bl j => Q (.int (i - b2i j)) g
  | _, _ => False
def oMul : DO2 := fun x y g Q => match x, y with
  | .int i, .int j => IntMulOk i j ∧ Q (.int (i * j)) g
  | .str s, .int j => (0 ≤ j ∧ j ≤ 1000000 ∧ s.length * j.toNat ≤ 1000000) ∧ Q (.str (List.replicate j.toNat s).flatten) g
  | x, .int j => match lstOf g x with
    | some l => (0 ≤ j ∧ j ≤ 1000000 ∧ l.length * j.toNat ≤ 1000000) ∧ Q (.lst (List.replicate j.toNat l).flatten) g
    | none => False
  | _, _ => False
def oNeg : DO1 := fun x g Q => match x with
  | .int i => Q (.int (-i)) g
  | _ => False
def oDiv : DO2 := fun x y g Q => match x, y with
  | .int i, .int j => (0 < j ∧ j.natAbs.log2 < 9000) ∧ Q (.int (i / j)) g
  | _, _ => False
def oMod : DO2 := fun x y g Q => match x, y with
  | .int i, .int j => 0 < j ∧ Q (.int (i % j)) g
  | _, _ => False
def oPow : DO2 := fun x y g Q => match x, y with
  | .int i, .int j => (0 ≤ j ∧ j ≤ 1000000 ∧ i.natAbs < 2 ^ 64) ∧ Q (.int (i ^ j.toNat)) g
  | _, _ => False
section
variable {X : Cx} {T : Tab}
theorem fmod_pos {i j : Int} (h : 0 < j) : Int.fmod i j = i % j := Int.fmod_eq_emod_of_nonneg i (by omega)
theorem LO2_of {f : Value → Value → Sem Value} {o : DO2} (h : ∀ x y H Q, LO2 T X.K o x y H Q → ∃ r, OpR X f r ∧ r x y H Q) : OpR X f (LO2 T X.K o) := fun pins s σ H x y v u Q I rx ry q => by
  obtain ⟨r, hr, q⟩ := h x y H Q q
  exact hr pins s σ H x y v u Q I rx ry q
theorem cat_list : OpR X (binaryOp .Add) (fun x y H Q => ∃ l b xs zs, x = .ref l ∧ y = .ref b ∧ Rd H l (.lst xs) ∧ Rd H b (.lst zs) ∧ xs.length + zs.length ≤ sizeLine ∧ ∀ p, H p = none → Q (.ref p) (upd H p (.lst (xs ++ zs)))) := by
  intro pins s σ H x y v u Q I rx ry h
  obtain ⟨l, b, xs, zs, rfl, rfl, hH, hB, hz, q⟩ := h
  cases rx
  cases ry
  obtain ⟨z, its, n, r, e⟩ := hH.ok I.hok
  obtain ⟨z2, its2, n2, r2, e2⟩ := hB.ok I.hok
  have h1 := r.length
  have h2 := r2.length
  refine PySem.P.add_list e e2 ?_ (by rw [List.size_toArray, List.size_toArray]; omega)
  have hf : H s.heap.objs.size = none := I.hok.fresh (Nat.le_refl _)
  refine ⟨.ref s.heap.objs.size, _, I.laid (a := s.heap.objs.size) (o := .lst (xs ++ zs)) (t' := s.toks) (fun b u e => Heap.get?_push_of_some _ e) (Nat.le_refl _) ?_, rfl, q _ hf⟩
  refine ⟨by rw [List.length_append]; exact hz, its ++ its2, 0, r.append r2, ?_⟩
  have e3 : its.toArray ++ its2.toArray = (its ++ its2).toArray := by simp
  rw [← e3]
  exact Heap.get?_push_size _ rfl
theorem xAdd {m : Bool} : OpR X (binaryOp .Add) (LO2 T X.K (oAdd m)) := by
  refine LO2_of fun x y H Q ⟨dx, dy, g, QD, ix, iy, rg, h, c⟩ => ?_
  unfold oAdd at h
  split at h
  · simp only [Is] at ix iy
    exact ⟨_, op_add, _, _, ix, iy, c.is (by simp only [Is]) rg h⟩
  · simp only [Is] at ix iy
    exact ⟨_, op_addb, _, _, ix, iy, c.is (by simp only [Is]) rg h⟩
  · simp only [Is] at ix iy
    refine ⟨_, op_add_str, _, _, ix, iy, by rw [S_len, S_len]; exact h.1, c.is (by simp only [Is]; rw [S_app]) rg h.2⟩
  · simp only [Is] at ix iy
    obtain ⟨a, xs, e1, s1, j1⟩ := ix
    obtain ⟨b, ys, e2, s2, j2⟩ := iy
    obtain ⟨hz, q⟩ := h
    rename_i l1 l2
    refine ⟨_, op_catA, a, b, xs, ys, e1, e2, s1, s2, by rw [← j1.length, ← j2.length]; exact hz, fun z => ?_, fun _ z => ?_, fun _ _ p hp => c.tup hp (j1.append j2) rg q⟩
    · subst z
      have : l1 = [] := by have := j1.length; simpa using this
      subst this
      exact c.is (by simp only [Is]; exact ⟨b, ys, rfl, s2, j2⟩) rg q
    · subst z
      have : l2 = [] := by have := j2.length; simpa using this
      subst this
      rw [List.append_nil] at q
      exact c.is (by simp only [Is]; exact ⟨a, xs, rfl, s1, j1⟩) rg q
  · split at h
    · rename_i l1 l2 e1 e2
      obtain ⟨a, xs, rfl, s1, j1⟩ := lstOf_rd rg ix e1
      obtain ⟨b, ys, rfl, s2, j2⟩ := lstOf_rd rg iy e2
      obtain ⟨hz, q⟩ := h
      have hz' : xs.length + ys.length ≤ sizeLine := by rw [← j1.length, ← j2.length]; exact hz
      cases m with
      | true => exact ⟨_, cat_list, a, b, xs, ys, rfl, rfl, s1, s2, hz', fun p hp => c.mls hp (j1.append j2) rg (by simpa using q)⟩
      | false => exact ⟨_, OpR.frz cat_list, a, b, xs, ys, rfl, rfl, s1, s2, hz', fun p hp => c.lst hp (j1.append j2) rg (by simpa using q)⟩
    · exact h.elim
theorem xSub : OpR X (binaryOp .Sub) (LO2 T X.K oSub) := by
  refine LO2_of fun x y H Q ⟨dx, dy, g, QD, ix, iy, rg, h, c⟩ => ?_
  unfold oSub at h
  split at h
  · simp only [Is] at ix iy
    exact ⟨_, op_sub, _, _, ix, iy, c.is (by simp only [Is]) rg h⟩
  · simp only [Is] at ix iy
    exact ⟨_, op_subb, _, _, ix, iy, c.is (by simp only [Is]) rg h⟩
  · simp only [Is] at ix iy
    exact ⟨_, op_subr, _, _, ix, iy, c.is (by simp only [Is]) rg h⟩
  · exact h.elim
theorem foldl_flat : ∀ (k : Nat) (a : Array Nat) (acc : Array Nat), ((List.replicate k a).foldl (· ++ ·) acc).toList = acc.toList ++ (List.replicate k a.toList).flatten
  | 0, a, acc => by simp
  | k + 1, a, acc => by
    rw [List.replicate_succ, List.foldl_cons, foldl_flat k a]
    simp [List.replicate_succ]
theorem rep_len {α : Type} (l : List α) : ∀ k : Nat, (List.replicate k l).flatten.length = l.length * k
  | 0 => by simp
  | k + 1 => by
    rw [List.replicate_succ, List.flatten_cons, List.length_append, rep_len l k, Nat.mul_succ]
    omega
theorem rep_is {T : Tab} {K : PySem.W.Frag} {H : Hp} {l : List D} {xs : List V} (j : IsL T K H l xs) : ∀ k : Nat, IsL T K H (List.replicate k l).flatten (List.replicate k xs).flatten
  | 0 => by simp only [List.replicate_zero, List.flatten_nil]; exact .nil
  | k + 1 => by
    simp only [List.replicate_succ, List.flatten_cons]
    exact j.append (rep_is j k)
def rMulS : R2 := fun x y H Q => ∃ (s : List Nat) (j : Int), x = .str (S s) ∧ y = .int j ∧ 0 ≤ j ∧ j ≤ 1000000 ∧ s.length * j.toNat ≤ 1000000 ∧ Q (.str (S (List.replicate j.toNat s).flatten)) H
theorem mul_strD : OpR X (binaryOp .Mult) rMulS := by
  intro pins s σ H x y v u Q I rx ry h
  obtain ⟨z, j, rfl, rfl, h1, h2, hz, q⟩ := h
  obtain ⟨t, rfl⟩ := rx
  obtain ⟨t2, rfl⟩ := ry
  have hlen : (S z).length = z.length := S_len z
  refine PySem.P.mul_str (by rw [decide_eq_false (by omega), decide_eq_false (by omega)]; rfl) (fun hn _ => ?_) (fun hn _ => ?_) ?_
  · rw [hlen]
    have hj : 0 < j := by omega
    have e : (z.length : Int) * j = ((z.length * j.toNat : Nat) : Int) := by rw [Int.natCast_mul, Int.toNat_of_nonneg h1]
    generalize z.length * j.toNat = P at hz e
    have : (z.length : Int) ≤ (2 ^ 63 - 1) / j := by
      rw [Int.le_ediv_iff_mul_le hj, e]
      omega
    omega
  · rw [hlen]
    generalize z.length * j.toNat = P at hz
    simp [Builtin.Str.tooLong, sizeLine]
    omega
  · have fin : ∀ y : Str, y = S (List.replicate j.toNat z).flatten → (y.length ≤ sizeLine ∧ EP X pins σ Q (.str y s.toks) { s with toks := s.toks + 1 }) := by
      intro y hy
      subst hy
      refine ⟨?_, .str _, H, I.kept (t' := s.toks + 1) (fun b ob q => q), ⟨_, rfl⟩, q⟩
      rw [S_len, rep_len]
      exact Nat.le_trans hz (by decide +kernel)
    split
    · rename_i hn
      have hj : j.toNat = 0 := by omega
      refine fin _ ?_
      rw [hj]
      rfl
    · split
      · rename_i hn hone
        refine ⟨.str (S z), H, I, ⟨_, rfl⟩, ?_⟩
        have e : (List.replicate j.toNat z).flatten = z := by
          rcases Bool.or_eq_true_iff.mp hone with h | h
          · have : j.toNat = 1 := by have := beq_iff_eq.mp h; omega
            rw [this]
            simp
          · have : z.length = 0 := by rw [hlen] at h; exact beq_iff_eq.mp h
            rw [List.eq_nil_of_length_eq_zero this]
            simp
        rw [e] at q
        exact q
      · refine fin _ ?_
        have := foldl_flat j.toNat (S z).cps #[]
        simp only [S]
        congr 1
        apply Array.toList_inj.mp
        rw [this]
        simp [S]
def rRepD : R2 := fun x y H Q => ∃ l j xs, x = .ref l ∧ y = .int j ∧ Rd H l (.lst xs) ∧ 0 ≤ j ∧ j ≤ 1000000 ∧ xs.length * j.toNat ≤ 1000000 ∧ ∀ p, H p = none → Q (.ref p) (upd H p (.lst (List.replicate j.toNat xs).flatten))
theorem mul_lstD : OpR X (binaryOp .Mult) rRepD := by
  intro pins s σ H x y v u Q I rx ry h
  obtain ⟨l, k, xs, rfl, rfl, hH, h1, h2, hz0, q⟩ := h
  cases rx
  obtain ⟨t, rfl⟩ := ry
  obtain ⟨z, its, n, r, e⟩ := hH.ok I.hok
  have hl := r.length
  have hz : xs.length * k.toNat ≤ sizeLine := Nat.le_trans hz0 (by decide +kernel)
  have hlen : its.toArray.size * k.toNat ≤ sizeLine := by rw [List.size_toArray, ← hl]; exact hz
  have hcap : ¬ its.toArray.size * k.toNat > (2 ^ 63 - 1) / 8 := by
    have : (sizeLine : Nat) ≤ (2 ^ 63 - 1) / 8 := by decide
    omega
  have hfit : ¬ (!Builtin.List.listFitsIndex k) = true := by
    rw [fitsIndex_both (by omega) (by omega)]
    exact Bool.false_ne_true
  have hlong : ¬ Builtin.List.listTooLong (its.toArray.size * k.toNat) = true := by
    rw [notLongL hlen]
    exact Bool.false_ne_true
  have hnew : List.foldl (fun x1 x2 => x1 ++ x2) #[] (List.replicate (if its.toArray.isEmpty = true then 0 else k.toNat) its.toArray) = (List.replicate k.toNat its).flatten.toArray := by
    have f0 : ∀ m : Nat, List.foldl (fun x1 x2 => x1 ++ x2) #[] (List.replicate m its.toArray) = (List.replicate m its).flatten.toArray := fun m => by
      have := foldl_rep its m []
      rw [List.nil_append] at this
      exact this
    rw [f0]
    cases its with
    | nil => simp
    | cons a r' => rw [if_neg (by simp)]
  refine wpAny_binaryOp_repeat_ref (T := "list") (U := "int") (by decide) ⟨_, e, rfl⟩ (fun s' => typeIs_int s' k t) noFill_list_mul F.fills_int_mul F.slot_int_rmul repeat_list F.slot_int_index.lookup
    (call_meets F.slot_int_rmul (typeIs_int s k t) F.entry_int_rmul (F.args_int_rmul_2 _ _) (int___rmul___int_list k t l its.toArray n)
      ⟨e, rfl, ⟨_, e, rfl⟩, call_meets F.slot_list_mul ⟨_, e, rfl⟩ F.entry_list_mul (F.args_list_mul_2 _ _) (AutoListH.list___mul___list_int_3 l its.toArray n k t hfit hcap hlong) ⟨e, ?_⟩⟩)
  rw [hnew]
  have hf : H s.heap.objs.size = none := I.hok.fresh (Nat.le_refl _)
  refine ⟨.ref s.heap.objs.size, _, I.laid (a := s.heap.objs.size) (o := .lst (List.replicate k.toNat xs).flatten) (t' := s.toks) (fun b u e => Heap.get?_push_of_some _ e) (Nat.le_refl _) ?_, rfl, q _ hf⟩
  refine ⟨by rw [rep_len]; exact hz, _, 0, r.rep k.toNat, ?_⟩
  exact Heap.get?_push_size _ rfl
theorem xMul : OpR X (binaryOp .Mult) (LO2 T X.K oMul) := by
  refine LO2_of fun x y H Q ⟨dx, dy, g, QD, ix, iy, rg, h, c⟩ => ?_
  unfold oMul at h
  split at h
  · simp only [Is] at ix iy
    exact ⟨_, opI (C := IntMulOk) (g := fun i j => i * j) fun _ _ _ _ _ _ _ hc q => mul_int q hc, _, _, ix, iy, h.1, c.is (by simp only [Is]) rg h.2⟩
  · simp only [Is] at ix iy
    exact ⟨_, mul_strD, _, _, ix, iy, h.1.1, h.1.2.1, h.1.2.2, c.is (by simp only [Is]) rg h.2⟩
  · split at h
    · rename_i l1 e1
      obtain ⟨a, xs, rfl, s1, j1⟩ := lstOf_rd rg ix e1
      simp only [Is] at iy
      exact ⟨_, OpR.frz mul_lstD, a, _, xs, rfl, iy, s1, h.1.1, h.1.2.1, by rw [← j1.length]; exact h.1.2.2, fun p hp => c.lst hp (rep_is j1 _) rg h.2⟩
    · exact h.elim
  · exact h.elim
theorem de_neg {C : Cal} {W : WX} {a : Expr} {ta : DTE} {pos : Pos} (ha : PE X a (LE T X.K C W ta)) : PE X (.UnaryOp .USub a pos) (LE T X.K C W (dUn oNeg ta)) := by
  refine de_un (r := rU fun i => .int (-i)) (fun ta h => pe_un un_neg h) (fun x H Q ⟨d, g, QD, i, rg, h, c⟩ => ?_) ha
  unfold oNeg at h
  split at h
  · simp only [Is] at i
    exact ⟨_, i, c.is (d := .int _) (by simp only [Is]) rg h⟩
  · exact h.elim
theorem xDiv : OpR X (binaryOp .FloorDiv) (LO2 T X.K oDiv) := by
  refine LO2_of fun x y H Q ⟨dx, dy, g, QD, ix, iy, rg, h, c⟩ => ?_
  unfold oDiv at h
  split at h
  · simp only [Is] at ix iy
    exact ⟨_, op_fdivW, _, _, ix, iy, h.1, c.is (by simp only [Is]) rg h.2⟩
  · exact h.elim
theorem xMod : OpR X (binaryOp .Mod) (LO2 T X.K oMod) := by
  refine LO2_of fun x y H Q ⟨dx, dy, g, QD, ix, iy, rg, h, c⟩ => ?_
  unfold oMod at h
  split at h
  · simp only [Is] at ix iy
    refine ⟨_, op_modN, _, _, ix, iy, by have := h.1; omega, c.is (d := .int _) (by simp only [Is]; rw [fmod_pos h.1]) rg h.2⟩
  · exact h.elim
theorem xPow : OpR X (binaryOp .Pow) (LO2 T X.K oPow) := by
  refine LO2_of fun x y H Q ⟨dx, dy, g, QD, ix, iy, rg, h, c⟩ => ?_
  unfold oPow at h
  split at h
  · simp only [Is] at ix iy
    exact ⟨_, op_pow, _, _, ix, iy, h.1, c.is (by simp only [Is]) rg h.2⟩
  · exact h.elim
end

/-! ## K. Equality of data -/
mutual
def eqD : D → D → Bool
  | .non, .non => true
  | .bl a, .bl b => a == b
  | .bl a, .int j => (if a then 1 else 0) == j
  | .int i, .bl b => i == (if b then 1 else 0)
  | .int i, .int j => i == j
  | .str a, .str b => a == b
  | .tup a, .tup b => eqL a b
  | .lst a, .lst b => eqL a b
  | .ins c a, .ins d b => c == d && eqL a b
  | _, _ => false
def eqL : List D → List D → Bool
  | [], [] => true
  | x :: xs, y :: ys => eqD x y && eqL xs ys
  | _, _ => false
end
mutual
/-- data without instances, at most n deep -/
def pureD : Nat → D → Bool
  | _, .non => true
  | _, .bl _ => true
  | _, .int _ => true
  | _, .str s => s.all (· < 0x110000)
  | n + 1, .tup l => pureL n l
  | n + 1, .lst l => pureL n l
  | _, _ => false
def pureL : Nat → List D → Bool
  | _, [] => true
  | n, d :: ds => pureD n d && pureL n ds
end
mutual
def toP : D → PyData
  | .non => .none
  | .bl b => .bool b
  | .int i => .int i
  | .str s => .str (S s)
  | .tup l => .tuple (toPL l)
  | .lst l => .list (toPL l)
  | _ => .none
def toPL : List D → List PyData
  | [] => []
  | d :: ds => toP d :: toPL ds
end

section
variable {T : Tab} {K : PySem.W.Frag} {H : Hp}
mutual
theorem dp_of : ∀ (n : Nat) (d : D) (v : V), pureD n d = true → Is T K H d v → Dp K H v (toP d)
  | _, .non, _, _, i => by simp only [Is] at i; subst i; simp only [toP]; exact .non
  | _, .bl b, _, _, i => by simp only [Is] at i; subst i; simp only [toP]; exact .bl b
  | _, .int b, _, _, i => by simp only [Is] at i; subst i; simp only [toP]; exact .int b
  | _, .str b, _, _, i => by simp only [Is] at i; subst i; simp only [toP]; exact .str _
  | n + 1, .tup l, v, h, i => by
    simp only [Is] at i
    obtain ⟨a, xs, rfl, s, j⟩ := i
    simp only [pureD] at h
    simp only [toP]
    exact .tup s (dp_ofL n l xs h j)
  | n + 1, .lst l, v, h, i => by
    simp only [Is] at i
    obtain ⟨a, xs, rfl, ⟨o, s⟩, j⟩ := i
    simp only [pureD] at h
    simp only [toP]
    exact .lst (.inl (.inr ⟨o, s⟩)) (dp_ofL n l xs h j)
  | 0, .tup l, _, h, _ => by simp [pureD] at h
  | 0, .lst l, _, h, _ => by simp [pureD] at h
  | _, .dct _ _, _, h, _ => by simp [pureD] at h
  | _, .ins _ _, _, h, _ => by simp [pureD] at h
  | _, .adr _, _, h, _ => by simp [pureD] at h
  | _, .fn _, _, h, _ => by simp [pureD] at h
  | _, .cls _, _, h, _ => by simp [pureD] at h
  | _, .ty _, _, h, _ => by simp [pureD] at h
theorem dp_ofL : ∀ (n : Nat) (l : List D) (xs : List V), pureL n l = true → IsL T K H l xs → DpAll K H xs (toPL l)
  | _, [], xs, _, i => by simp only [IsL] at i; subst i; simp only [toPL]; exact .nil
  | n, d :: ds, xs, h, i => by
    simp only [IsL] at i
    obtain ⟨v, vs, rfl, a, j⟩ := i
    simp only [pureL, Bool.and_eq_true] at h
    simp only [toPL]
    exact .cons (dp_of n d v h.1 a) (dp_ofL n ds vs h.2 j)
end
end
mutual
theorem canLay_of : ∀ (n : Nat) (d : D), pureD n d = true → (toP d).canLay0 = true ∧ (toP d).depth ≤ n
  | _, .non, _ => by simp [toP, PyData.canLay0, PyData.depth]
  | _, .bl b, _ => by simp [toP, PyData.canLay0, PyData.depth]
  | _, .int b, _ => by simp [toP, PyData.canLay0, PyData.depth]
  | _, .str b, h => by
    simp only [pureD] at h
    refine ⟨?_, by simp [toP, PyData.depth]⟩
    simp only [toP, PyData.canLay0, PyData.strOk]
    simpa [S] using h
  | n + 1, .tup l, h => by
    simp only [pureD] at h
    have := canLay_ofL n l h
    simp only [toP, PyData.canLay0, PyData.depth]
    exact ⟨this.1, by have := this.2; omega⟩
  | n + 1, .lst l, h => by
    simp only [pureD] at h
    have := canLay_ofL n l h
    simp only [toP, PyData.canLay0, PyData.depth]
    exact ⟨this.1, by have := this.2; omega⟩
  | 0, .tup l, h => by simp [pureD] at h
  | 0, .lst l, h => by simp [pureD] at h
  | _, .dct _ _, h => by simp [pureD] at h
  | _, .ins _ _, h => by simp [pureD] at h
  | _, .adr _, h => by simp [pureD] at h
  | _, .fn _, h => by simp [pureD] at h
  | _, .cls _, h => by simp [pureD] at h
  | _, .ty _, h => by simp [pureD] at h
theorem canLay_ofL : ∀ (n : Nat) (l : List D), pureL n l = true → PyData.canLayAll0 (toPL l) = true ∧ PyData.depthAll (toPL l) ≤ n
  | n, [], _ => by simp [toPL, PyData.canLayAll0, PyData.depthAll]
  | n, d :: ds, h => by
    simp only [pureL, Bool.and_eq_true] at h
    have h1 := canLay_of n d h.1
    have h2 := canLay_ofL n ds h.2
    simp only [toPL, PyData.canLayAll0, PyData.depthAll, Bool.and_eq_true]
    exact ⟨⟨h1.1, h2.1⟩, by have := h1.2; have := h2.2; omega⟩
end
theorem shaped_of {n : Nat} {d : D} (h : pureD n d = true) (hn : n ≤ 64) : SeqAt.shaped (toP d) = true := by
  have := canLay_of n d h
  unfold SeqAt.shaped
  rw [this.1, decide_eq_true (by have := this.2; omega)]
  rfl
theorem S_beq (a b : List Nat) : (S a == S b) = (a == b) := by
  by_cases h : a = b
  · subst h; simp
  · have : S a ≠ S b := fun e => h (S_inj e)
    rw [beq_eq_false_iff_ne.mpr h, beq_eq_false_iff_ne.mpr this]
mutual
theorem eqv_of : ∀ (n m : Nat) (x y : D), pureD n x = true → pureD m y = true → PyData.eqv (toP x) (toP y) = eqD x y
  | n, m, x, y, hx, hy => by
    cases x <;> cases y <;> simp [toP, PyData.eqv, eqD, S_beq] <;> try (first | (simp [pureD] at hx; done) | (simp [pureD] at hy; done))
    · cases n <;> cases m <;> simp only [pureD] at hx hy <;> first | (cases hx; done) | (cases hy; done) | skip
      exact eqvL_of _ _ _ _ hx hy
    · cases n <;> cases m <;> simp only [pureD] at hx hy <;> first | (cases hx; done) | (cases hy; done) | skip
      exact eqvL_of _ _ _ _ hx hy
theorem eqvL_of : ∀ (n m : Nat) (x y : List D), pureL n x = true → pureL m y = true → PyData.eqvAll (toPL x) (toPL y) = eqL x y
  | n, m, [], [], _, _ => by simp [toPL, PyData.eqvAll, eqL]
  | n, m, [], _ :: _, _, _ => by simp [toPL, PyData.eqvAll, eqL]
  | n, m, _ :: _, [], _, _ => by simp [toPL, PyData.eqvAll, eqL]
  | n, m, x :: xs, y :: ys, hx, hy => by
    simp only [pureL, Bool.and_eq_true] at hx hy
    simp only [toPL, PyData.eqvAll, eqL]
    rw [eqv_of n m x y hx.1 hy.1, eqvL_of n m xs ys hx.2 hy.2]
end
/-- two scalars whose comparison needs nothing -/
def scD : D → D → Bool
  | .non, .non => true | .non, .int _ => true | .int _, .non => true | .non, .bl _ => true | .bl _, .non => true | .non, .str _ => true | .str _, .non => true
  | .int _, .int _ => true | .bl _, .bl _ => true | .str _, .str _ => true
  | .int _, .str _ => true | .str _, .int _ => true | .bl _, .str _ => true | .str _, .bl _ => true
  | _, _ => false
theorem dec_str (a b : List Nat) : decide (V.str (S a) = V.str (S b)) = (a == b) := by
  by_cases h : a = b
  · subst h; simp
  · have : ¬ V.str (S a) = V.str (S b) := fun e => h (S_inj (by injection e))
    rw [decide_eq_false this, beq_eq_false_iff_ne.mpr h]
/-- a tuple == the empty one -/
def nilT (neg : Bool) : D → D → Bool
  | .tup _, .tup [] => !neg
  | _, _ => false
theorem nilT_is {neg : Bool} {x y : D} (h : nilT neg x y = true) : ∃ l, x = .tup l ∧ y = .tup [] ∧ neg = false := by
  cases x <;> try (cases h; done)
  rename_i l
  cases y <;> try (cases h; done)
  rename_i m
  cases m with
  | nil => exact ⟨l, rfl, rfl, by simpa [nilT] using h⟩
  | cons d m => cases h
/-- == and != (neg) -/
def oEq (neg : Bool) : DO2 := fun x y g Q => match x with
  | .adr a => (match g a with
    | some (.lst l) => (pureD 40 (.lst l) && pureD 40 y) = true ∧ Q (.bl (if neg then !eqD (.lst l) y else eqD (.lst l) y)) g
    | _ => False)
  | x => (scD x y || (pureD 40 x && pureD 40 y) || nilT neg x y) = true ∧ Q (.bl (if neg then !eqD x y else eqD x y)) g
section
variable {X : Cx} {T : Tab}
theorem scal_of {K : PySem.W.Frag} {H : Hp} {x y : D} {v w : V} (h : scD x y = true) (i : Is T K H x v) (j : Is T K H y w) : scal v w = true ∧ decide (v = w) = eqD x y := by
  unfold scD at h
  split at h <;> first | (cases h; done) | skip
  all_goals
    simp only [Is] at i j
    subst i j
    refine ⟨rfl, ?_⟩
    simp only [eqD]
  all_goals first
    | exact dec_int
    | exact dec_bl
    | exact dec_str _ _
    | (simp; done)
theorem xEq (hu : X.A.units + 64 < cLine) : OpR X (compareOp .Eq) (LO2 T X.K (oEq false)) := by
  refine LO2_of fun x y H Q ⟨dx, dy, g, QD, ix, iy, rg, hq, c⟩ => ?_
  unfold oEq at hq
  split at hq
  · split at hq
    · rename_i a _ l e
      obtain ⟨h, q⟩ := hq
      obtain ⟨h1, h2⟩ := Bool.and_eq_true_iff.mp h
      simp only [Is] at ix
      subst ix
      obtain ⟨xs, hx, j⟩ := rg a _ e
      have dp : Dp X.K H (.ref a) (toP (.lst l)) := by
        simp only [toP]
        exact .lst (.inl (.inl hx)) (dp_ofL 39 l xs h1 j)
      refine ⟨_, op_eqD hu, toP (.lst l), toP dy, dp, dp_of _ _ _ h2 iy, shaped_of h1 (by decide), shaped_of h2 (by decide), c.is (d := .bl _) ?_ rg q⟩
      simp only [Is]
      rw [eqv_of _ _ _ _ h1 h2]
      simp
    · exact hq.elim
  obtain ⟨h, q⟩ := hq
  rcases Bool.or_eq_true_iff.mp h with h | h
  rotate_left
  · obtain ⟨l, e1, e2, _⟩ := nilT_is h
    · subst e1 e2
      simp only [Is] at ix iy
      obtain ⟨a, xs, e1, s1, j1⟩ := ix
      obtain ⟨b, ys, e2, s2, j2⟩ := iy
      obtain rfl : ys = [] := by simpa only [IsL] using j2
      refine ⟨_, op_eqE hu, a, b, xs, e1, e2, s1, s2, c.is (d := .bl _) ?_ rg q⟩
      simp only [Is, Bool.false_eq_true, if_false, eqD]
      cases l with
      | nil =>
        obtain rfl : xs = [] := by simpa only [IsL] using j1
        rfl
      | cons d l =>
        have := j1.length
        cases xs with
        | nil => simp at this
        | cons x xs => rfl
  rcases Bool.or_eq_true_iff.mp h with h | h
  · obtain ⟨s, e⟩ := scal_of h ix iy
    exact ⟨_, op_eq, s, c.is (d := .bl _) (by simp only [Is]; rw [e]; simp) rg q⟩
  obtain ⟨h1, h2⟩ := Bool.and_eq_true_iff.mp h
  refine ⟨_, op_eqD hu, toP dx, toP dy, dp_of _ _ _ h1 ix, dp_of _ _ _ h2 iy, shaped_of h1 (by decide), shaped_of h2 (by decide), c.is (d := .bl _) ?_ rg q⟩
  simp only [Is]
  rw [eqv_of _ _ _ _ h1 h2]
  simp
theorem xNe (hu : X.A.units + 64 < cLine) : OpR X (compareOp .NotEq) (LO2 T X.K (oEq true)) := by
  refine LO2_of fun x y H Q ⟨dx, dy, g, QD, ix, iy, rg, hq, c⟩ => ?_
  unfold oEq at hq
  split at hq
  · split at hq
    · rename_i a _ l e
      obtain ⟨h, q⟩ := hq
      obtain ⟨h1, h2⟩ := Bool.and_eq_true_iff.mp h
      simp only [Is] at ix
      subst ix
      obtain ⟨xs, hx, j⟩ := rg a _ e
      have dp : Dp X.K H (.ref a) (toP (.lst l)) := by
        simp only [toP]
        exact .lst (.inl (.inl hx)) (dp_ofL 39 l xs h1 j)
      refine ⟨_, op_neD hu, toP (.lst l), toP dy, dp, dp_of _ _ _ h2 iy, shaped_of h1 (by decide), shaped_of h2 (by decide), c.is (d := .bl _) ?_ rg q⟩
      simp only [Is]
      rw [eqv_of _ _ _ _ h1 h2]
      simp
    · exact hq.elim
  obtain ⟨h, q⟩ := hq
  rcases Bool.or_eq_true_iff.mp h with h | h
  rotate_left
  · obtain ⟨l, e1, e2, e3⟩ := nilT_is h
    cases e3
  rcases Bool.or_eq_true_iff.mp h with h | h
  · obtain ⟨s, e⟩ := scal_of h ix iy
    exact ⟨_, op_ne, s, c.is (d := .bl _) (by simp only [Is]; rw [e]; simp) rg q⟩
  obtain ⟨h1, h2⟩ := Bool.and_eq_true_iff.mp h
  refine ⟨_, op_neD hu, toP dx, toP dy, dp_of _ _ _ h1 ix, dp_of _ _ _ h2 iy, shaped_of h1 (by decide), shaped_of h2 (by decide), c.is (d := .bl _) ?_ rg q⟩
  simp only [Is]
  rw [eqv_of _ _ _ _ h1 h2]
  simp
end
/-- <, <=, >, >= of ints and of texts -/
def oOrd (p : Int → Int → Bool) (q : List Nat → List Nat → Bool) : DO2 := fun x y g Q => match x, y with
  | .int i, .int j => Q (.bl (p i j)) g
  | .str a, .str b => Q (.bl (q a b)) g
  | _, _ => False
def oLt : DO2 := fun x y g Q => match x, y with
  | .tup a, .tup b => (pureD 6 (.tup a) && pureD 6 (.tup b) && PySem.W.alike (toP (.tup a)) (toP (.tup b))) = true ∧ Q (.bl (PySem.W.dataLt (toP (.tup a)) (toP (.tup b)))) g
  | x, y => oOrd (fun i j => decide (i < j)) (fun a b => decide (a < b)) x y g Q
def oLe : DO2 := fun x y g Q => match x, y with
  | .tup a, .tup b => (pureD 6 (.tup a) && pureD 6 (.tup b) && PySem.W.alike (toP (.tup a)) (toP (.tup b))) = true ∧ Q (.bl (!PySem.W.dataLt (toP (.tup b)) (toP (.tup a)))) g
  | x, y => oOrd (fun i j => decide (i ≤ j)) (fun a b => !decide (b < a)) x y g Q
def oGt : DO2 := fun x y g Q => match x, y with
  | .tup a, .tup b => (pureD 6 (.tup a) && pureD 6 (.tup b) && PySem.W.alike (toP (.tup a)) (toP (.tup b))) = true ∧ Q (.bl (PySem.W.dataLt (toP (.tup b)) (toP (.tup a)))) g
  | x, y => oOrd (fun i j => decide (j < i)) (fun a b => decide (b < a)) x y g Q
def oGe : DO2 := oOrd (fun i j => decide (j ≤ i)) fun a b => !decide (a < b)
section
variable {X : Cx} {T : Tab}
theorem xOrd {f : Value → Value → Sem Value} {p : Int → Int → Bool} {q : List Nat → List Nat → Bool} (h1 : OpR X f (rI0 fun i j => .bl (p i j)))
    (h2 : OpR X f (fun x y H Q => ∃ i j, x = .str i ∧ y = .str j ∧ Q (.bl (q i.cps.toList j.cps.toList)) H)) : OpR X f (LO2 T X.K (oOrd p q)) := by
  refine LO2_of fun x y H Q ⟨dx, dy, g, QD, ix, iy, rg, h, c⟩ => ?_
  unfold oOrd at h
  split at h
  · simp only [Is] at ix iy
    exact ⟨_, h1, _, _, ix, iy, c.is (by simp only [Is]) rg h⟩
  · simp only [Is] at ix iy
    exact ⟨_, h2, _, _, ix, iy, c.is (by simp only [Is]) rg h⟩
  · exact h.elim
theorem xLtP (hu : X.A.units + 64 < cLine) : OpR X (compareOp .Lt) (fun x y H Q => ∃ dx dy, Dp X.K H x dx ∧ Dp X.K H y dy ∧ PySem.W.alike dx dy = true ∧ dx ≠ .none ∧ dx.depth ≤ 6 ∧ Q (.bl (PySem.W.dataLt dx dy)) H) := by
  intro pins s σ H x y v u Q I rx ry ⟨dx, dy, h1, h2, ha, hn, hd, q⟩
  obtain ⟨as, r1⟩ := Dp.reads I dx x v h1 rx
  obtain ⟨bs, r2⟩ := Dp.reads I dy y u h2 ry
  refine PySem.W.rcLt_alike dx dy X.A s v u as bs r1 r2 ha hn (by omega) _ _ _ _ ?_
  exact ⟨.bl _, H, I, rfl, q⟩
theorem xLt (hu : X.A.units + 64 < cLine) : OpR X (compareOp .Lt) (LO2 T X.K oLt) := by
  refine LO2_of fun x y H Q ⟨dx, dy, g, QD, ix, iy, rg, h, c⟩ => ?_
  unfold oLt at h
  split at h
  · rename_i a b
    obtain ⟨h1, h2⟩ := h
    simp only [Bool.and_eq_true] at h1
    obtain ⟨⟨p1, p2⟩, p3⟩ := h1
    exact ⟨_, xLtP hu, _, _, dp_of _ _ _ p1 ix, dp_of _ _ _ p2 iy, p3, (fun e => by simp only [toP] at e; cases e), (canLay_of 6 _ p1).2, c.is (d := .bl _) (by simp only [Is]) rg h2⟩
  · unfold oOrd at h
    split at h
    · simp only [Is] at ix iy
      exact ⟨_, op_lt, _, _, ix, iy, c.is (by simp only [Is]) rg h⟩
    · simp only [Is] at ix iy
      exact ⟨_, op_lt_str, _, _, ix, iy, c.is (by simp only [Is]) rg h⟩
    · exact h.elim
theorem xLeP (hu : X.A.units + 64 < cLine) : OpR X (compareOp .LtE) (fun x y H Q => ∃ dx dy, Dp X.K H x dx ∧ Dp X.K H y dy ∧ PySem.W.alike dx dy = true ∧ dx ≠ .none ∧ dx.depth ≤ 6 ∧ Q (.bl (!PySem.W.dataLt dy dx)) H) := by
  intro pins s σ H x y v u Q I rx ry ⟨dx, dy, h1, h2, ha, hn, hd, q⟩
  obtain ⟨as, r1⟩ := Dp.reads I dx x v h1 rx
  obtain ⟨bs, r2⟩ := Dp.reads I dy y u h2 ry
  refine PySem.W.rcLe_alike dx dy X.A s v u as bs r1 r2 ha hn (by omega) _ _ _ _ ?_
  exact ⟨.bl _, H, I, rfl, q⟩
theorem xLe (hu : X.A.units + 64 < cLine) : OpR X (compareOp .LtE) (LO2 T X.K oLe) := by
  refine LO2_of fun x y H Q ⟨dx, dy, g, QD, ix, iy, rg, h, c⟩ => ?_
  unfold oLe at h
  split at h
  · rename_i a b
    obtain ⟨h1, h2⟩ := h
    simp only [Bool.and_eq_true] at h1
    obtain ⟨⟨p1, p2⟩, p3⟩ := h1
    exact ⟨_, xLeP hu, _, _, dp_of _ _ _ p1 ix, dp_of _ _ _ p2 iy, p3, (fun e => by simp only [toP] at e; cases e), (canLay_of 6 _ p1).2, c.is (d := .bl _) (by simp only [Is]) rg h2⟩
  · unfold oOrd at h
    split at h
    · simp only [Is] at ix iy
      exact ⟨_, op_le, _, _, ix, iy, c.is (by simp only [Is]) rg h⟩
    · simp only [Is] at ix iy
      exact ⟨_, op_le_str, _, _, ix, iy, c.is (by simp only [Is]) rg h⟩
    · exact h.elim
theorem xGtP (hu : X.A.units + 64 < cLine) : OpR X (compareOp .Gt) (fun x y H Q => ∃ dx dy, Dp X.K H x dx ∧ Dp X.K H y dy ∧ PySem.W.alike dx dy = true ∧ dx ≠ .none ∧ dx.depth ≤ 6 ∧ Q (.bl (PySem.W.dataLt dy dx)) H) := by
  intro pins s σ H x y v u Q I rx ry ⟨dx, dy, h1, h2, ha, hn, hd, q⟩
  obtain ⟨as, r1⟩ := Dp.reads I dx x v h1 rx
  obtain ⟨bs, r2⟩ := Dp.reads I dy y u h2 ry
  refine PySem.W.rcGt_alike dx dy X.A s v u as bs r1 r2 ha hn (by omega) _ _ _ _ ?_
  exact ⟨.bl _, H, I, rfl, q⟩
theorem xGt (hu : X.A.units + 64 < cLine) : OpR X (compareOp .Gt) (LO2 T X.K oGt) := by
  refine LO2_of fun x y H Q ⟨dx, dy, g, QD, ix, iy, rg, h, c⟩ => ?_
  unfold oGt at h
  split at h
  · rename_i a b
    obtain ⟨h1, h2⟩ := h
    simp only [Bool.and_eq_true] at h1
    obtain ⟨⟨p1, p2⟩, p3⟩ := h1
    exact ⟨_, xGtP hu, _, _, dp_of _ _ _ p1 ix, dp_of _ _ _ p2 iy, p3, (fun e => by simp only [toP] at e; cases e), (canLay_of 6 _ p1).2, c.is (d := .bl _) (by simp only [Is]) rg h2⟩
  · unfold oOrd at h
    split at h
    · simp only [Is] at ix iy
      exact ⟨_, op_gt, _, _, ix, iy, c.is (by simp only [Is]) rg h⟩
    · simp only [Is] at ix iy
      exact ⟨_, op_gt_str, _, _, ix, iy, c.is (by simp only [Is]) rg h⟩
    · exact h.elim
theorem xGe : OpR X (compareOp .GtE) (LO2 T X.K oGe) := xOrd op_ge op_ge_str
end
end Cn

namespace Cn
open PySem PySem.Spec PyProof.Rows L2

/-! ## L. Attributes of instances -/
section
variable {X : Cx} {T : Tab} {C : Cal} {W : WX} {pins : List (Addr × Obj)} {σ : L2.St} {H : Hp} {s : Shared} {a CC dx : Addr} {fs : List (Str × V)} {f : Str} {v : V} {A : Around} {E : Value → Shared → Prop}
theorem ins_rd (hok : HOk X.prog X.w H s.heap) (e : Rd H a (.ins CC dx fs)) : ∃ mA, ObjM s.heap a dx CC mA ∧ (∀ f, RelO (fs.lookup f) (mA f)) := by
  obtain ⟨d, z, ne, ob, mA, n, r, q⟩ := (show ObjOk X.prog X.w H s.heap a (.ins CC dx fs) from e.ok hok)
  exact ⟨mA, ⟨ob, n, ne⟩, r⟩
theorem getattr_rd {b : Bool} {Q : Value → Shared → Prop} (I : Inv X pins σ H s) (e : Rd H a (.ins CC dx fs)) (c : Cls X.K CC) (n : NoAttr X.K CC f) (l : fs.lookup f = some v)
    (h : ∀ u s', Inv X pins σ H s' → RelV v u → Q u s') : wpAny (model X.prog X.w) A (getAttr (.ref a) f b) Q E s := by
  obtain ⟨mA, O, r⟩ := ins_rd I.hok e
  obtain ⟨u, hu, ru⟩ := RelO.some_of (v := v) (o := mA f) (by rw [← l]; exact r f)
  exact get_map I.kIn O (c.get f) c.hd n hu (handed_of ru) (h u _ (I.tok _) ru)
theorem getmeth_rd {m : Str} {g : Addr} {pl : Sem Bool} {Q : Value × List Value → Shared → Prop} (I : Inv X pins σ H s) (e : Rd H a (.ins CC dx fs)) (c : Cls X.K CC) (k : Meth X.K CC m g) (l : fs.lookup m = none)
    (h : Q (.ref g, [.ref a]) s) : wpAny (model X.prog X.w) A (getMethod (.ref a) m pl) Q E s := by
  obtain ⟨mA, O, r⟩ := ins_rd I.hok e
  exact get_meth I.kIn O (c.get m) k.at_ k.fn (RelO.none_of (by rw [← l]; exact r m)) h
end
/-- the attributes that an instance of a class may have -/
def fldsA : Nat → List Nat
  | 0 => flds 0
  | 1 => flds 1
  | 2 => flds 2
  | 3 => [24, 19, 14, 69, 62, 30]
  | 4 => [24, 110]
  | 5 => [6]
  | _ => []
/-- o.f -/
def oAttr (f : Nat) : DO1 := fun d g Q => match d with
  | .ins c l => match ((flds c).zip l).lookup f with
    | some x => Q x g
    | none => False
  | .adr a => match g a with
    | some (.ins c fs) => match fs.lookup f with
      | some x => (fldsA c).contains f = true ∧ Q x g
      | none => False
    | _ => False
  | .exc c l => match ((xfl c).zip l).lookup f with
    | some x => Q x g
    | none => False
  | _ => False
/-- an exception class as its instances' attributes and isinstance ask it -/
structure XcA (K : PySem.W.Frag) (C : Addr) : Prop where
  x : XfC K C
  cl : (PySem.W.clsIn K C).isSome = true
  ha : PySem.W.findIn K (.ref C) "__class__" = some (some (.builtin "object.__class__"))
  hm : PySem.W.mroIn K C (.type "object") = some true
/-- of each class that stands in the text: it is plain; its fields are no names of its own -/
structure ClsOk (T : Tab) (K : PySem.W.Frag) : Prop where
  cls : ∀ c, T.ok c = true → Cls K (T.cA c)
  no : ∀ c f, T.ok c = true → (fldsA c).contains f = true → NoAttr K (T.cA c) (nm f)
  isa : ∀ c, T.ok c = true → PySem.W.findIn K (.ref (T.cA c)) "__class__" = some (some (.builtin "object.__class__")) ∧ PySem.W.mroIn K (T.cA c) (.type "object") = some true
  isb : PySem.W.specialIn K (.builtin "object.__class__") "__get__" = some (some (.builtin "getset_descriptor.__get__")) ∧ PySem.W.takesIn K (.builtin "object.__class__") = some true
  kitA : ∀ c n, T.ok c = true → n < 7 → PySem.W.kitOne K (.ref (T.cA c)) (.type (tyN n)) = some false
  kitB : ∀ c n, T.ok c = true → n < 7 → PySem.W.kitOne K (.type (tyN n)) (.ref (T.cA c)) = some false
  kitC : ∀ c d, T.ok c = true → T.ok d = true → PySem.W.kitOne K (.ref (T.cA c)) (.ref (T.cA d)) = some (c == d)
  xa : ∀ c, T.xok c = true → XcA K (T.xA c)
  xno : ∀ c f, T.xok c = true → (xfl c).contains f = true → PySem.W.findIn K (.ref (T.xA c)) (nm f) = some none
  xkit : ∀ c d, T.xok c = true → T.xok d = true → PySem.W.kitOne K (.ref (T.xA c)) (.ref (T.xA d)) = some (xsub c d)
  xexm : ∀ c d, T.xok c = true → T.xok d = true → PySem.W.exmOne K (.ref (T.xA c)) (.ref (T.xA d)) = some (xsub c d)
  xkitT : ∀ c n, T.xok c = true → n < 4 → PySem.W.kitOne K (.ref (T.xA c)) (.type (xtyN n)) = some (Nat.beq (xbase c) n)
theorem flds_A {c f : Nat} (h : f ∈ flds c) : (fldsA c).contains f = true := by
  unfold flds at h
  split at h
  · show (flds 0).contains f = true; simpa [flds] using h
  · show (flds 1).contains f = true; simpa [flds] using h
  · show (flds 2).contains f = true; simpa [flds] using h
  · simp at h
theorem lookup_zip {T : Tab} {K : PySem.W.Frag} {H : Hp} {gs : List (Str × V)} : ∀ {ks : List Nat} {l : List D} {xs : List V}, IsL T K H l xs → ks.map (fun f => gs.lookup (nm f)) = xs.map some → ∀ {f : Nat} {x : D}, (ks.zip l).lookup f = some x →
    f ∈ ks ∧ ∃ v, gs.lookup (nm f) = some v ∧ Is T K H x v
  | [], l, xs, i, h, f, x, e => by simp at e
  | k :: ks, [], xs, i, h, f, x, e => by simp at e
  | k :: ks, d :: l, xs, i, h, f, x, e => by
    simp only [IsL] at i
    obtain ⟨v, vs, rfl, a, j⟩ := i
    simp only [List.map_cons, List.cons.injEq] at h
    simp only [List.zip_cons_cons, List.lookup] at e
    split at e
    · rename_i he
      have : f = k := beq_iff_eq.mp he
      subst this
      cases e
      exact ⟨List.mem_cons_self, v, h.1, a⟩
    · obtain ⟨m, q⟩ := lookup_zip j h.2 e
      exact ⟨List.mem_cons_of_mem _ m, q⟩
/-- what of an expression must be plain for its attributes -/
def plainBase : Expr → Bool
  | .Call (.Name _ _) [] [] _ => false
  | _ => true
theorem abase {e : Expr} {f : Str} {env : Env} {m : Sem Value} (h : plainBase e = true) : attributeBase e f env m = m := by
  unfold attributeBase
  split
  · simp [plainBase] at h
  · rfl
section
variable {X : Cx} {T : Tab} {C : Cal} {W : WX} {e o : Expr} {ta : DTE} {pos apos : Pos}
theorem de_attr {f : Nat} {x : Str} (K : ClsOk T X.K) (hx : nm f = x) (hb : plainBase e = true) (he : PE X e (LE T X.K C W ta)) : PE X (.Attribute e x pos) (LE T X.K C W (dUn (oAttr f) ta)) := by
  subst hx
  refine ⟨fun pins s σ H Q I ⟨ρ, g, QD, ED, rs, rg, h, c, ce⟩ => ?_⟩
  refine attr_of (abase hb) (thn (he.run pins s σ H (fun v H' => ∀ s', Inv X pins σ H' s' → ∀ u, RelV v u → wpAny (model X.prog X.w) X.A (getAttr u (nm f) true) (EP X pins σ Q) X.xe s') I ?_) fun u s1 ⟨v, H1, I1, r1, q1⟩ => q1 s1 I1 u r1)
  refine ⟨ρ, g, _, ED, rs, rg, h, ⟨fun v d H1 g1 k1 i1 rg1 h1 s1 I1 u r1 => ?_⟩, ce⟩
  unfold oAttr at h1
  split at h1
  · rename_i c' l
    split at h1
    · rename_i x hl
      simp only [Is] at i1
      obtain ⟨a, ob, dx, fs, xs, hok, rfl, ea, hm, _, j⟩ := i1
      obtain rfl : u = Value.ref a := r1
      obtain ⟨hf, w, hw, iw⟩ := lookup_zip j hm hl
      exact getattr_rd I1 (.inr ⟨ob, ea⟩) (K.cls c' hok) (K.no c' f hok (flds_A hf)) hw fun u' s2 I2 ru => ⟨w, H1, I2, ru, c.go _ _ _ _ k1 iw rg1 h1⟩
    · exact h1.elim
  · rename_i a
    split at h1
    · rename_i c' fs e
      split at h1
      · rename_i x hl
        simp only [Is] at i1
        subst i1
        obtain rfl : u = Value.ref a := r1
        obtain ⟨dx, gs, hok, ea, hz, hq, _⟩ := rg1 a _ e
        obtain ⟨w, hw, iw⟩ := hq f x hl
        exact getattr_rd I1 (.inl ea) (K.cls c' hok) (K.no c' f hok h1.1) hw fun u' s2 I2 ru => ⟨w, H1, I2, ru, c.go _ _ _ _ k1 iw rg1 h1.2⟩
      · exact h1.elim
    · exact h1.elim
  · rename_i c' l
    split at h1
    · rename_i x hl
      simp only [Is] at i1
      obtain ⟨a, ob, vs, xs, hok, rfl, ea, hcl, hdt, hxd, j⟩ := i1
      obtain rfl : u = Value.ref a := r1
      unfold XdF at hxd
      split at hxd
      · rename_i hz
        rw [hz] at hl
        simp at hl
      · obtain ⟨dd, od, gs, ed, ha, hm⟩ := hxd
        obtain ⟨hf, w, hw, iw⟩ := lookup_zip j hm hl
        have hget : s1.heap.get? a = some ob := (I1.hok a _ ea).1
        have hdd := I1.hok dd _ ha
        obtain ⟨ho', mA, hns, hr⟩ := hdd
        obtain ⟨od', ho, hlk⟩ := lookIn_ns hns
        obtain ⟨u2, hu, ru⟩ := RelO.some_of (v := w) (o := mA (nm f)) (by rw [← hw]; exact hr (nm f))
        have J : PySem.W.InstAt s1.heap a ob (_) (some od') := ⟨hget, hcl, by unfold PySem.W.notCls; rw [hdt] <;> rfl, by rw [ed]; exact ho⟩
        have TX := K.xa c' hok
        exact HandSPX.exc_get I1.kIn J TX.x.ga TX.x.gg TX.x.exC (PySem.W.findObj_own TX.x.hdC (K.xno c' f hok (by rw [List.contains_eq_mem]; exact decide_eq_true hf)) rfl (by rw [hlk, hu])) (handed_of ru) ⟨w, H1, I1.tok _, ru, c.go _ _ _ _ k1 iw rg1 h1⟩
    · exact h1.elim
  · exact h1.elim
end
end Cn

namespace Cn
open PySem PySem.Spec PyProof.Rows L2

/-! ## M. Calls of defs, of classes, of methods -/
def dCall (f : Nat) (ts : List DTE) (ks : List Nat) (tks : List DTE) : DTE := fun C ρ g Q E => dArgs ts C ρ g (fun ds g1 => dArgs tks C ρ g1 (fun es g2 => C f ds (ks.zip es) g2 Q E) E) E
def kwNames (kws : List Keyword) (ks : List Nat) : Prop := kws.map (fun k => k.arg) = ks.map (fun i => some (nm i))
section
variable {env : Env} {pos : Pos}
theorem star_any : ∀ {es : List Expr}, es.all plainArg = true → (backTo pos (starEach es env)).any (·.1) = false
  | [], _ => rfl
  | e :: es, h => by
    simp only [List.all_cons, Bool.and_eq_true] at h
    rw [star_cons h.1]
    show (false || (backTo pos (starEach es env)).any (·.1)) = false
    rw [star_any h.2]
    rfl
theorem star_all : ∀ {es : List Expr}, es.all plainArg = true → (backTo pos (starEach es env)).all (fun x => !x.1) = true
  | [], _ => rfl
  | e :: es, h => by
    simp only [List.all_cons, Bool.and_eq_true] at h
    rw [star_cons h.1]
    show (true && (backTo pos (starEach es env)).all (fun x => !x.1)) = true
    rw [star_all h.2]
    rfl
theorem kw_facts : ∀ {kws : List Keyword} {ks : List Nat}, kwNames kws ks → (backToKw pos (keywordEach kws env)).all (·.1.isSome) = true ∧ (backToKw pos (keywordEach kws env)).any (·.1.isNone) = false ∧
    (backToKw pos (keywordEach kws env)).filterMap (·.1) = ks.map nm
  | [], [], _ => ⟨rfl, rfl, rfl⟩
  | [], k :: ks, h => by simp [kwNames] at h
  | ⟨x, e, p⟩ :: kws, [], h => by simp [kwNames] at h
  | ⟨x, e, p⟩ :: kws, k :: ks, h => by
    simp only [kwNames, List.map_cons, List.cons.injEq] at h
    obtain ⟨hx, h⟩ := h
    obtain ⟨i1, i2, i3⟩ := kw_facts (kws := kws) (ks := ks) h
    subst hx
    refine ⟨?_, ?_, ?_⟩
    · show (true && (backToKw pos (keywordEach kws env)).all (·.1.isSome)) = true
      rw [i1]; rfl
    · show (false || (backToKw pos (keywordEach kws env)).any (·.1.isNone)) = false
      rw [i2]; rfl
    · show nm k :: (backToKw pos (keywordEach kws env)).filterMap (·.1) = nm k :: ks.map nm
      rw [i3]
end
section
variable {X : Cx} {T : Tab} {C : Cal} {W : WX} {e o : Expr} {ta : DTE} {pos apos p : Pos} {kws : List Keyword} {es : List Expr} {ts tks : List DTE} {ks : List Nat}
/-- keywords' values -/
def DK (X : Cx) (T : Tab) (C : Cal) (W : WX) (kws : List Keyword) (ts : List DTE) : Prop := PK X kws (LA T X.K C W ts)
theorem dk_nil : DK X T C W [] [] := ⟨fun pos pins s σ H Q I ⟨ρ, g, QD, ED, rs, rg, h, c, _⟩ => pk_nil.run pos pins s σ H Q I (c.go _ _ _ g (Kg.refl g H) .nil rg h)⟩
theorem dk_cons {x : Option Str} {kp : Pos} (ha : PE X e (LE T X.K C W ta)) (hb : DK X T C W kws ts) : DK X T C W (⟨x, e, kp⟩ :: kws) (ta :: ts) := by
  refine ⟨fun pos pins s σ H Q I ⟨ρ, g, QD, ED, rs, rg, h, c, ce⟩ => ?_⟩
  refine (pk_cons ha hb).run pos pins s σ H Q I ?_
  refine ⟨ρ, g, _, ED, rs, rg, h, ⟨fun x dx H1 g1 k1 i1 rg1 h1 => ?_⟩, ce⟩
  refine ⟨ρ, g1, _, ED, rs.mono k1.kp, rg1, h1, ⟨fun xs ds H2 g2 k2 i2 rg2 h2 => ?_⟩, ce.mono k1⟩
  exact c.go _ _ _ _ (k1.trans k2) (.cons (i1.mono k2.kp) i2) rg2 h2
theorem klen : ∀ {kws : List Keyword} {ks : List Nat}, kwNames kws ks → kws.length = ks.length := fun h => by
  have := congrArg List.length h
  simpa [List.length_map] using this
theorem backKw_len {env : Env} : ∀ kws : List Keyword, (backToKw pos (keywordEach kws env)).length = kws.length
  | [] => rfl
  | ⟨x, e, p⟩ :: kws => by
    show (backToKw pos (keywordEach kws env)).length + 1 = kws.length + 1
    rw [backKw_len kws]
/-- arguments and keywords, then a call by values -/
theorem call_with {f : Value} {first : List Value} {pins : List (Addr × Obj)} {s : Shared} {σ : L2.St} {H : Hp} {Q : Value → Shared → Prop} {ρ : R} {g : G} {QD : List D → List D → G → Prop} {ED : ET}
    (hk : PySem.W.keepIn X.K f = true) (hl : ts.length = es.length) (hp : es.all plainArg = true) (hn : kwNames kws ks) (ha : PA X es (LA T X.K C W ts)) (hb : DK X T C W kws tks) (I : Inv X pins σ H s) (rs : RS T X.K H ρ σ) (rg : RG T X.K g H)
    (h : dArgs ts C ρ g (fun ds g1 => dArgs tks C ρ g1 (fun es g2 => QD ds es g2) ED) ED) (ce : CtE T X.K g H ED fun cls dd H' => W cls dd σ H')
    (hq : ∀ us ws vs zs ds es H' g' s', Kg g H g' H' → Inv X pins σ H' s' → Vals vs us → Vals zs ws → IsL T X.K H' ds vs → IsL T X.K H' es zs → RG T X.K g' H' → QD ds es g' → wpAny (model X.prog X.w) X.A (call f (first ++ us) ((ks.map nm).zip ws)) Q X.xe s') :
    wpAny (model X.prog X.w) X.A (callWith pos f first (backTo pos (starEach es X.env)) (backToKw pos (keywordEach kws X.env))) Q X.xe s := by
  obtain ⟨k1, k2, k3⟩ := kw_facts (pos := pos) (env := X.env) hn
  have hA := ha.run pos pins s σ H (fun vs H1 => ∃ ds g1, Kg g H g1 H1 ∧ IsL T X.K H1 ds vs ∧ RG T X.K g1 H1 ∧ dArgs tks C ρ g1 (fun es g2 => QD ds es g2) ED) I
    ⟨ρ, g, _, ED, rs, rg, h, ⟨fun vs ds H1 g1 k i r q => ⟨ds, g1, k, i, r, q⟩⟩, ce⟩
  have hB : ∀ us s1, AP X pins σ (fun vs H1 => ∃ ds g1, Kg g H g1 H1 ∧ IsL T X.K H1 ds vs ∧ RG T X.K g1 H1 ∧ dArgs tks C ρ g1 (fun es g2 => QD ds es g2) ED) us s1 →
      wpAny (model X.prog X.w) X.A (evalAll ((backToKw pos (keywordEach kws X.env)).map (·.2))) (fun ws s2 => X.K.In s2.heap ∧ wpAny (model X.prog X.w) X.A (call f (first ++ us) ((ks.map nm).zip ws)) Q X.xe s2) X.xe s1 := by
    rintro us s1 ⟨vs, H1, I1, r1, ds, g1, kp1, i1, rg1, h1⟩
    refine thn (hb.run pos pins s1 σ H1 (fun zs H2 => ∃ es g2, Kg g1 H1 g2 H2 ∧ IsL T X.K H2 es zs ∧ RG T X.K g2 H2 ∧ QD ds es g2) I1 ⟨ρ, g1, _, ED, rs.mono kp1.kp, rg1, h1, ⟨fun zs es H2 g2 k i r q => ⟨es, g2, k, i, r, q⟩⟩, ce.mono kp1⟩) fun ws s2 ⟨zs, H2, I2, r2, es', g2, kp2, i2, rg2, q2⟩ => ?_
    exact ⟨I2.kIn, hq us ws vs zs ds es' H2 g2 s2 (kp1.trans kp2) I2 r1 r2 (i1.mono kp2.kp) i2 rg2 q2⟩
  cases es with
  | nil =>
    refine PySem.W.callWith_KW0 (h₀ := X.base) I.ok.mod.kin hk k1 ?_ (by rw [k2]; rfl)
    have hA0 : AP X pins σ (fun vs H1 => ∃ ds g1, Kg g H g1 H1 ∧ IsL T X.K H1 ds vs ∧ RG T X.K g1 H1 ∧ dArgs tks C ρ g1 (fun es g2 => QD ds es g2) ED) [] s := by
      cases ts with
      | nil => exact ⟨[], H, I, .nil, [], g, Kg.refl g H, .nil, rg, h⟩
      | cons t ts => cases hl
    refine thn (hB [] s hA0) fun ws s2 hh => ?_
    rw [k3]
    exact hh
  | cons e es =>
    simp only [List.all_cons, Bool.and_eq_true] at hp
    refine PySem.W.callWith_KW (h₀ := X.base) I.ok.mod.kin hk k1 (thn hA fun us s1 q => ?_) (by rw [k2, star_any (by simp [hp.1, hp.2])]; rfl) (star_cons hp.1)
    rw [k3]
    exact hB us s1 q
/-- a def of the module, called -/
theorem de_call {gm : Option Nat} {k f : Nat} {x : Str} (hr : RmX gm T k X) (tk : Takes X W) (F : CalOk gm T X.prog X.w X.K X.mg X.base k (T.fA f) (C f)) (hg : Gl X x) (hm : X.mg x = some (.ref (T.fA f))) (hk : PySem.W.keepIn X.K (.ref (T.fA f)) = true) (hdb : (x == ("__debug__" : Str)) = false)
    (hl : ts.length = es.length) (hp : es.all plainArg = true) (hn : kwNames kws ks) (ha : PA X es (LA T X.K C W ts)) (hb : DK X T C W kws tks) : PE X (.Call (.Name x p) es kws pos) (LE T X.K C W (dCall f ts ks tks)) := by
  refine ⟨fun pins s σ H Q I ⟨ρ, g, QD, ED, rs, rg, h, c, ce⟩ => ?_⟩
  refine wpAny_Call_Name_kw (ld_glob I hg hm ?_ hdb)
  refine call_with (first := []) hk hl hp hn ha hb I rs rg h ce fun us ws vs zs ds es' H' g' s' k' I' r rz i iz rg' q => ?_
  exact run_cal F hr tk I' r rz ⟨ds, es', g', QD, ED, i, iz, rg', q, c.mono k', ce.mono k'⟩
/-- a new instance of the class c, frozen behind its __init__ (def f): a tree -/
def frzIns (c : Nat) (Q : QT) (a : Addr) : QT := fun r g => r = .non ∧ ∃ fs l, g a = some (.ins c fs) ∧ (flds c).map (fun f => fs.lookup f) = l.map some ∧ (∀ p ∈ fs, p.1 ∈ flds c) ∧ Q (.ins c l) (gdel g a)
def dMake (c f : Nat) (fz : Bool) (ts : List DTE) (ks : List Nat) (tks : List DTE) : DTE := fun C ρ g Q E => dArgs ts C ρ g (fun ds g1 => dArgs tks C ρ g1 (fun es g2 => ∀ a, g2 a = none →
  C f (.adr a :: ds) (ks.zip es) (gset g2 a (.ins c [])) (if fz then frzIns c Q a else fun r g' => r = .non ∧ Q (.adr a) g') E) E) E
theorem fld_vals {H : Hp} {gs : List (Str × V)} {fs : List (Nat × D)} (hq : ∀ f d, fs.lookup f = some d → ∃ v, gs.lookup (nm f) = some v ∧ Is T X.K H d v) :
    ∀ {ks : List Nat} {l : List D}, ks.map (fun f => fs.lookup f) = l.map some → ∃ xs, ks.map (fun f => gs.lookup (nm f)) = xs.map some ∧ IsL T X.K H l xs
  | [], [], _ => ⟨[], rfl, .nil⟩
  | [], _ :: _, h => by simp at h
  | _ :: _, [], h => by simp at h
  | k :: ks, d :: l, h => by
    simp only [List.map_cons, List.cons.injEq] at h
    obtain ⟨v, h1, h2⟩ := hq k d h.1
    obtain ⟨xs, h3, h4⟩ := fld_vals hq h.2
    exact ⟨v :: xs, by simp only [List.map_cons, h1, h3], .cons h2 h4⟩
theorem mem_lookup {fs : List (Nat × D)} {f : Nat} : ∀ (_ : (fs.lookup f).isSome = true), ∃ p ∈ fs, p.1 = f := by
  induction fs with
  | nil => intro h; simp at h
  | cons p r ih =>
    intro h
    obtain ⟨k, d⟩ := p
    simp only [List.lookup] at h
    split at h
    · rename_i e
      exact ⟨_, List.mem_cons_self, (beq_iff_eq.mp e).symm⟩
    · obtain ⟨p, m, e⟩ := ih h
      exact ⟨p, List.mem_cons_of_mem _ m, e⟩
theorem de_make {gm : Option Nat} {k c f : Nat} {fz : Bool} {x : Str} (hr : RmX gm T (k + 1) X) (tk : Takes X W) (F : CalOk gm T X.prog X.w X.K X.mg X.base k (T.fA f) (C f)) (M : Mk X.K (T.cA c) (T.fA f)) (hok : T.ok c = true) (hg : Gl X x) (hm : X.mg x = some (.ref (T.cA c))) (hdb : (x == ("__debug__" : Str)) = false)
    (hl : ts.length = es.length) (hp : es.all plainArg = true) (hn : kwNames kws ks) (ha : PA X es (LA T X.K C W ts)) (hb : DK X T C W kws tks) : PE X (.Call (.Name x p) es kws pos) (LE T X.K C W (dMake c f fz ts ks tks)) := by
  refine ⟨fun pins s σ H Q I ⟨ρ, g, QD, ED, rs, rg, h, cc, ce⟩ => ?_⟩
  refine wpAny_Call_Name_kw (ld_glob I hg hm ?_ hdb)
  refine call_with (first := []) M.kp hl hp hn ha hb I rs rg h ce fun us ws vs zs ds es' H' g' s' k' I' r rz i iz rg' q => ?_
  have mk : ∀ (Q' : VK) (QQ : Addr → QT), (∀ a, g' a = none → C f (.adr a :: ds) (ks.zip es') (gset g' a (.ins c [])) (QQ a) ED) →
      (∀ a v d H2 g2, Kg g' H' g2 H2 → g' a = none → v = .non ∨ v ≠ .non → Is T X.K H2 d v → RG T X.K g2 H2 → QQ a d g2 → v = .non ∧ Q' (.ref a) H2) →
      wpAny (model X.prog X.w) X.A (call (.ref (T.cA c)) us ((ks.map nm).zip ws)) (EP X pins σ Q') X.xe s' := by
    intro Q' QQ hc hQ
    refine run_mk M F hr tk I' r rz fun a dx na nd ne => ?_
    have kp1 : Kg g' H' (gset g' a (.ins c [])) (upd (upd H' dx (.own a)) a (.ins (T.cA c) dx [])) := (Kg.new nd).trans (Kg.add (by rw [upd_ne (Ne.symm ne)]; exact na))
    have rg1 : RG T X.K (gset g' a (.ins c [])) (upd (upd H' dx (.own a)) a (.ins (T.cA c) dx [])) :=
      (rg'.beside nd).add (by rw [upd_ne (Ne.symm ne)]; exact na) (show ∃ dx' gs, _ from ⟨dx, [], hok, upd_same, Nat.le_refl _, fun f d q => by simp at q, fun x _ => rfl⟩)
    refine ⟨.adr a :: ds, es', _, QQ a, ED, .cons (by simp only [Is]) (i.mono kp1.kp), iz.mono kp1.kp, rg1, hc a (rg'.none na), ⟨fun v d H2 g2 k2 i2 rg2 q2 => ?_⟩, (ce.mono k').mono kp1⟩
    exact hQ a v d H2 g2 (kp1.trans k2) (rg'.none na) (by by_cases v = .non <;> simp [*]) i2 rg2 q2
  cases fz with
  | false =>
    refine mk Q (fun a r g' => r = .non ∧ QD (.adr a) g') (fun a ha => q a ha) fun a v d H2 g2 k2 _ _ i2 rg2 ⟨e, q2⟩ => ?_
    subst e
    simp only [Is] at i2
    exact ⟨i2, cc.go _ _ _ _ (k'.trans k2) (by simp only [Is]) rg2 q2⟩
  | true =>
    refine thn (mk (frzQ Q) (fun a => frzIns c QD a) (fun a ha => q a ha) fun a v d H2 g2 k2 _ _ i2 rg2 ⟨e, fs, l, ea, hf, hk, q2⟩ => ?_) fun _ _ z => frz_ep z
    subst e
    simp only [Is] at i2
    refine ⟨i2, ?_⟩
    obtain ⟨dx, gs, ok', ha, hz, hv, hx⟩ := rg2 a _ ea
    obtain ⟨xs, hm1, hm2⟩ := fld_vals hv hf
    refine ⟨a, _, rfl, ha, trivial, fun ob => ?_⟩
    have kp2 : Kp H2 (upd H2 a (.frz ob (.ins (T.cA c) dx gs))) := Kp.frz ha trivial
    refine cc.go _ _ _ _ ((k'.trans k2).trans (Kg.del ea kp2)) ?_ ?_ q2
    · simp only [Is]
      refine ⟨a, ob, dx, gs, xs, ok', rfl, upd_same, hm1, fun x hx' => hx x fun f hf' => ?_, hm2.mono kp2⟩
      obtain ⟨p, hp1, hp2⟩ := mem_lookup hf'
      exact hx' f (hp2 ▸ hk p hp1)
    · intro b o e
      unfold gdel at e
      by_cases hb : b = a
      · rw [if_pos hb] at e; cases e
      · rw [if_neg hb] at e
        exact (rg2 b o e).move kp2 (upd_ne hb)
end
end Cn

namespace Cn
open PySem PySem.Spec PyProof.Rows L2

/-! ## N. Methods -/
abbrev DOM := D → List D → G → QT → Prop
/-- the class of an instance none of whose own attributes is called m -/
def clsM (g : G) (d : D) (m : Nat) : Option Nat := match d with
  | .ins c _ => if (flds c).contains m then none else some c
  | .adr a => match g a with
    | some (.ins c fs) => if (fs.lookup m).isSome then none else some c
    | _ => none
  | _ => none
def isM (d : D) (g : G) : Bool := match d with
  | .adr a => match g a with
    | some (.lst _) => true
    | _ => false
  | _ => false
/-- xs.append(e) -/
def mAppend : DOM := fun d ds g Q => match d, ds with
  | .adr a, [x] => match g a with
    | some (.lst l) => l.length < sizeLine ∧ Q .non (gset g a (.lst (l ++ [x])))
    | _ => False
  | _, _ => False
/-- sep.join(xs) -/
def strsD : List D → Option (List (List Nat))
  | [] => some []
  | .str s :: ds => (strsD ds).map (s :: ·)
  | _ => none
def joinN (a : List Nat) : List (List Nat) → List Nat
  | [] => []
  | [x] => x
  | x :: rest => x ++ a ++ joinN a rest
def mJoin : DOM := fun d ds g Q => match d, ds with
  | .str a, [x] => match lstOf g x with
    | some l => match strsD l with
      | some ss => (ss.map List.length).sum + ss.length * a.length ≤ 16777216 ∧ Q (.str (joinN a ss)) g
      | none => False
    | none => False
  | _, _ => False
/-- xs.pop(i) -/
def mPopA : DOM := fun d ds g Q => match d, ds with
  | .adr a, [.int i] => match g a with
    | some (.lst l) => match l[i.toNat]? with
      | some x => (0 ≤ i ∧ i < 2 ^ 63) ∧ Q x (gset g a (.lst (l.eraseIdx i.toNat)))
      | none => False
    | _ => False
  | _, _ => False
/-- xs.insert(i, x) -/
def mInsert : DOM := fun d ds g Q => match d, ds with
  | .adr a, [.int i, x] => match g a with
    | some (.lst l) => (l.length < sizeLine ∧ 0 ≤ i ∧ i < 2 ^ 63) ∧ Q .non (gset g a (.lst (l.take i.toNat ++ [x] ++ l.drop i.toNat)))
    | _ => False
  | _, _ => False
def isS : D → Bool
  | .str _ => true
  | _ => false
/-- s.lstrip(signs) -/
def mLstrip : DOM := fun d ds g Q => match d, ds with
  | .str a, [.str b] => a.length ≤ sizeLine ∧ Q (.str (a.dropWhile b.contains)) g
  | _, _ => False
def boolsD : List D → Option (List Bool)
  | [] => some []
  | .bl b :: ds => (boolsD ds).map (b :: ·)
  | _ => none
/-- a list of truths -/
def isLs (d : D) (g : G) : Bool := match lstOf g d with
  | some _ => true
  | none => false
/-- xs.count(b), a list of truths -/
def mCount : DOM := fun d ds g Q => match ds with
  | [.bl b] => match lstOf g d with
    | some l => match boolsD l with
      | some bs => Q (.int (bs.count b : Nat)) g
      | none => False
    | none => False
  | _ => False
/-- s.split(sep): a list that nobody writes -/
def mSplit : DOM := fun d ds g Q => match d, ds with
  | .str a, [.str b] => (a.length + 2 ≤ sizeLine ∧ b.isEmpty = false ∧ b.all (· < 256) = true) ∧ Q (.lst ((TL.spl b 0 [] a).map D.str)) g
  | _, _ => False
def upL (a : List Nat) : List Nat := (Txt.upper (S a)).cps.toList
def mUpper : DOM := fun d ds g Q => match d, ds with
  | .str a, [] => a.length ≤ 5592405 ∧ Q (.str (upL a)) g
  | _, _ => False
/-- s.index(sign) -/
def mIndex : DOM := fun d ds g Q => match d, ds with
  | .str a, [.str b] => (match Builtin.Str.occurrences (S a) (S b) 0 (S a).length 1 with
    | i :: _ => Q (.int (i : Nat)) g
    | [] => False)
  | _, _ => False
def bmt2 (m : Nat) (d : D) (_ : G) : Option DOM :=
  if m = 98 then (if isS d then some mSplit else none) else if m = 114 then (if isS d then some mUpper else none) else if m = 38 then (if isS d then some mIndex else none) else none
/-- the methods of built-in types that are served: by the name's number -/
def bmt (m : Nat) (d : D) (g : G) : Option DOM :=
  if m = 2 then (if isM d g then some mAppend else none) else if m = 43 then (if isS d then some mJoin else none) else if m = 82 then (if isM d g then some mPopA else none) else if m = 39 then (if isM d g then some mInsert else none) else if m = 57 then (if isS d then some mLstrip else none) else if m = 17 then (if isLs d g then some mCount else none) else bmt2 m d g
structure BMok (X : Cx) (T : Tab) (name : Str) (d : D) (g : G) (o : DOM) : Prop where
  ex : ∃ Ty id, PlainAttrs Ty ∧ Slot Ty name id ∧ typeOf (.builtin id) = pure (.type "method_descriptor") ∧ (∀ H v, Is T X.K H d v → RG T X.K g H → tyV X.K Ty v H) ∧
    MtR X id (fun x xs H Q => ∃ ds g' QD, Is T X.K H d x ∧ IsL T X.K H ds xs ∧ RG T X.K g' H ∧ o d ds g' QD ∧ Ct T X.K g' H QD Q)
def dMeth (mt : MT) (m : Nat) (ta : DTE) (ts : List DTE) (ks : List Nat) (tks : List DTE) : DTE := fun C ρ g Q E => ta C ρ g (fun d g1 => match clsM g1 d m with
  | some c => match mt c m with
    | some f => dArgs ts C ρ g1 (fun ds g2 => dArgs tks C ρ g2 (fun es g3 => C f (d :: ds) (ks.zip es) g3 Q E) E) E
    | none => False
  | none => match bmt m d g1 with
    | some o => ks = [] ∧ dArgs ts C ρ g1 (fun ds g2 => o d ds g2 Q) E
    | none => False) E
section
variable {X : Cx} {T : Tab} {C : Cal} {W : WX} {e o : Expr} {ta : DTE} {pos apos p : Pos} {kws : List Keyword} {es : List Expr} {ts tks : List DTE} {ks : List Nat}
theorem meth_shape {m : Str} {s : Shared} {Q : Value → Shared → Prop} (hb : plainBase o = true) (hp : es.all plainArg = true) (hn : kwNames kws ks)
    (hf : es.length + kws.length < 29) (hline : (apos.endLine == pos.line) = true)
    (h : wpAny (model X.prog X.w) X.A (eval o X.env) (fun ov s1 => ∀ pl : Sem Bool, wpAny (model X.prog X.w) X.A (getMethod ov m pl) (fun fx s2 => wpAny (model X.prog X.w) X.A (callWith pos fx.1 fx.2 (backTo pos (starEach es X.env)) (backToKw pos (keywordEach kws X.env))) Q X.xe s2) X.xe s1) X.xe s) :
    wpAny (model X.prog X.w) X.A (eval (.Call (.Attribute o m apos) es kws pos) X.env) Q X.xe s := by
  rw [arm_eval_Call, abase hb]
  refine wpAny_bind (wpAny_mono h (fun ov s1 h1 => ?_) fun _ _ e => e)
  refine wpAny_bind (wpAny_standAt ?_)
  have hform : methodCallForm (es.length + kws.length) (backTo pos (starEach es X.env)) (backToKw pos (keywordEach kws X.env)) = true := by
    unfold methodCallForm
    rw [star_all hp, (kw_facts (pos := pos) (env := X.env) hn).1]
    simp only [Bool.true_and, decide_eq_true_eq]
    split <;> omega
  have hpos : methodCallPos true o X.env apos pos = pure pos := by unfold methodCallPos; simp [hline]
  unfold methodCall
  rw [hform]
  refine wpAny_bind (wpAny_holding (wpAny_mono (h1 _) (fun fx s2 h2 => ?_) fun _ _ e => e))
  exact wpAny_bind (wpAny_of_eq hpos h2)
/-- a call of the def f by what it promises here -/
def RunC (X : Cx) (T : Tab) (C : Cal) (W : WX) (f : Nat) : Prop := ∀ (pins : List (Addr × Obj)) (σ : L2.St) (H : Hp) (s : Shared) (Q : VK) (us ws : List Value) (vs zs : List V) (ks : List Nat), Inv X pins σ H s → Vals vs us → Vals zs ws → LSp T X.K (C f) ks vs zs H Q (WE W σ) →
  wpAny (model X.prog X.w) X.A (call (.ref (T.fA f)) us ((ks.map nm).zip ws)) (EP X pins σ Q) X.xe s
theorem de_methG {mt : MT} {m : Nat} {x : Str} (F : ∀ c f, mt c m = some f → RunC X T C W f) (KC : ClsOk T X.K) (hM : ∀ c f, T.ok c = true → mt c m = some f → Meth X.K (T.cA c) (nm m) (T.fA f))
    (hB : ∀ d g o, bmt m d g = some o → BMok X T (nm m) d g o) (hx : nm m = x) (hbase : plainBase o = true) (hf : es.length + kws.length < 29) (hline : (apos.endLine == pos.line) = true)
    (hl : ts.length = es.length) (hlk : kws.length = ks.length) (hp : es.all plainArg = true) (hn : kwNames kws ks) (ho : PE X o (LE T X.K C W ta)) (ha : PA X es (LA T X.K C W ts)) (hb : DK X T C W kws tks) :
    PE X (.Call (.Attribute o x apos) es kws pos) (LE T X.K C W (dMeth mt m ta ts ks tks)) := by
  subst hx
  refine ⟨fun pins s σ H Q I ⟨ρ, g, QD, ED, rs, rg, h, cc, ce⟩ => ?_⟩
  refine meth_shape (s := s) hbase hp hn hf hline ?_
  refine thn (ho.run pins s σ H (fun v H' => ∃ d g1, Kg g H g1 H' ∧ Is T X.K H' d v ∧ RG T X.K g1 H' ∧ (match clsM g1 d m with
    | some c => match mt c m with
      | some f => dArgs ts C ρ g1 (fun ds g2 => dArgs tks C ρ g2 (fun es g3 => C f (d :: ds) (ks.zip es) g3 QD ED) ED) ED
      | none => False
    | none => match bmt m d g1 with
      | some o => ks = [] ∧ dArgs ts C ρ g1 (fun ds g2 => o d ds g2 QD) ED
      | none => False)) I ⟨ρ, g, _, ED, rs, rg, h, ⟨fun v d H1 g1 k1 i1 rg1 h1 => ⟨d, g1, k1, i1, rg1, h1⟩⟩, ce⟩) fun ov s1 ⟨v, H1, I1, r1, d, g1, k1, i1, rg1, h1⟩ pl => ?_
  have own : ∀ (a : Addr) (CC dx : Addr) (gs : List (Str × V)) (c f : Nat), v = .ref a → Rd H1 a (.ins CC dx gs) → CC = T.cA c → T.ok c = true → gs.lookup (nm m) = none → mt c m = some f →
      dArgs ts C ρ g1 (fun ds g2 => dArgs tks C ρ g2 (fun es g3 => C f (d :: ds) (ks.zip es) g3 QD ED) ED) ED →
      wpAny (model X.prog X.w) X.A (getMethod ov (nm m) pl) (fun fx s2 => wpAny (model X.prog X.w) X.A (callWith pos fx.1 fx.2 (backTo pos (starEach es X.env)) (backToKw pos (keywordEach kws X.env))) (EP X pins σ Q) X.xe s2) X.xe s1 := by
    intro a CC dx gs c f ev er eC hok hno hm hd
    subst ev eC
    obtain rfl : ov = Value.ref a := r1
    have M := hM c f hok hm
    refine getmeth_rd I1 er (KC.cls c hok) M hno ?_
    refine call_with (first := [.ref a]) M.kp hl hp hn ha hb I1 (rs.mono k1.kp) rg1 hd (ce.mono k1) fun us ws vs zs ds es' H' g' s' k' I' r rz i iz rg' q => ?_
    refine F c f hm _ _ _ _ _ (.ref a :: us) _ (.ref a :: vs) _ _ I' (.cons rfl r) rz ⟨d :: ds, es', g', QD, ED, .cons (i1.mono k'.kp) i, iz, rg', q, (cc.mono k1).mono k', (ce.mono k1).mono k'⟩
  cases hc : clsM g1 d m with
  | some c =>
    rw [hc] at h1
    dsimp only at h1
    cases hm : mt c m with
    | none => rw [hm] at h1; exact h1.elim
    | some f =>
      rw [hm] at h1
      dsimp only at h1
      unfold clsM at hc
      split at hc
      · rename_i c' l
        split at hc
        · cases hc
        · rename_i hn'
          cases hc
          simp only [Is] at i1
          obtain ⟨a, ob, dx, fs, xs, hok, ev, ea, hmm, hno, j⟩ := i1
          refine own a _ dx fs c f ev (.inr ⟨ob, ea⟩) rfl hok (hno _ fun f' hf' e => ?_) hm h1
          rw [nm_inj e] at hf'
          exact hn' (by simpa using hf')
      · split at hc
        · rename_i a c' fs e
          split at hc
          · cases hc
          · rename_i hn'
            cases hc
            simp only [Is] at i1
            obtain ⟨dx, gs, hok, ea, _, _, hno⟩ := rg1 _ _ e
            refine own _ _ dx gs c f i1 (.inl ea) rfl hok (hno _ fun f' hf' e => ?_) hm h1
            rw [nm_inj e] at hf'
            exact hn' hf'
        · cases hc
      · cases hc
  | none =>
    rw [hc] at h1
    dsimp only at h1
    cases ho' : bmt m d g1 with
    | none => rw [ho'] at h1; exact h1.elim
    | some op =>
      rw [ho'] at h1
      dsimp only at h1
      obtain ⟨hks, h1⟩ := h1
      subst hks
      have hkw : kws = [] := List.eq_nil_of_length_eq_zero hlk
      subst hkw
      obtain ⟨Ty, id, pa, slot, hty, tv, rule⟩ := (hB d g1 op ho').ex
      obtain ⟨t1, t2⟩ := tyV_is I1 r1 (tv H1 v i1 rg1)
      refine getMethod_builtin t1 pa slot hty t2 ?_
      have hA := ha.run pos pins s1 σ H1 (fun vs H2 => ∃ ds g2 QD', Is T X.K H2 d v ∧ IsL T X.K H2 ds vs ∧ RG T X.K g2 H2 ∧ op d ds g2 QD' ∧ Ct T X.K g2 H2 QD' Q) I1
        ⟨ρ, g1, _, ED, rs.mono k1.kp, rg1, h1, ⟨fun vs ds H2 g2 k2 i2 rg2 q2 => ⟨ds, g2, QD, i1.mono k2.kp, i2, rg2, q2, (cc.mono k1).mono k2⟩⟩, ce.mono k1⟩
      cases es with
      | nil =>
        cases ts with
        | cons t ts => cases hl
        | nil =>
          refine Calls.callWith_builtin rfl (PySem.evalArgs_none ?_)
          exact rule pins s1 σ H1 v [] ov [] Q I1 r1 .nil ⟨[], g1, QD, i1, .nil, rg1, h1, cc.mono k1⟩
      | cons e' es' =>
        simp only [List.all_cons, Bool.and_eq_true] at hp
        rw [star_cons hp.1] at hA ⊢
        refine Calls.callWith_builtin (by show (false || (backTo pos (starEach es' X.env)).any (·.1)) = false; rw [star_any hp.2] <;> rfl) (Calls.evalArgs_plain ?_)
        exact thn hA fun us s2 ⟨vs, H2, I2, r2, q2⟩ => rule pins s2 σ H2 v vs ov us Q I2 r1 r2 q2
end
/-! the rules of the built-in types' methods -/
section
variable {X : Cx} {T : Tab}
theorem de_meth {gm : Option Nat} {mt : MT} {k m : Nat} {x : Str} (hr : RmX gm T k X) (tk : Takes X W) (F : ∀ f, CalOk gm T X.prog X.w X.K X.mg X.base k (T.fA f) (C f)) (KC : ClsOk T X.K) (hM : ∀ c f, T.ok c = true → mt c m = some f → Meth X.K (T.cA c) (nm m) (T.fA f))
    (hB : ∀ d g o, bmt m d g = some o → BMok X T (nm m) d g o) (hx : nm m = x) (hbase : plainBase o = true) (hf : es.length + kws.length < 29) (hline : (apos.endLine == pos.line) = true)
    (hl : ts.length = es.length) (hlk : kws.length = ks.length) (hp : es.all plainArg = true) (hn : kwNames kws ks) (ho : PE X o (LE T X.K C W ta)) (ha : PA X es (LA T X.K C W ts)) (hb : DK X T C W kws tks) :
    PE X (.Call (.Attribute o x apos) es kws pos) (LE T X.K C W (dMeth mt m ta ts ks tks)) :=
  de_methG (fun _ f _ _ _ _ _ _ _ _ _ _ _ I r rz h => run_cal (F f) hr tk I r rz h) KC hM hB hx hbase hf hline hl hlk hp hn ho ha hb
theorem bm_append {d : D} {g : G} (h : isM d g = true) : BMok X T (nm 2) d g mAppend := by
  refine ⟨"list", _, PySem.F.plainAttrs_list, PySem.F.slot_list_append, PySem.F.type_list_append, fun H v i r => ?_, ?_⟩
  · unfold isM at h
    split at h
    · split at h
      · rename_i a _ l e
        simp only [Is] at i
        subst i
        obtain ⟨xs, q, j⟩ := r _ _ e
        exact .inl ⟨rfl, xs, SqL.of q⟩
      · cases h
    · cases h
  · intro pins s σ H x xs v us Q I rv rx ⟨ds, g', QD, i, j, rg, q, c⟩
    unfold mAppend at q
    split at q
    · rename_i a y
      split at q
      · rename_i l e
        simp only [Is] at i
        subst i
        obtain ⟨ys, hy, jy⟩ := rg _ _ e
        simp only [IsL] at j
        obtain ⟨w, ws, rfl, iw, rfl⟩ := j
        refine mt_append pins s σ H _ _ v us Q I rv rx ⟨a, ys, w, rfl, rfl, hy, by rw [← jy.length]; exact q.1, ?_⟩
        have kp : Kp H (upd H a (.lst (ys ++ [w]))) := Kp.mut hy (fun _ e => by cases e) fun _ _ e => by cases e
        exact c.go _ _ _ _ (Kg.put e kp) (by simp only [Is]) (rg.put hy kp (q := .lst (l ++ [y])) (show ∃ zs, _ = some (HO.lst zs) ∧ _ from ⟨_, upd_same, (jy.append (.cons iw .nil)).mono kp⟩)) q.2
      · exact q.elim
    · exact q.elim
theorem join_S (a : List Nat) : ∀ ss : List (List Nat), Str.join (S a) (ss.map S) = S (joinN a ss)
  | [] => rfl
  | [x] => rfl
  | x :: y :: r => by
    have ih := join_S a (y :: r)
    show S x ++ S a ++ Str.join (S a) ((y :: r).map S) = _
    rw [ih, S_app, S_app]
    rfl
theorem strs_of {K : PySem.W.Frag} {H : Hp} : ∀ {l : List D} {ss : List (List Nat)} {xs : List V}, strsD l = some ss → IsL T K H l xs → xs = (ss.map S).map V.str
  | [], ss, xs, h, i => by
    simp only [strsD] at h
    cases h
    simp only [IsL] at i
    exact i
  | d :: l, ss, xs, h, i => by
    cases d <;> simp only [strsD] at h <;> first | (cases h; done) | skip
    rename_i s
    obtain ⟨r, h1, rfl⟩ := Option.map_eq_some_iff.mp h
    simp only [IsL] at i
    obtain ⟨v, vs, rfl, iv, j⟩ := i
    simp only [Is] at iv
    rw [iv, strs_of h1 j]
    rfl
theorem bm_join {d : D} {g : G} (h : isS d = true) : BMok X T (nm 43) d g mJoin := by
  refine ⟨"str", _, PySem.F.plainAttrs_str, PySem.F.slot_str_join, PySem.F.type_str_join, fun H v i r => ?_, ?_⟩
  · cases d <;> first | (cases h; done) | skip
    simp only [Is] at i
    subst i
    exact rfl
  · intro pins s σ H x xs v us Q I rv rx ⟨ds, g', QD, i, j, rg, q, c⟩
    unfold mJoin at q
    split at q
    · rename_i a y
      split at q
      · rename_i l e
        split at q
        · rename_i ss es
          simp only [Is] at i
          subst i
          simp only [IsL] at j
          obtain ⟨w, ws, rfl, iw, rfl⟩ := j
          obtain ⟨p, ys, rfl, hs, il⟩ := lstOf_rd rg iw e
          have ey := strs_of es il
          subst ey
          refine mt_join pins s σ H _ _ v us Q I rv rx ⟨S a, p, ss.map S, rfl, rfl, .inl (.inl hs), ?_, ?_⟩
          · rw [List.length_map, S_len, List.map_map]
            have e2 : (fun x : List Nat => (S x).length) = List.length := funext S_len
            show (ss.map fun x => (S x).length).sum + _ ≤ _
            rw [e2]
            exact q.1
          · have e3 : Txt.join (S a) (ss.map S) = S (joinN a ss) := (PySem.StrLaws.glued_eq_join _ _).trans (join_S a ss)
            rw [e3]
            exact c.go _ (.str (joinN a ss)) _ _ (Kg.refl _ _) (by simp only [Is]) rg q.2
        · exact q.elim
      · exact q.elim
    · exact q.elim
theorem IsL.erase {K : PySem.W.Frag} {H : Hp} : ∀ {l : List D} {xs : List V} (i : Nat), IsL T K H l xs → IsL T K H (l.eraseIdx i) (xs.eraseIdx i)
  | [], xs, _, h => by simp only [IsL] at h; subst h; exact .nil
  | d :: ds, xs, i, h => by
    simp only [IsL] at h
    obtain ⟨v, vs, rfl, a, j⟩ := h
    cases i with
    | zero => exact j
    | succ i => exact IsL.cons a (j.erase i)
theorem isM_ty {d : D} {g : G} (h : isM d g = true) {H : Hp} {v : V} (i : Is T X.K H d v) (r : RG T X.K g H) : tyV X.K "list" v H := by
  unfold isM at h
  split at h
  · split at h
    · rename_i a _ l e
      simp only [Is] at i
      subst i
      obtain ⟨xs, q, j⟩ := r _ _ e
      exact .inl ⟨rfl, xs, SqL.of q⟩
    · cases h
  · cases h
theorem bm_pop {d : D} {g : G} (h : isM d g = true) : BMok X T (nm 82) d g mPopA := by
  refine ⟨"list", _, PySem.F.plainAttrs_list, PySem.F.slot_list_pop, PySem.F.type_list_pop, fun H v i r => isM_ty h i r, ?_⟩
  intro pins s σ H x xs v us Q I rv rx ⟨ds, g', QD, i, j, rg, q, c⟩
  unfold mPopA at q
  split at q
  · rename_i a n
    split at q
    · rename_i l e
      split at q
      · rename_i y hy
        simp only [Is] at i
        subst i
        obtain ⟨ys, hys, jy⟩ := rg _ _ e
        simp only [IsL] at j
        obtain ⟨w, ws, rfl, iw, rfl⟩ := j
        simp only [Is] at iw
        subst iw
        obtain ⟨vy, hvy, ivy⟩ := jy.get hy
        obtain ⟨⟨q1, q2⟩, q3⟩ := q
        have hlt : n.toNat < ys.length := (List.getElem?_eq_some_iff.mp hvy).1
        have hix : PySem.seqIndex? n ys.length = some n.toNat := by
          unfold PySem.seqIndex?
          have h1 : ¬ (n < 0) := by omega
          simp only [h1, if_false]
          rw [if_pos]
          simp
          omega
        have kp : Kp H (upd H a (.lst (ys.eraseIdx n.toNat))) := Kp.mut hys (fun _ e => by cases e) fun _ _ e => by cases e
        exact mt_popAt pins s σ H _ _ v us Q I rv rx ⟨a, ys, n, n.toNat, vy, rfl, rfl, hys, by omega, q2, hix, hvy,
          c.go _ _ _ _ (Kg.put e kp) (ivy.mono kp) (rg.put hys kp (q := .lst (l.eraseIdx n.toNat)) (show ∃ zs, _ = some (HO.lst zs) ∧ _ from ⟨_, upd_same, (jy.erase n.toNat).mono kp⟩)) q3⟩
      · exact q.elim
    · exact q.elim
  · exact q.elim
theorem bm_insert {d : D} {g : G} (h : isM d g = true) : BMok X T (nm 39) d g mInsert := by
  refine ⟨"list", _, PySem.F.plainAttrs_list, PySem.F.slot_list_insert, PySem.F.type_list_insert, fun H v i r => isM_ty h i r, ?_⟩
  intro pins s σ H x xs v us Q I rv rx ⟨ds, g', QD, i, j, rg, q, c⟩
  unfold mInsert at q
  split at q
  · rename_i a n y
    split at q
    · rename_i l e
      simp only [Is] at i
      subst i
      obtain ⟨ys, hys, jy⟩ := rg _ _ e
      simp only [IsL] at j
      obtain ⟨w1, ws1, rfl, iw1, w2, ws2, rfl, iw2, rfl⟩ := j
      simp only [Is] at iw1
      subst iw1
      obtain ⟨⟨q0, q1, q2⟩, q3⟩ := q
      have kp : Kp H (upd H a (.lst (ys.take n.toNat ++ [w2] ++ ys.drop n.toNat))) := Kp.mut hys (fun _ e => by cases e) fun _ _ e => by cases e
      exact mt_insert pins s σ H _ _ v us Q I rv rx ⟨a, ys, n, w2, rfl, rfl, hys, by rw [← jy.length]; exact q0, q1, q2,
        c.go _ _ _ _ (Kg.put e kp) (by simp only [Is]) (rg.put hys kp (q := .lst (l.take n.toNat ++ [y] ++ l.drop n.toNat)) (show ∃ zs, _ = some (HO.lst zs) ∧ _ from ⟨_, upd_same, (((jy.take _).append (.cons iw2 .nil)).append (jy.drop _)).mono kp⟩)) q3⟩
    · exact q.elim
  · exact q.elim
theorem lstrip_S (a b : List Nat) : Txt.lstripChars (S a) (S b) = S (a.dropWhile b.contains) := by
  have hd : ∀ (p : Nat → Bool) (l : List Nat), l.drop (l.takeWhile p).length = l.dropWhile p := fun p l => by
    induction l with
    | nil => rfl
    | cons x l ih =>
      by_cases h : p x = true
      · simp only [List.takeWhile_cons_of_pos h, List.dropWhile_cons_of_pos h, List.length_cons, List.drop_succ_cons, ih]
      · simp only [List.takeWhile_cons_of_neg h, List.dropWhile_cons_of_neg h, List.length_nil, List.drop_zero]
  have hc : (S b).cps.contains = b.contains := by funext x; simp [S]
  unfold Txt.lstripChars Txt.stripBy
  rw [hc]
  have hl : (S a).cps.toList = a := by simp [S]
  split
  · rename_i h
    unfold stripSame at h
    have h1 : stripLo b.contains true (S a) = 0 := by simpa using (Bool.and_eq_true_iff.mp h).1
    unfold stripLo at h1
    rw [if_pos rfl, hl] at h1
    have := hd b.contains a
    rw [h1, List.drop_zero] at this
    rw [← this]
  · unfold stripped stripLo stripHi
    rw [if_pos rfl, hl, if_neg (by decide)]
    unfold PySem.Builtin.Str.strSub
    rw [← hd b.contains a]
    simp [S, Str.length]
    exact List.take_of_length_le (by rw [List.length_drop]; omega)
theorem bm_lstrip {d : D} {g : G} (h : isS d = true) : BMok X T (nm 57) d g mLstrip := by
  refine ⟨"str", _, PySem.F.plainAttrs_str, PySem.F.slot_str_lstrip, PySem.F.type_str_lstrip, fun H v i r => ?_, ?_⟩
  · cases d <;> first | (cases h; done) | skip
    simp only [Is] at i
    subst i
    exact rfl
  · intro pins s σ H x xs v us Q I rv rx ⟨ds, g', QD, i, j, rg, q, c⟩
    unfold mLstrip at q
    split at q
    · rename_i a b
      simp only [Is] at i
      subst i
      simp only [IsL] at j
      obtain ⟨w, ws, rfl, iw, rfl⟩ := j
      simp only [Is] at iw
      subst iw
      refine mt_lstripChars pins s σ H _ _ v us Q I rv rx ⟨S a, S b, rfl, rfl, by rw [S_len]; exact q.1, ?_⟩
      rw [lstrip_S]
      exact c.go _ (.str _) _ _ (Kg.refl _ _) (by simp only [Is]) rg q.2
    · exact q.elim
theorem bools_of {T : Tab} {K : PySem.W.Frag} {H : Hp} : ∀ {l : List D} {xs : List V} {bs : List Bool}, boolsD l = some bs → IsL T K H l xs → xs = bs.map V.bl
  | [], _, _, h, i => by simp only [IsL] at i; subst i; simp only [boolsD] at h; cases h; rfl
  | d :: ds, xs, bs, h, i => by
    simp only [IsL] at i
    obtain ⟨v, vs, rfl, a, j⟩ := i
    cases d <;> simp only [boolsD] at h <;> first | (cases h; done) | skip
    simp only [Option.map_eq_some_iff] at h
    obtain ⟨bs', h1, rfl⟩ := h
    simp only [Is] at a
    subst a
    rw [bools_of h1 j]
    rfl
theorem bools_cnt {b : Bool} {bs : List Bool} {its : List Value} (h : Vals (bs.map V.bl) its) : its.countP (fun v => v == .bool b) = bs.count b ∧ ∀ y ∈ its, ∃ c, y = .bool c := by
  induction bs generalizing its with
  | nil => cases h; simp
  | cons c bs ih =>
    cases h with
    | cons r t =>
      cases r
      obtain ⟨h1, h2⟩ := ih t
      refine ⟨?_, fun y hy => ?_⟩
      · rw [List.countP_cons, h1, List.count_cons]
        cases c <;> cases b <;> rfl
      · rcases List.mem_cons.mp hy with rfl | hy
        · exact ⟨_, rfl⟩
        · exact h2 y hy
theorem bm_count {d : D} {g : G} (h : isLs d g = true) : BMok X T (nm 17) d g mCount := by
  refine ⟨"list", _, PySem.F.plainAttrs_list, PySem.F.slot_list_count, PySem.F.type_list_count, fun H v i r => ?_, ?_⟩
  · unfold isLs at h
    split at h
    · rename_i l hl
      obtain ⟨a, xs, rfl, q, _⟩ := lstOf_rd r i hl
      exact .inl ⟨rfl, xs, .inl q⟩
    · cases h
  · intro pins s σ H x xs v us Q I rv rx ⟨ds, g', QD, i, j, rg, q, c⟩
    unfold mCount at q
    split at q
    · rename_i b
      split at q
      · rename_i l hl
        split at q
        · rename_i bs hbs
          obtain ⟨a, ys, rfl, hs, jl⟩ := lstOf_rd rg i hl
          cases rv
          have e := bools_of hbs jl
          subst e
          simp only [IsL] at j
          obtain ⟨w, ws, rfl, iw, rfl⟩ := j
          simp only [Is] at iw
          subst iw
          obtain ⟨u, rfl, ru⟩ := rx.one
          obtain rfl : u = .bool b := ru
          obtain ⟨its, rvs, ⟨⟨cls, dd, data, sl⟩, n, ho, hc, hdn, hd⟩, hlen⟩ := I.list (.inl hs)
          simp only at hc hd
          subst hc hd
          obtain ⟨hcnt, hall⟩ := bools_cnt (b := b) rvs
          refine call_meets PySem.F.slot_list_count ⟨_, ho, rfl⟩ PySem.F.entry_list_count (PySem.F.args_list_count_2 _ _)
            (SeqAt.list_countAt a its.toArray n dd sl (.bool b) (fun v => v == .bool b)) ⟨ho, fun y hy => ?_, ?_⟩
          · obtain ⟨z, rfl⟩ := hall y (by simpa using hy)
            have e2 : (Value.bool z == Value.bool b) = (z == b) := by cases z <;> cases b <;> rfl
            rw [e2]
            exact PySem.SeqAt.EqAt.bool_bool z b
          · refine ⟨.int (bs.count b : Nat), H, I.tok _, ⟨s.toks, ?_⟩, c.is (d := .int _) (by simp only [Is]) rg q⟩
            have e3 : its.toArray.toList.countP (fun v => v == .bool b) = bs.count b := hcnt
            show Value.int ((its.toArray.toList.countP (fun v => v == .bool b) : Nat) : Int) s.toks = Value.int ((bs.count b : Nat) : Int) s.toks
            rw [e3]
        · exact q.elim
      · exact q.elim
    · exact q.elim
theorem isS_ty {d : D} (h : isS d = true) {K : PySem.W.Frag} {H : Hp} {v : V} (i : Is T K H d v) : tyV K "str" v H := by
  cases d <;> first | (cases h; done) | skip
  simp only [Is] at i
  subst i
  exact rfl
theorem bm_split {d : D} {g : G} (h : isS d = true) : BMok X T (nm 98) d g mSplit := by
  refine ⟨"str", _, PySem.F.plainAttrs_str, PySem.F.slot_str_split, PySem.F.type_str_split, fun H v i r => isS_ty h i, ?_⟩
  intro pins s σ H x xs v us Q I rv rx ⟨ds, g', QD, i, j, rg, q, c⟩
  unfold mSplit at q
  split at q
  · rename_i a b
    simp only [Is] at i
    subst i
    simp only [IsL] at j
    obtain ⟨w, ws, rfl, iw, rfl⟩ := j
    simp only [Is] at iw
    subst iw
    obtain ⟨⟨q1, q2, q3⟩, q4⟩ := q
    have hb : b ≠ [] := fun z => by subst z; cases q2
    have e : Txt.split (S a) (S b) = (TL.spl b 0 [] a).map S := SX.split_S hb q3
    refine (MtR.frz mt_split) pins s σ H _ _ v us Q I rv rx ⟨S a, S b, rfl, rfl, ?_, by rw [S_len]; exact q1, fun p hp => ?_⟩
    · rw [S_len]
      cases b with
      | nil => cases q2
      | cons => rfl
    · rw [e]
      refine c.lst hp ?_ rg q4
      rw [List.map_map]
      generalize TL.spl b 0 [] a = L
      induction L with
      | nil => exact .nil
      | cons x L ih => exact .cons (by simp only [Is, Function.comp]) ih
  · exact q.elim
theorem bm_upper {d : D} {g : G} (h : isS d = true) : BMok X T (nm 114) d g mUpper := by
  refine ⟨"str", _, PySem.F.plainAttrs_str, PySem.F.slot_str_upper, PySem.F.type_str_upper, fun H v i r => isS_ty h i, ?_⟩
  intro pins s σ H x xs v us Q I rv rx ⟨ds, g', QD, i, j, rg, q, c⟩
  unfold mUpper at q
  split at q
  · rename_i a
    simp only [Is] at i
    subst i
    simp only [IsL] at j
    subst j
    refine mt_upper pins s σ H _ _ v us Q I rv rx ⟨S a, rfl, rfl, by rw [S_len]; exact q.1, ?_⟩
    exact c.go _ (.str _) _ _ (Kg.refl _ _) (by simp only [Is]; unfold upL; rw [S_list]) rg q.2
  · exact q.elim
theorem bm_index {d : D} {g : G} (h : isS d = true) : BMok X T (nm 38) d g mIndex := by
  refine ⟨"str", _, PySem.F.plainAttrs_str, PySem.F.slot_str_index, PySem.F.type_str_index, fun H v i r => isS_ty h i, ?_⟩
  intro pins s σ H x xs v us Q I rv rx ⟨ds, g', QD, i, j, rg, q, c⟩
  unfold mIndex at q
  split at q
  · rename_i a b
    simp only [Is] at i
    subst i
    simp only [IsL] at j
    obtain ⟨v2, vs2, rfl, j1, rfl⟩ := j
    simp only [Is] at j1
    subst j1
    split at q
    · rename_i k rest e
      refine mt_sindex pins s σ H _ _ v us Q I rv rx ⟨S a, S b, k, rest, rfl, rfl, e, ?_⟩
      exact c.go _ (.int _) _ _ (Kg.refl _ _) (by simp only [Is]) rg q
    · exact q.elim
  · exact q.elim
theorem bmt2_ok {m : Nat} {d : D} {g : G} {o : DOM} (h : bmt2 m d g = some o) : BMok X T (nm m) d g o := by
  unfold bmt2 at h
  split at h
  · rename_i e
    subst e
    split at h
    · rename_i e; cases h; exact bm_split e
    · cases h
  · split at h
    · rename_i e
      subst e
      split at h
      · rename_i e; cases h; exact bm_upper e
      · cases h
    · split at h
      · rename_i e
        subst e
        split at h
        · rename_i e; cases h; exact bm_index e
        · cases h
      · cases h
theorem bmt_ok {m : Nat} {d : D} {g : G} {o : DOM} (h : bmt m d g = some o) : BMok X T (nm m) d g o := by
  unfold bmt at h
  split at h
  · rename_i e
    subst e
    split at h
    · rename_i e; cases h; exact bm_append e
    · cases h
  · split at h
    · rename_i e
      subst e
      split at h
      · rename_i e; cases h; exact bm_join e
      · cases h
    · split at h
      · rename_i e
        subst e
        split at h
        · rename_i e; cases h; exact bm_pop e
        · cases h
      · split at h
        · rename_i e
          subst e
          split at h
          · rename_i e; cases h; exact bm_insert e
          · cases h
        · split at h
          · rename_i e
            subst e
            split at h
            · rename_i e; cases h; exact bm_lstrip e
            · cases h
          · split at h
            · rename_i e
              subst e
              split at h
              · rename_i e; cases h; exact bm_count e
              · cases h
            · exact bmt2_ok h
end
end Cn

namespace Cn
open PySem PySem.Spec PyProof.Rows L2

/-! ## O. Tests -/
def truthD (g : G) : D → Option Bool
  | .non => some false
  | .bl b => some b
  | .int i => some (i != 0)
  | .str s => if s.length ≤ sizeLine then some (!s.isEmpty) else none
  | .tup l => some (!l.isEmpty)
  | .lst l => some (!l.isEmpty)
  | .adr a => match g a with
    | some (.lst l) => some (!l.isEmpty)
    | some (.dct ks _) => some (!ks.isEmpty)
    | _ => none
  | _ => none
theorem isEmpty_len {α β : Type} {l : List α} {m : List β} (h : l.length = m.length) : l.isEmpty = m.isEmpty := by
  cases l <;> cases m <;> simp_all
theorem truth_of {T : Tab} {K : PySem.W.Frag} {H : Hp} {g : G} {d : D} {v : V} {b : Bool} (r : RG T K g H) (i : Is T K H d v) (h : truthD g d = some b) : TruV K v H b := by
  unfold truthD at h
  split at h
  · simp only [Is] at i; subst i; cases h; rfl
  · simp only [Is] at i; subst i; cases h; rfl
  · simp only [Is] at i; subst i; cases h; rfl
  · split at h
    · simp only [Is] at i
      subst i
      cases h
      refine ⟨by rw [S_len]; assumption, ?_⟩
      rename_i s _
      rw [S_len]
      cases s <;> simp
      omega
    · cases h
  · simp only [Is] at i
    obtain ⟨a, xs, rfl, s, j⟩ := i
    cases h
    exact .inr (.inl ⟨xs, s, by rw [isEmpty_len j.length]⟩)
  · simp only [Is] at i
    obtain ⟨a, xs, rfl, ⟨o, s⟩, j⟩ := i
    cases h
    exact .inl ⟨xs, .inl (.inr ⟨o, s⟩), by rw [isEmpty_len j.length]⟩
  · split at h
    · rename_i a _ l e
      simp only [Is] at i
      subst i
      cases h
      obtain ⟨xs, q, j⟩ := r _ _ e
      exact .inl ⟨xs, SqL.of q, by rw [isEmpty_len j.length]⟩
    · rename_i a _ ks vs e
      simp only [Is] at i
      subst i
      cases h
      obtain ⟨kvs, q, j, _⟩ := r _ _ e
      refine .inr (.inr ⟨kvs, q, ?_⟩)
      have := j.length
      rw [List.length_map] at this
      rw [isEmpty_len this]
    · cases h
  · cases h
def dTru (t : DTE) : DTT := fun C ρ g Q E => t C ρ g (fun d g1 => match truthD g1 d with
  | some b => Q b g1
  | none => False) E
/-- a comparison as a test -/
def dTst (t : DTE) : DTT := fun C ρ g Q E => t C ρ g (fun d g1 => match d with
  | .bl b => Q b g1
  | _ => False) E
def dNot (t : DTT) : DTT := fun C ρ g Q E => t C ρ g (fun b g1 => Q (!b) g1) E
def dAnd (t u : DTT) : DTT := fun C ρ g Q E => t C ρ g (fun b g1 => match b with
  | true => u C ρ g1 Q E
  | false => Q false g1) E
def dOr (t u : DTT) : DTT := fun C ρ g Q E => t C ρ g (fun b g1 => match b with
  | true => Q true g1
  | false => u C ρ g1 Q E) E
def dStopT : DTT := fun _ _ _ _ _ => False
/-- .. as values -/
def dAndV (t u : DTE) : DTE := fun C ρ g Q E => t C ρ g (fun d g1 => match truthD g1 d with
  | some true => u C ρ g1 Q E
  | some false => Q d g1
  | none => False) E
def dOrV (t u : DTE) : DTE := fun C ρ g Q E => t C ρ g (fun d g1 => match truthD g1 d with
  | some true => Q d g1
  | some false => u C ρ g1 Q E
  | none => False) E
def dNotV (t : DTE) : DTE := fun C ρ g Q E => t C ρ g (fun d g1 => match truthD g1 d with
  | some b => Q (.bl (!b)) g1
  | none => False) E
def dIf (c : DTT) (t u : DTE) : DTE := fun C ρ g Q E => c C ρ g (fun b g1 => match b with
  | true => t C ρ g1 Q E
  | false => u C ρ g1 Q E) E
def plainT : Expr → Bool
  | .UnaryOp .Not _ _ => false
  | .BoolOp _ _ _ => false
  | .IfExp _ _ _ _ => false
  | .Compare _ _ _ _ => false
  | _ => true
theorem isTrue_shape {e : Expr} {env : Env} (h : plainT e = true) (w : Sem Value) : isTrue e env w = (do let v ← w; standAt e.pos; holding [v] (truthy v)) := by
  cases e <;> first | rfl | (cases h; done) | skip
  rename_i op _ _
  cases op <;> first | rfl | (cases h; done)
section
variable {X : Cx} {T : Tab} {C : Cal} {W : WX} {e a b c : Expr} {ta tb tc : DTE} {t u : DTT} {pos : Pos} {rest : List Expr} {o o' : DO2}
theorem dt_stop : PT X e (LT T X.K C W dStopT) := ⟨fun _ _ _ _ _ _ ⟨_, _, _, _, _, _, h, _⟩ => h.elim⟩
theorem dt_tru (hp : plainT e = true) (h : PE X e (LE T X.K C W ta)) : PT X e (LT T X.K C W (dTru ta)) := by
  refine PT.imp (pt_truth h (isTrue_shape hp)) fun σ H Q ⟨ρ, g, QD, ED, rs, rg, h, c, ce⟩ => ?_
  refine ⟨ρ, g, _, ED, rs, rg, h, ⟨fun v d H1 g1 k1 i1 rg1 h1 => ?_⟩, ce⟩
  split at h1
  · rename_i b e
    exact ⟨b, truth_of rg1 i1 e, c.go _ _ _ k1 rg1 h1⟩
  · exact h1.elim
theorem lt_tst {r : R2} (hr : ∀ x y H Q, LO2 T X.K o x y H Q → r x y H Q) {σ : L2.St} {H : Hp} {Q : Bool → Hp → Prop} (q : LT T X.K C W (dTst (dBin o ta tb)) σ H Q) : tTest (tOp r (LE T X.K C W ta) (LE T X.K C W tb)) σ H Q := by
  obtain ⟨ρ, g, QD, ED, rs, rg, h, c, ce⟩ := q
  refine ⟨ρ, g, _, ED, rs, rg, h, ⟨fun x dx H1 g1 k1 i1 rg1 h1 => ?_⟩, ce⟩
  refine ⟨ρ, g1, _, ED, rs.mono k1.kp, rg1, h1, ⟨fun y dy H2 g2 k2 i2 rg2 h2 => ?_⟩, ce.mono k1⟩
  refine hr _ _ _ _ ⟨dx, dy, g2, _, i1.mono k2.kp, i2, rg2, h2, ⟨fun v d H3 g3 k3 i3 rg3 h3 => ?_⟩⟩
  split at h3
  · simp only [Is] at i3
    exact ⟨_, i3, c.go _ _ _ ((k1.trans k2).trans k3) rg3 h3⟩
  · exact h3.elim
theorem dt_cmp {op : CmpOp} (hr : OpR X (compareOp op) (LO2 T X.K o)) (hm : behindInMarks op b = false) (ha : PE X a (LE T X.K C W ta)) (hb : PE X b (LE T X.K C W tb)) : PT X (.Compare a [op] [b] pos) (LT T X.K C W (dTst (dBin o ta tb))) :=
  PT.imp (pt_cmpR hr ha hb hm) fun σ H Q q => lt_tst (fun _ _ _ _ h => h) q
theorem de_cmp {op : CmpOp} (hr : OpR X (compareOp op) (LO2 T X.K o)) (hm : behindInMarks op b = false) (ha : PE X a (LE T X.K C W ta)) (hb : PE X b (LE T X.K C W tb)) : PE X (.Compare a [op] [b] pos) (LE T X.K C W (dBin o ta tb)) :=
  de_bin (fun _ _ h1 h2 => pe_cmpR hr h1 h2 hm) (fun _ _ _ _ h => h) ha hb
def dChain (o o' : DO2) (ta tb tc : DTE) : DTE := fun C ρ g Q E => ta C ρ g (fun x g1 => tb C ρ g1 (fun y g2 => o x y g2 fun z g3 => match z with
  | .bl true => tc C ρ g3 (fun w g4 => o' y w g4 Q) E
  | .bl false => Q (.bl false) g3
  | _ => False) E) E
theorem le_chain {r r' : R2} (hr : ∀ x y H Q, LO2 T X.K o x y H Q → r x y H Q) (hr' : ∀ x y H Q, LO2 T X.K o' x y H Q → r' x y H Q) {σ : L2.St} {H : Hp} {Q : VK} {QD : QT} {ED : ET} {ρ : R} {g : G} (rs : RS T X.K H ρ σ) (rg : RG T X.K g H)
    (h : dChain o o' ta tb tc C ρ g QD ED) (c : Ct T X.K g H QD Q) (ce : CtE T X.K g H ED fun cls dd H' => W cls dd σ H') : tChain r r' (LE T X.K C W ta) (LE T X.K C W tb) (LE T X.K C W tc) σ H Q := by
  refine ⟨ρ, g, _, ED, rs, rg, h, ⟨fun x dx H1 g1 k1 i1 rg1 h1 => ?_⟩, ce⟩
  refine ⟨ρ, g1, _, ED, rs.mono k1.kp, rg1, h1, ⟨fun y dy H2 g2 k2 i2 rg2 h2 => ?_⟩, ce.mono k1⟩
  refine hr _ _ _ _ ⟨dx, dy, g2, _, i1.mono k2.kp, i2, rg2, h2, ⟨fun v d H3 g3 k3 i3 rg3 h3 => ?_⟩⟩
  have k13 := (k1.trans k2).trans k3
  split at h3
  · simp only [Is] at i3
    refine ⟨true, i3, ?_⟩
    rw [if_pos rfl]
    refine ⟨ρ, g3, _, ED, rs.mono k13.kp, rg3, h3, ⟨fun w dw H4 g4 k4 i4 rg4 h4 => ?_⟩, ce.mono k13⟩
    exact hr' _ _ _ _ ⟨dy, dw, g4, QD, (i2.mono k3.kp).mono k4.kp, i4, rg4, h4, c.mono (k13.trans k4)⟩
  · simp only [Is] at i3
    refine ⟨false, i3, ?_⟩
    rw [if_neg Bool.false_ne_true]
    exact c.go _ _ _ _ k13 (by simp only [Is]) rg3 h3
  · exact h3.elim
theorem de_chain {op op' : CmpOp} (hr : OpR X (compareOp op) (LO2 T X.K o)) (hr' : OpR X (compareOp op') (LO2 T X.K o')) (hm : lastMarks [op, op'] [b, c] = false) (ha : PE X a (LE T X.K C W ta)) (hb : PE X b (LE T X.K C W tb)) (hc : PE X c (LE T X.K C W tc)) :
    PE X (.Compare a [op, op'] [b, c] pos) (LE T X.K C W (dChain o o' ta tb tc)) :=
  PE.imp (pe_chain hr hr' ha hb hc hm) fun σ H Q ⟨ρ, g, QD, ED, rs, rg, h, c, ce⟩ => le_chain (fun _ _ _ _ h => h) (fun _ _ _ _ h => h) rs rg h c ce
theorem dt_chain {op op' : CmpOp} (hr : OpR X (compareOp op) (LO2 T X.K o)) (hr' : OpR X (compareOp op') (LO2 T X.K o')) (hm : lastMarks [op, op'] [b, c] = false) (ha : PE X a (LE T X.K C W ta)) (hb : PE X b (LE T X.K C W tb)) (hc : PE X c (LE T X.K C W tc)) :
    PT X (.Compare a [op, op'] [b, c] pos) (LT T X.K C W (dTst (dChain o o' ta tb tc))) :=
  PT.imp (pt_chain hr hr' ha hb hc hm) fun σ H Q ⟨ρ, g, QD, ED, rs, rg, h, c, ce⟩ => le_chain (fun _ _ _ _ h => h) (fun _ _ _ _ h => h) rs rg h (Q := fun x H' => ∃ k, x = .bl k ∧ Q k H') ⟨fun v d H1 g1 k1 i1 rg1 h1 => by
    split at h1
    · simp only [Is] at i1
      exact ⟨_, i1, c.go _ _ _ k1 rg1 h1⟩
    · exact h1.elim⟩ ce
theorem dt_not (h : PT X a (LT T X.K C W t)) : PT X (.UnaryOp .Not a pos) (LT T X.K C W (dNot t)) :=
  PT.imp (pt_not h) fun σ H Q ⟨ρ, g, QD, ED, rs, rg, h, c, ce⟩ => ⟨ρ, g, _, ED, rs, rg, h, ⟨fun b H1 g1 k1 rg1 h1 => c.go _ _ _ k1 rg1 h1⟩, ce⟩
theorem PW.imp {X : Cx} {e : Expr} {t t' : TT} (h : PW X e t) (k : ∀ σ H Q, t' σ H Q → t σ H Q) : PW X e t' := ⟨fun wh pins s σ H Q I q => h.run wh pins s σ H Q I (k σ H Q q)⟩
theorem dw_and (ha : PT X a (LT T X.K C W t)) (hb : PW X (.BoolOp .And (b :: rest) pos) (LT T X.K C W u)) : PW X (.BoolOp .And (a :: b :: rest) pos) (LT T X.K C W (dAnd t u)) := by
  refine PW.imp (pw_and ha hb) fun σ H Q ⟨ρ, g, QD, ED, rs, rg, h, c, ce⟩ => ⟨ρ, g, _, ED, rs, rg, h, ⟨fun b H1 g1 k1 rg1 h1 => ?_⟩, ce⟩
  cases b with
  | true => rw [if_pos rfl]; exact ⟨ρ, g1, QD, ED, rs.mono k1.kp, rg1, h1, c.mono k1, ce.mono k1⟩
  | false => rw [if_neg Bool.false_ne_true]; exact c.go _ _ _ k1 rg1 h1
theorem dw_or (ha : PT X a (LT T X.K C W t)) (hb : PW X (.BoolOp .Or (b :: rest) pos) (LT T X.K C W u)) : PW X (.BoolOp .Or (a :: b :: rest) pos) (LT T X.K C W (dOr t u)) := by
  refine PW.imp (pw_or ha hb) fun σ H Q ⟨ρ, g, QD, ED, rs, rg, h, c, ce⟩ => ⟨ρ, g, _, ED, rs, rg, h, ⟨fun b H1 g1 k1 rg1 h1 => ?_⟩, ce⟩
  cases b with
  | true => rw [if_pos rfl]; exact c.go _ _ _ k1 rg1 h1
  | false => rw [if_neg Bool.false_ne_true]; exact ⟨ρ, g1, QD, ED, rs.mono k1.kp, rg1, h1, c.mono k1, ce.mono k1⟩
theorem de_andV (ha : PE X a (LE T X.K C W ta)) (hb : PE X (.BoolOp .And (b :: rest) pos) (LE T X.K C W tb)) : PE X (.BoolOp .And (a :: b :: rest) pos) (LE T X.K C W (dAndV ta tb)) := by
  refine PE.imp (pe_andT ha hb) fun σ H Q ⟨ρ, g, QD, ED, rs, rg, h, c, ce⟩ => ⟨ρ, g, _, ED, rs, rg, h, ⟨fun v d H1 g1 k1 i1 rg1 h1 => ?_⟩, ce⟩
  split at h1
  · rename_i e; refine ⟨true, truth_of rg1 i1 e, ?_⟩; rw [if_pos rfl]; exact ⟨ρ, g1, QD, ED, rs.mono k1.kp, rg1, h1, c.mono k1, ce.mono k1⟩
  · rename_i e; refine ⟨false, truth_of rg1 i1 e, ?_⟩; rw [if_neg Bool.false_ne_true]; exact c.go _ _ _ _ k1 i1 rg1 h1
  · exact h1.elim
theorem de_orV (ha : PE X a (LE T X.K C W ta)) (hb : PE X (.BoolOp .Or (b :: rest) pos) (LE T X.K C W tb)) : PE X (.BoolOp .Or (a :: b :: rest) pos) (LE T X.K C W (dOrV ta tb)) := by
  refine PE.imp (pe_orT ha hb) fun σ H Q ⟨ρ, g, QD, ED, rs, rg, h, c, ce⟩ => ⟨ρ, g, _, ED, rs, rg, h, ⟨fun v d H1 g1 k1 i1 rg1 h1 => ?_⟩, ce⟩
  split at h1
  · rename_i e; refine ⟨true, truth_of rg1 i1 e, ?_⟩; rw [if_pos rfl]; exact c.go _ _ _ _ k1 i1 rg1 h1
  · rename_i e; refine ⟨false, truth_of rg1 i1 e, ?_⟩; rw [if_neg Bool.false_ne_true]; exact ⟨ρ, g1, QD, ED, rs.mono k1.kp, rg1, h1, c.mono k1, ce.mono k1⟩
  · exact h1.elim
theorem de_notV (ha : PE X a (LE T X.K C W ta)) : PE X (.UnaryOp .Not a pos) (LE T X.K C W (dNotV ta)) := by
  refine PE.imp (pe_notT ha) fun σ H Q ⟨ρ, g, QD, ED, rs, rg, h, c, ce⟩ => ⟨ρ, g, _, ED, rs, rg, h, ⟨fun v d H1 g1 k1 i1 rg1 h1 => ?_⟩, ce⟩
  split at h1
  · rename_i b e; exact ⟨b, truth_of rg1 i1 e, c.go _ _ _ _ k1 (by simp only [Is]) rg1 h1⟩
  · exact h1.elim
theorem de_if (hc : PT X c (LT T X.K C W t)) (ha : PE X a (LE T X.K C W ta)) (hb : PE X b (LE T X.K C W tb)) : PE X (.IfExp c a b pos) (LE T X.K C W (dIf t ta tb)) := by
  refine PE.imp (pe_ifExp hc ha hb) fun σ H Q ⟨ρ, g, QD, ED, rs, rg, h, c, ce⟩ => ⟨ρ, g, _, ED, rs, rg, h, ⟨fun b H1 g1 k1 rg1 h1 => ?_⟩, ce⟩
  cases b with
  | true => rw [if_pos rfl]; exact ⟨ρ, g1, QD, ED, rs.mono k1.kp, rg1, h1, c.mono k1, ce.mono k1⟩
  | false => rw [if_neg Bool.false_ne_true]; exact ⟨ρ, g1, QD, ED, rs.mono k1.kp, rg1, h1, c.mono k1, ce.mono k1⟩
end
/-! ### is, in -/
def isNon : D → Bool
  | .non => true
  | _ => false
def oIs (neg : Bool) : DO2 := fun x y g Q => match y with
  | .non => Q (.bl (if neg then !isNon x else isNon x)) g
  | .bl b => (match x with
    | .bl a => Q (.bl (if neg then !(a == b) else a == b)) g
    | _ => False)
  | _ => False
theorem Is.non_iff {T : Tab} {K : PySem.W.Frag} {H : Hp} {d : D} {v : V} (i : Is T K H d v) : decide (v = .non) = isNon d := by
  cases d <;> simp only [Is] at i
  case exc => obtain ⟨a, o, vs, xs, _, rfl, _⟩ := i; rfl
  case xcl => obtain ⟨_, rfl⟩ := i; rfl
  case xty => subst i; rfl
  case non => subst i; rfl
  case bl => subst i; rfl
  case int => subst i; rfl
  case str => subst i; rfl
  case tup => obtain ⟨a, xs, rfl, _⟩ := i; rfl
  case lst => obtain ⟨a, xs, rfl, _⟩ := i; rfl
  case dct => obtain ⟨a, o, kvs, rfl, _⟩ := i; rfl
  case ins => obtain ⟨a, o, dx, fs, xs, _, rfl, _⟩ := i; rfl
  case adr => subst i; rfl
  case fn => subst i; rfl
  case cls => obtain ⟨_, rfl⟩ := i; rfl
  case ty => subst i; rfl
section
variable {X : Cx} {T : Tab}
theorem xIs : OpR X (compareOp .Is) (LO2 T X.K (oIs false)) := by
  refine LO2_of fun x y H Q ⟨dx, dy, g, QD, ix, iy, rg, h, c⟩ => ?_
  unfold oIs at h
  split at h
  · have e := Is.non_iff ix
    simp only [Is] at iy
    refine ⟨_, op_isN, iy, ?_⟩
    rw [e]
    exact c.is (d := .bl _) (by simp only [Is]; rfl) rg h
  · split at h
    · simp only [Is] at ix iy
      refine ⟨_, op_isBl, _, _, ix, iy, c.is (d := .bl _) ?_ rg h⟩
      simp only [Is]
      congr 1
    · exact h.elim
  · exact h.elim
theorem xIsNot : OpR X (compareOp .IsNot) (LO2 T X.K (oIs true)) := by
  refine LO2_of fun x y H Q ⟨dx, dy, g, QD, ix, iy, rg, h, c⟩ => ?_
  unfold oIs at h
  split at h
  · have e := Is.non_iff ix
    simp only [Is] at iy
    refine ⟨_, op_notN, iy, ?_⟩
    rw [e]
    exact c.is (d := .bl _) (by simp only [Is]; rfl) rg h
  · split at h
    · simp only [Is] at ix iy
      refine ⟨_, op_notBl, _, _, ix, iy, c.is (d := .bl _) ?_ rg h⟩
      simp only [Is]
      congr 1
    · exact h.elim
  · exact h.elim
end
end Cn

namespace Cn
open PySem PySem.Spec PyProof.Rows L2

/-! ## P. in -/
def flatD : D → Bool
  | .non => true
  | .bl _ => true
  | .int _ => true
  | .str _ => true
  | _ => false
section
variable {T : Tab} {K : PySem.W.Frag} {H : Hp}
theorem flat_of {d : D} {v : V} (h : flatD d = true) (i : Is T K H d v) : flatV v = true := by
  cases d <;> simp only [flatD] at h <;> first | (cases h; done) | skip
  all_goals (simp only [Is] at i; subst i; rfl)
theorem eqV_of {d e : D} {v w : V} (h : flatD d = true) (h' : flatD e = true) (i : Is T K H d v) (j : Is T K H e w) : eqV v w = eqD d e := by
  cases d <;> simp only [flatD] at h <;> first | (cases h; done) | skip
  all_goals (cases e <;> simp only [flatD] at h' <;> first | (cases h'; done) | skip)
  all_goals (simp only [Is] at i j; subst i j; simp only [eqV, eqD])
  all_goals first | rfl | exact S_beq _ _
theorem flat_all : ∀ {l : List D} {xs : List V}, l.all flatD = true → IsL T K H l xs → xs.all flatV = true
  | [], _, _, i => by simp only [IsL] at i; subst i; rfl
  | d :: ds, xs, h, i => by
    simp only [IsL] at i
    obtain ⟨v, vs, rfl, a, j⟩ := i
    simp only [List.all_cons, Bool.and_eq_true] at h ⊢
    exact ⟨flat_of h.1 a, flat_all h.2 j⟩
theorem inV_of {e : D} {w : V} (he : flatD e = true) (ie : Is T K H e w) : ∀ {l : List D} {xs : List V}, l.all flatD = true → IsL T K H l xs → inV w xs = l.any fun d => eqD d e
  | [], _, _, i => by simp only [IsL] at i; subst i; rfl
  | d :: ds, xs, h, i => by
    simp only [IsL] at i
    obtain ⟨v, vs, rfl, a, j⟩ := i
    simp only [List.all_cons, Bool.and_eq_true] at h
    have ih := inV_of he ie h.2 j
    unfold inV at ih ⊢
    rw [List.any_cons, List.any_cons, ih, eqV_of h.1 he a ie]
end
def seqOf (g : G) : D → Option (List D)
  | .tup l => some l
  | d => lstOf g d
/-- keys: numbers and texts, unlike -/
def eqK0 : D → D → Bool
  | .int i, .int j => i == j
  | .str a, .str b => a == b
  | _, _ => false
def isKey : D → Bool
  | .int _ => true
  | .str _ => true
  | _ => false
/-- what a dict holds -/
def dctOf (g : G) : D → Option (List D × List D)
  | .dct ks vs => some (ks, vs)
  | .adr a => (match g a with
    | some (.dct ks vs) => some (ks, vs)
    | _ => none)
  | _ => none
/-- what stands behind a key -/
def lookD : List D → List D → D → Option D
  | k :: ks, v :: vs, x => if eqK0 k x then some v else lookD ks vs x
  | _, _, _ => none
def inDct (neg : Bool) (x y : D) (g : G) (Q : QT) : Prop := match dctOf g y with
  | some q => isKey x = true ∧ Q (.bl (if neg then !(q.1.any fun k => eqK0 k x) else q.1.any fun k => eqK0 k x)) g
  | none => False
def ixDct (x y : D) (g : G) (Q : QT) : Prop := match dctOf g x with
  | some q => isKey y = true ∧ (match lookD q.1 q.2 y with
    | some d => Q d g
    | none => False)
  | none => False
def oIn (neg : Bool) : DO2 := fun x y g Q => match y with
  | .str s => (match x with
    | .str [c] => Q (.bl (if neg then !s.contains c else s.contains c)) g
    | _ => False)
  | y => match seqOf g y with
    | some l => (flatD x && l.all flatD) = true ∧ Q (.bl (if neg then !(l.any fun d => eqD d x) else l.any fun d => eqD d x)) g
    | none => inDct neg x y g Q
section
variable {X : Cx} {T : Tab} {K : PySem.W.Frag} {H : Hp} {g : G}
theorem seqOf_sq {d : D} {v : V} {l : List D} (r : RG T K g H) (i : Is T K H d v) (h : seqOf g d = some l) : ∃ a xs, v = .ref a ∧ (SqL K H a xs ∨ SqT K H a xs) ∧ IsL T K H l xs := by
  unfold seqOf at h
  split at h
  · cases h
    simp only [Is] at i
    obtain ⟨a, xs, e, s, j⟩ := i
    exact ⟨a, xs, e, .inr s, j⟩
  · obtain ⟨a, xs, e, s, j⟩ := lstOf_rd r i h
    exact ⟨a, xs, e, .inl (.inl s), j⟩
theorem dctOf_rd {K : PySem.W.Frag} {T : Tab} {H : Hp} {g : G} {d : D} {v : V} {q : List D × List D} (r : RG T K g H) (i : Is T K H d v) (h : dctOf g d = some q) :
    ∃ a kvs, v = .ref a ∧ Rd H a (.dK kvs) ∧ IsL T K H q.1 (kvs.map fun p => kV p.1) ∧ IsL T K H q.2 (kvs.map (·.2)) := by
  unfold dctOf at h
  split at h
  · cases h
    simp only [Is] at i
    obtain ⟨a, o, kvs, e, hh, j1, j2⟩ := i
    exact ⟨a, kvs, e, .inr ⟨o, hh⟩, j1, j2⟩
  · simp only [Is] at i
    split at h
    · rename_i e
      cases h
      obtain ⟨kvs, h1, h2, h3⟩ := r _ _ e
      exact ⟨_, kvs, i, .inl h1, h2, h3⟩
    · cases h
  · cases h
theorem is_kV {T : Tab} {K : PySem.W.Frag} {H : Hp} {k : D} {q : Key} (h : Is T K H k (kV q)) : (∃ i, k = .int i ∧ q = .inl i) ∨ (∃ s, k = .str s ∧ q = .inr (S s)) ∨ isKey k = false := by
  cases k <;> first | exact .inr (.inr rfl) | skip
  · simp only [Is] at h
    cases q with
    | inl i => cases h; exact .inl ⟨_, rfl, rfl⟩
    | inr x => cases h
  · simp only [Is] at h
    cases q with
    | inl i => cases h
    | inr x => rw [V.str.inj h]; exact .inr (.inl ⟨_, rfl, rfl⟩)
theorem key_kV {T : Tab} {K : PySem.W.Frag} {H : Hp} {k : D} {v : V} (hk : isKey k = true) (h : Is T K H k v) : ∃ q, v = kV q := by
  cases k <;> first | (cases hk; done) | skip
  · simp only [Is] at h; exact ⟨.inl _, h⟩
  · simp only [Is] at h; exact ⟨.inr _, h⟩
theorem eqK0_is {T : Tab} {K : PySem.W.Frag} {H : Hp} {k x : D} {p q : Key} (hx : isKey x = true) (h1 : Is T K H k (kV p)) (h2 : Is T K H x (kV q)) : eqK0 k x = decide (p = q) := by
  rcases is_kV h2 with ⟨j, rfl, rfl⟩ | ⟨t, rfl, rfl⟩ | e
  · rcases is_kV h1 with ⟨i, rfl, rfl⟩ | ⟨s, rfl, rfl⟩ | e
    · show (i == j) = _
      by_cases z : i = j <;> simp [z]
    · simp [eqK0]
    · exfalso
      cases k <;> simp only [Is] at h1 <;> cases p <;> simp_all [kV, isKey]
  · rcases is_kV h1 with ⟨i, rfl, rfl⟩ | ⟨s, rfl, rfl⟩ | e
    · simp [eqK0]
    · show (s == t) = _
      by_cases z : s = t
      · simp [z]
      · have : S s ≠ S t := fun e => z (S_inj e)
        simp [z, this]
    · exfalso
      cases k <;> simp only [Is] at h1 <;> cases p <;> simp_all [kV, isKey]
  · rw [e] at hx; cases hx
theorem look_ok {T : Tab} {K : PySem.W.Frag} {H : Hp} {x : D} {q : Key} (hx : isKey x = true) (ix : Is T K H x (kV q)) : ∀ {ks vs : List D} {kvs : List (Key × V)}, IsL T K H ks (kvs.map fun p => kV p.1) → IsL T K H vs (kvs.map (·.2)) →
    (∀ d, lookD ks vs x = some d → ∃ v, valV kvs q = some v ∧ Is T K H d v) ∧ (ks.any fun k => eqK0 k x) = (valV kvs q).isSome
  | [], vs, kvs, i, j => by
    simp only [IsL] at i
    have : kvs = [] := List.map_eq_nil_iff.mp i
    subst this
    refine ⟨fun d e => ?_, rfl⟩
    unfold lookD at e
    cases e
  | k :: ks, vs, kvs, i, j => by
    simp only [IsL] at i
    obtain ⟨v, us, e, i1, i2⟩ := i
    cases kvs with
    | nil => cases e
    | cons p kvs =>
      simp only [List.map_cons, List.cons.injEq] at e
      obtain ⟨rfl, rfl⟩ := e
      cases vs with
      | nil => simp only [IsL] at j; cases j
      | cons w vs =>
        simp only [IsL] at j
        obtain ⟨v2, us2, e2, j1, j2⟩ := j
        simp only [List.map_cons, List.cons.injEq] at e2
        obtain ⟨rfl, rfl⟩ := e2
        have ih := look_ok hx ix i2 j2
        have ek := eqK0_is hx i1 ix
        by_cases z : p.1 = q
        · have ek' : eqK0 k x = true := by rw [ek]; exact decide_eq_true z
          refine ⟨fun d e => ?_, ?_⟩
          · unfold lookD at e
            rw [ek', if_pos rfl] at e
            cases e
            exact ⟨_, valV_pos z, j1⟩
          · rw [List.any_cons, ek', valV_pos z]
            rfl
        · have ek' : eqK0 k x = false := by rw [ek]; exact decide_eq_false z
          refine ⟨fun d e => ?_, ?_⟩
          · unfold lookD at e
            rw [ek', if_neg Bool.false_ne_true] at e
            rw [valV_neg z]
            exact ih.1 d e
          · rw [List.any_cons, ek', Bool.false_or, valV_neg z]
            exact ih.2
theorem op_in_dct (hu : X.A.units + 1 < cLine) : OpR X (compareOp .In) (fun x y H Q => ∃ a o, y = .ref a ∧ DGet H a x o ∧ Q (.bl o.isSome) H) := by
  intro pins s σ H x y v u Q I rx ry h
  obtain ⟨a, o, rfl, g, q⟩ := h
  cases ry
  exact d_in hu I g rx fun s3 I3 => ⟨.bl o.isSome, H, I3, rfl, q⟩
theorem op_notIn_dct (hu : X.A.units + 1 < cLine) : OpR X (compareOp .NotIn) (fun x y H Q => ∃ a o, y = .ref a ∧ DGet H a x o ∧ Q (.bl (!o.isSome)) H) := by
  intro pins s σ H x y v u Q I rx ry h
  obtain ⟨a, o, rfl, g, q⟩ := h
  cases ry
  exact d_notIn hu I g rx fun s3 I3 => ⟨.bl (!o.isSome), H, I3, rfl, q⟩
theorem ix_dct (hu : X.A.units + 1 < cLine) : IxR X (fun x y H Q => ∃ a z, x = .ref a ∧ DGet H a y (some z) ∧ Q z H) := by
  intro value slice pins s σ H x y v u Q I rx ry h hs
  obtain ⟨a, z, rfl, g, q⟩ := h
  cases rx
  have hT := dict_typeIs I g
  unfold subscriptTail
  refine wpAny_bind ?_
  rw [getitemInPython_of_ne hT.not_modules]
  refine wpAny_bind (wpAny_specialOf hT PySem.F.slot_dict_getitem.lookup ?_)
  have fin : wpAny (model X.prog X.w) X.A (subscripted slice false (.ref a) u) (fun r s₃ => wpAny (model X.prog X.w) X.A (letTemporaryGo value (.ref a) r >>= fun _ => pure r) (EP X pins σ Q) X.xe s₃) X.xe s := by
    rw [hs]
    exact wpAny_operating (wpAny_mono (d_getItem (Q := EP X pins σ Q) hu I g ry fun w' s' I' rw' => ⟨z, H, I', rw', q⟩) (fun r s₃ h₃ => wpAny_bind (wpAny_letTemporaryGo (wpAny_pure h₃))) fun _ _ x => x)
  first
    | exact wpAny_pure (wpAny_bind fin)
    | exact wpAny_bind (wpAny_pure (wpAny_bind fin))
    | exact wpAny_bind fin
theorem contains_mem (c : Nat) (s : List Nat) : decide (c ∈ (S s).cps.toList) = s.contains c := by simp [S]
theorem xIn (hu : X.A.units + 64 < cLine) : OpR X (compareOp .In) (LO2 T X.K (oIn false)) := by
  refine LO2_of fun x y H Q ⟨dx, dy, g, QD, ix, iy, rg, h, c⟩ => ?_
  unfold oIn at h
  split at h
  · split at h
    · simp only [Is] at ix iy
      refine ⟨_, op_in_sign, _, _, ix, iy, c.is (d := .bl _) ?_ rg h⟩
      simp only [Is]
      rw [contains_mem] <;> simp
    · exact h.elim
  · split at h
    · rename_i l e
      obtain ⟨a, xs, rfl, s, j⟩ := seqOf_sq rg iy e
      obtain ⟨hf, q⟩ := h
      obtain ⟨f1, f2⟩ := Bool.and_eq_true_iff.mp hf
      refine ⟨_, op_in_seq, a, xs, rfl, s, flat_of f1 ix, flat_all f2 j, c.is (d := .bl _) ?_ rg q⟩
      simp only [Is]
      rw [inV_of f1 ix f2 j]  <;> simp
    · unfold inDct at h
      split at h
      · rename_i q e
        obtain ⟨a, kvs, rfl, hd, j1, j2⟩ := dctOf_rd rg iy e
        obtain ⟨hk, h⟩ := h
        obtain ⟨k, rfl⟩ := key_kV hk ix
        refine ⟨_, op_in_dct (by omega), a, valV kvs k, rfl, .inl ⟨kvs, k, hd, rfl, rfl⟩, c.is (d := .bl _) ?_ rg h⟩
        simp only [Is]
        rw [(look_ok hk ix j1 j2).2] <;> simp
      · exact h.elim
theorem xNotIn (hu : X.A.units + 64 < cLine) : OpR X (compareOp .NotIn) (LO2 T X.K (oIn true)) := by
  refine LO2_of fun x y H Q ⟨dx, dy, g, QD, ix, iy, rg, h, c⟩ => ?_
  unfold oIn at h
  split at h
  · split at h
    · simp only [Is] at ix iy
      refine ⟨_, op_notIn_sign, _, _, ix, iy, c.is (d := .bl _) ?_ rg h⟩
      simp only [Is]
      rw [contains_mem] <;> simp
    · exact h.elim
  · split at h
    · rename_i l e
      obtain ⟨a, xs, rfl, s, j⟩ := seqOf_sq rg iy e
      obtain ⟨hf, q⟩ := h
      obtain ⟨f1, f2⟩ := Bool.and_eq_true_iff.mp hf
      refine ⟨_, op_notIn_seq, a, xs, rfl, s, flat_of f1 ix, flat_all f2 j, c.is (d := .bl _) ?_ rg q⟩
      simp only [Is]
      rw [inV_of f1 ix f2 j]  <;> simp
    · unfold inDct at h
      split at h
      · rename_i q e
        obtain ⟨a, kvs, rfl, hd, j1, j2⟩ := dctOf_rd rg iy e
        obtain ⟨hk, h⟩ := h
        obtain ⟨k, rfl⟩ := key_kV hk ix
        refine ⟨_, op_notIn_dct (by omega), a, valV kvs k, rfl, .inl ⟨kvs, k, hd, rfl, rfl⟩, c.is (d := .bl _) ?_ rg h⟩
        simp only [Is]
        rw [(look_ok hk ix j1 j2).2] <;> simp
      · exact h.elim
end

/-! ## Q. Built-in functions, by values -/
theorem LOL_of {X : Cx} {T : Tab} {f : Value} {o : DOL} (h : ∀ xs H Q, LOL T X.K o xs H Q → ∃ r, CallR X f r ∧ r xs H Q) : CallR X f (LOL T X.K o) := fun pins s σ H xs us Q I rx q => by
  obtain ⟨r, hr, q⟩ := h xs H Q q
  exact hr pins s σ H xs us Q I rx q
def intS (i : Int) : List Nat := (toString i).toList.map Char.toNat
theorem S_int (i : Int) : ((toString i : String) : Str) = S (intS i) := Str.ofString_eq_toList _
def oLen : DOL := fun ds g Q => match ds with
  | [.str s] => s.length ≤ sizeLine ∧ Q (.int s.length) g
  | [d] => match seqOf g d with
    | some l => Q (.int l.length) g
    | none => False
  | _ => False
def oAbs : DOL := fun ds g Q => match ds with
  | [.int i] => Q (.int (if i < 0 then -i else i)) g
  | [.bl b] => Q (.int (b2i b)) g
  | _ => False
def oMax : DOL := fun ds g Q => match ds with
  | [.int i, .int j] => Q (.int (if j > i then j else i)) g
  | _ => False
def oMin : DOL := fun ds g Q => match ds with
  | [.int i, .int j] => Q (.int (if j < i then j else i)) g
  | _ => False
def digB (s : List Nat) : Bool := s.all fun c => decide (48 ≤ c) && decide (c ≤ 57)
def oInt : DOL := fun ds g Q => match ds with
  | [.int i] => Q (.int i) g
  | [.bl b] => Q (.int (if b then 1 else 0)) g
  | [.str s] => (digB s = true ∧ s.isEmpty = false ∧ s.length ≤ 640) ∧ Q (.int (NumText.digitsVal s : Nat)) g
  | [.str s, .int j] => (j = 16 ∧ s.isEmpty = false ∧ s.length ≤ 640 ∧ ∀ c ∈ s, Hx.IsHex c) ∧ Q (.int ((Hx.hexNum s : Nat) : Int)) g
  | _ => False
def oStr : DOL := fun ds g Q => match ds with
  | [.int i] => i.natAbs.log2 < 1920 ∧ Q (.str (intS i)) g
  | [.bl b] => Q (.str (if b then [84, 114, 117, 101] else [70, 97, 108, 115, 101])) g
  | _ => False
def oTuple : DOL := fun ds g Q => match ds with
  | [d] => match seqOf g d with
    | some l => Q (.tup l) g
    | none => False
  | _ => False
def oList (m : Bool) : DOL := fun ds g Q => match ds with
  | [d] => match seqOf g d with
    | some l => if m then ∀ a, g a = none → Q (.adr a) (gset g a (.lst l)) else Q (.lst l) g
    | none => False
  | _ => False
def intsD : List D → Option (List Int)
  | [] => some []
  | .int b :: ds => (intsD ds).map (b :: ·)
  | _ => none
def oAll : DOL := fun ds g Q => match ds with
  | [d] => match lstOf g d with
    | some l => match boolsD l with
      | some bs => Q (.bl (bs.all id)) g
      | none => False
    | none => False
  | _ => False
def oAny : DOL := fun ds g Q => match ds with
  | [d] => match lstOf g d with
    | some l => match boolsD l with
      | some bs => Q (.bl (bs.any id)) g
      | none => False
    | none => False
  | _ => False
def oSum : DOL := fun ds g Q => match ds with
  | [d] => match lstOf g d with
    | some l => match intsD l with
      | some ns => Q (.int ns.sum) g
      | none => False
    | none => False
  | _ => False
section
variable {X : Cx} {T : Tab} {K : PySem.W.Frag} {H : Hp} {g : G}
theorem IsL.one {d : D} {xs : List V} (h : IsL T K H [d] xs) : ∃ v, xs = [v] ∧ Is T K H d v := by
  simp only [IsL] at h
  obtain ⟨v, vs, rfl, a, rfl⟩ := h
  exact ⟨v, rfl, a⟩
theorem IsL.two {d e : D} {xs : List V} (h : IsL T K H [d, e] xs) : ∃ v w, xs = [v, w] ∧ Is T K H d v ∧ Is T K H e w := by
  simp only [IsL] at h
  obtain ⟨v, vs, rfl, a, w, ws, rfl, b, rfl⟩ := h
  exact ⟨v, w, rfl, a, b⟩
theorem ints_of : ∀ {l : List D} {xs : List V} {bs : List Int}, intsD l = some bs → IsL T K H l xs → xs = bs.map V.int
  | [], _, _, h, i => by simp only [IsL] at i; subst i; simp only [intsD] at h; cases h; rfl
  | d :: ds, xs, bs, h, i => by
    simp only [IsL] at i
    obtain ⟨v, vs, rfl, a, j⟩ := i
    cases d <;> simp only [intsD] at h <;> first | (cases h; done) | skip
    simp only [Option.map_eq_some_iff] at h
    obtain ⟨bs', h1, rfl⟩ := h
    simp only [Is] at a
    subst a
    rw [ints_of h1 j]
    rfl
theorem cLen : CallR X (.builtin "len") (LOL T X.K oLen) := by
  refine LOL_of fun xs H Q ⟨ds, g, QD, i, rg, h, c⟩ => ?_
  unfold oLen at h
  split at h
  · obtain ⟨v, rfl, iv⟩ := i.one
    simp only [Is] at iv
    subst iv
    refine ⟨_, call_len_str, _, rfl, by rw [S_len]; exact h.1, c.is (d := .int _) (by simp only [Is]; rw [S_len]) rg h.2⟩
  · obtain ⟨v, rfl, iv⟩ := i.one
    split at h
    · rename_i l e
      obtain ⟨a, ys, rfl, s, j⟩ := seqOf_sq rg iv e
      exact ⟨_, call_len_seq, a, ys, rfl, s, c.is (d := .int _) (by simp only [Is]; rw [j.length]) rg h⟩
    · exact h.elim
  · exact h.elim
theorem cAbs : CallR X (.builtin "abs") (LOL T X.K oAbs) := by
  refine LOL_of fun xs H Q ⟨ds, g, QD, i, rg, h, c⟩ => ?_
  unfold oAbs at h
  split at h
  · obtain ⟨v, rfl, iv⟩ := i.one
    simp only [Is] at iv
    subst iv
    exact ⟨_, call_abs, _, rfl, c.is (by simp only [Is]) rg h⟩
  · obtain ⟨v, rfl, iv⟩ := i.one
    simp only [Is] at iv
    subst iv
    exact ⟨_, call_absb, _, rfl, c.is (by simp only [Is]) rg h⟩
  · exact h.elim
theorem cMax (hc : X.calm = true) : CallR X (.builtin "max") (LOL T X.K oMax) := by
  refine LOL_of fun xs H Q ⟨ds, g, QD, i, rg, h, c⟩ => ?_
  unfold oMax at h
  split at h
  · obtain ⟨v, w, rfl, iv, iw⟩ := i.two
    simp only [Is] at iv iw
    subst iv iw
    exact ⟨_, call_max2 hc, _, _, rfl, c.is (by simp only [Is]) rg h⟩
  · exact h.elim
theorem cMin (hc : X.calm = true) : CallR X (.builtin "min") (LOL T X.K oMin) := by
  refine LOL_of fun xs H Q ⟨ds, g, QD, i, rg, h, c⟩ => ?_
  unfold oMin at h
  split at h
  · obtain ⟨v, w, rfl, iv, iw⟩ := i.two
    simp only [Is] at iv iw
    subst iv iw
    exact ⟨_, call_min2 hc, _, _, rfl, c.is (by simp only [Is]) rg h⟩
  · exact h.elim
theorem two_vs {K : PySem.W.Frag} {H : Hp} {d e : D} {vs : List V} (i : IsL T K H [d, e] vs) : ∃ v w, vs = [v, w] ∧ Is T K H d v ∧ Is T K H e w := by
  simp only [IsL] at i
  obtain ⟨v, r, rfl, i1, w, r2, rfl, i2, rfl⟩ := i
  exact ⟨v, w, rfl, i1, i2⟩
theorem cInt : CallR X (.type "int") (LOL T X.K oInt) := by
  refine LOL_of fun xs H Q ⟨ds, g, QD, i, rg, h, c⟩ => ?_
  unfold oInt at h
  split at h
  · obtain ⟨v, rfl, iv⟩ := i.one
    simp only [Is] at iv
    subst iv
    exact ⟨_, call_int1, .inl ⟨_, rfl, c.is (by simp only [Is]) rg h⟩⟩
  · obtain ⟨v, rfl, iv⟩ := i.one
    simp only [Is] at iv
    subst iv
    exact ⟨_, call_int1, .inr ⟨_, rfl, c.is (by simp only [Is]) rg h⟩⟩
  · rename_i a
    obtain ⟨v, rfl, iv⟩ := i.one
    simp only [Is] at iv
    subst iv
    obtain ⟨⟨h1, h2, h3⟩, h4⟩ := h
    exact ⟨_, call_int_str, S a, _, rfl, SX.int_S h1 (fun z => by subst z; cases h2) (by omega), by rw [S_len]; exact h3, c.is (by simp only [Is]) rg h4⟩
  · rename_i a j
    obtain ⟨v, w, rfl, iv, iw⟩ := two_vs i
    simp only [Is] at iv iw
    subst iv iw
    obtain ⟨⟨h1, h2, h3, h4⟩, h5⟩ := h
    subst h1
    exact ⟨_, call_int_hex, a, rfl, (fun z => by subst z; cases h2), h3, h4, c.is (by simp only [Is]) rg h5⟩
  · exact h.elim
theorem cStr : CallR X (.type "str") (LOL T X.K oStr) := by
  refine LOL_of fun xs H Q ⟨ds, g, QD, i, rg, h, c⟩ => ?_
  unfold oStr at h
  split at h
  · obtain ⟨v, rfl, iv⟩ := i.one
    simp only [Is] at iv
    subst iv
    exact ⟨_, call_str_int, _, rfl, h.1, c.is (by simp only [Is]; rw [S_int]) rg h.2⟩
  · rename_i b
    obtain ⟨v, rfl, iv⟩ := i.one
    simp only [Is] at iv
    subst iv
    refine ⟨_, call_strb, _, rfl, c.is ?_ rg h⟩
    simp only [Is]
    cases b
    · exact congrArg V.str (by decide +kernel)
    · exact congrArg V.str (by decide +kernel)
  · exact h.elim
theorem cTuple : CallR X (.type "tuple") (LOL T X.K oTuple) := by
  refine LOL_of fun xs H Q ⟨ds, g, QD, i, rg, h, c⟩ => ?_
  unfold oTuple at h
  split at h
  · obtain ⟨v, rfl, iv⟩ := i.one
    split at h
    · rename_i l e
      obtain ⟨a, ys, rfl, s, j⟩ := seqOf_sq rg iv e
      refine ⟨_, call_tuple_of, a, ys, rfl, ?_⟩
      rcases s with s | s
      · exact .inl ⟨s, fun p hp => c.tup hp j rg h⟩
      · exact .inr ⟨s, c.is (d := .tup l) (by simp only [Is]; exact ⟨a, ys, rfl, s, j⟩) rg h⟩
    · exact h.elim
  · exact h.elim
theorem cList {m : Bool} : CallR X (.type "list") (LOL T X.K (oList m)) := by
  refine LOL_of fun xs H Q ⟨ds, g, QD, i, rg, h, c⟩ => ?_
  unfold oList at h
  split at h
  · obtain ⟨v, rfl, iv⟩ := i.one
    split at h
    · rename_i l e
      obtain ⟨a, ys, rfl, s, j⟩ := seqOf_sq rg iv e
      cases m with
      | true => exact ⟨_, call_list_of, a, ys, rfl, s, fun p hp => c.mls hp j rg (by simpa using h)⟩
      | false => exact ⟨_, CallR.frz call_list_of, a, ys, rfl, s, fun p hp => c.lst hp j rg (by simpa using h)⟩
    · exact h.elim
  · exact h.elim
theorem cAll (hc : X.calm = true) : CallR X (.builtin "all") (LOL T X.K oAll) := by
  refine LOL_of fun xs H Q ⟨ds, g, QD, i, rg, h, c⟩ => ?_
  unfold oAll at h
  split at h
  · obtain ⟨v, rfl, iv⟩ := i.one
    split at h
    · rename_i l e
      obtain ⟨a, ys, rfl, s, j⟩ := lstOf_rd rg iv e
      split at h
      · rename_i bs eb
        have := bools_of eb j
        subst this
        exact ⟨_, cr_all hc, a, bs, rfl, .inl s, c.is (by simp only [Is]) rg h⟩
      · exact h.elim
    · exact h.elim
  · exact h.elim
theorem cAny (hc : X.calm = true) : CallR X (.builtin "any") (LOL T X.K oAny) := by
  refine LOL_of fun xs H Q ⟨ds, g, QD, i, rg, h, c⟩ => ?_
  unfold oAny at h
  split at h
  · obtain ⟨v, rfl, iv⟩ := i.one
    split at h
    · rename_i l e
      obtain ⟨a, ys, rfl, s, j⟩ := lstOf_rd rg iv e
      split at h
      · rename_i bs eb
        have := bools_of eb j
        subst this
        exact ⟨_, cr_any hc, a, bs, rfl, .inl s, c.is (by simp only [Is]) rg h⟩
      · exact h.elim
    · exact h.elim
  · exact h.elim
theorem cSum (hc : X.calm = true) : CallR X (.builtin "sum") (LOL T X.K oSum) := by
  refine LOL_of fun xs H Q ⟨ds, g, QD, i, rg, h, c⟩ => ?_
  unfold oSum at h
  split at h
  · obtain ⟨v, rfl, iv⟩ := i.one
    split at h
    · rename_i l e
      obtain ⟨a, ys, rfl, s, j⟩ := lstOf_rd rg iv e
      split at h
      · rename_i bs eb
        have := ints_of eb j
        subst this
        exact ⟨_, cr_sum hc, a, bs, rfl, .inl s, c.is (by simp only [Is]) rg h⟩
      · exact h.elim
    · exact h.elim
  · exact h.elim
end
end Cn

namespace Cn
open PySem PySem.Spec PyProof.Rows L2

/-! ## R. isinstance -/
def tagOf (g : G) : D → Option D
  | .non => some (.ty 6)
  | .bl _ => some (.ty 1)
  | .int _ => some (.ty 0)
  | .str _ => some (.ty 2)
  | .tup _ => some (.ty 3)
  | .lst _ => some (.ty 4)
  | .dct _ _ => some (.ty 5)
  | .ins c _ => some (.cls c)
  | .adr a => match g a with
    | some (.lst _) => some (.ty 4)
    | some (.dct _ _) => some (.ty 5)
    | some (.ins c _) => some (.cls c)
    | none => none
  | .exc c _ => some (.exc c [])
  | _ => none
def subTag : D → D → Option Bool
  | .ty a, .ty b => if a < 7 ∧ b < 7 then some (a == b || (a == 1 && b == 0)) else none
  | .ty a, .cls _ => if a < 7 then some false else none
  | .cls _, .ty b => if b < 7 then some false else none
  | .cls c, .cls d => some (c == d)
  | .exc c _, .xcl d => some (xsub c d)
  | .exc c _, .xty n => if n < 4 then some (Nat.beq (xbase c) n) else none
  | _, _ => none
/-- any of these classes -/
def anyTag (t : D) : List D → Option Bool
  | [] => some false
  | k :: ks => match subTag t k, anyTag t ks with
    | some b, some r => some (b || r)
    | _, _ => none
def oIsi : DOL := fun ds g Q => match ds with
  | [d, .tup ks] => match tagOf g d with
    | some t => match anyTag t ks with
      | some b => Q (.bl b) g
      | none => False
    | none => False
  | [d, k] => match tagOf g d with
    | some t => match subTag t k with
      | some b => Q (.bl b) g
      | none => False
    | none => False
  | _ => False
def tagV (T : Tab) : D → Value
  | .ty n => .type (tyN n)
  | .cls c => .ref (T.cA c)
  | .exc c _ => .ref (T.xA c)
  | .xcl c => .ref (T.xA c)
  | .xty n => .type (xtyN n)
  | _ => .none
section
variable {X : Cx} {T : Tab} {pins : List (Addr × Obj)} {σ : L2.St} {H : Hp} {s : Shared} {g : G}
theorem kit_ins {a C dx : Addr} {fs : List (Str × V)} (I : Inv X pins σ H s) (ea : Rd H a (.ins C dx fs)) (cl : Cls X.K C) (ha : PySem.W.findIn X.K (.ref C) "__class__" = some (some (.builtin "object.__class__")))
    (hn : PySem.W.specialIn X.K (.builtin "object.__class__") "__get__" = some (some (.builtin "getset_descriptor.__get__"))) (htk : PySem.W.takesIn X.K (.builtin "object.__class__") = some true) (hm : PySem.W.mroIn X.K C (.type "object") = some true) :
    ∃ P : Heap → Prop, PySem.W.KitX X.K (.ref a) (.ref C) P ∧ P s.heap ∧ Value.ref a ≠ .builtin "__main__.__loader__#opaque" := by
  obtain ⟨mA, O, _⟩ := ins_rd I.hok ea
  obtain ⟨od, J, _⟩ := O.look
  exact ⟨_, PySem.W.kitx_own (cl.get _) cl.hd ha hn htk hm, J, fun z => nomatch z⟩
theorem kit_tag (KC : ClsOk T X.K) (I : Inv X pins σ H s) (rg : RG T X.K g H) {d : D} {v : V} {u : Value} {t : D} (i : Is T X.K H d v) (r : RelV v u) (h : tagOf g d = some t) :
    ∃ P : Heap → Prop, PySem.W.KitX X.K u (tagV T t) P ∧ P s.heap ∧ u ≠ .builtin "__main__.__loader__#opaque" := by
  unfold tagOf at h
  split at h <;> first | (cases h; done) | skip
  · simp only [Is] at i; subst i; cases h; exact kit_of I r (.base .non)
  · simp only [Is] at i; subst i; cases h; exact kit_of I r (.base (.bl _))
  · simp only [Is] at i; subst i; cases h; exact kit_of I r (.base (.int _))
  · simp only [Is] at i; subst i; cases h; exact kit_of I r (.base (.str _))
  · simp only [Is] at i
    obtain ⟨a, xs, rfl, q, j⟩ := i
    cases h
    rcases q with (q | ⟨o, q⟩) | ⟨o, its, n, q, c, _⟩
    · exact kit_of I r (.base (.tup q))
    · exact kit_of I r (.fTuple q)
    · exact kit_of I r (.kTuple q c)
  · simp only [Is] at i
    obtain ⟨a, xs, rfl, ⟨o, q⟩, j⟩ := i
    cases h
    exact kit_of I r (.base (.frz q))
  · simp only [Is] at i
    obtain ⟨a, o, kvs, rfl, q, _⟩ := i
    cases h
    exact kit_of I r (.fDict q)
  · simp only [Is] at i
    obtain ⟨a, o, dx, fs, xs, ok, rfl, q, _⟩ := i
    cases h
    cases r
    exact kit_ins I (.inr ⟨o, q⟩) (KC.cls _ ok) (KC.isa _ ok).1 KC.isb.1 KC.isb.2 (KC.isa _ ok).2
  · simp only [Is] at i
    subst i
    split at h
    · rename_i e
      cases h
      obtain ⟨xs, q, _⟩ := rg _ _ e
      exact kit_of I r (.base (.lst q))
    · rename_i e
      cases h
      obtain ⟨kvs, q, _⟩ := rg _ _ e
      exact kit_of I r (.base (.dK q))
    · rename_i e
      cases h
      obtain ⟨dx, gs, ok, q, _⟩ := rg _ _ e
      cases r
      exact kit_ins I (.inl q) (KC.cls _ ok) (KC.isa _ ok).1 KC.isb.1 KC.isb.2 (KC.isa _ ok).2
    · cases h
  · cases h
    simp only [Is] at i
    obtain ⟨a, ob, vs, xs, hok, rfl, ea, hcl, hdt, hxd, _⟩ := i
    cases r
    have TX := KC.xa _ hok
    have hget : s.heap.get? a = some ob := (I.hok a _ ea).1
    obtain ⟨od, hod⟩ : ∃ od, PySem.W.InstAt s.heap a ob (T.xA _) od := by
      unfold XdF at hxd
      split at hxd
      · exact ⟨none, hget, hcl, by unfold PySem.W.notCls; rw [hdt] <;> rfl, by rw [hxd.1]; trivial⟩
      · obtain ⟨dd, od, gs, ed, ha, hm⟩ := hxd
        exact ⟨some od, hget, hcl, by unfold PySem.W.notCls; rw [hdt] <;> rfl, by rw [ed]; exact (I.hok dd _ ha).1⟩
    exact ⟨_, PySem.W.kitx_exc TX.cl TX.x.ga TX.x.gg TX.x.exC TX.ha KC.isb.1 KC.isb.2 TX.hm, hod, fun z => nomatch z⟩
/-- the class of a tag stands in the text -/
def tagOk (T : Tab) : D → Prop
  | .cls c => T.ok c = true
  | .exc c _ => T.xok c = true
  | .xcl c => T.xok c = true
  | _ => True
theorem tag_ok (rg : RG T X.K g H) {d : D} {v : V} {t : D} (i : Is T X.K H d v) (h : tagOf g d = some t) : tagOk T t := by
  unfold tagOf at h
  split at h <;> first | (cases h; done) | skip
  all_goals first
    | (cases h; exact trivial)
    | skip
  · cases h
    simp only [Is] at i
    obtain ⟨a, o, dx, fs, xs, ok, _⟩ := i
    exact ok
  · split at h
    · cases h; exact trivial
    · cases h; exact trivial
    · rename_i e
      cases h
      obtain ⟨dx, gs, ok, _⟩ := rg _ _ e
      exact ok
    · cases h
  · cases h
    simp only [Is] at i
    obtain ⟨a, ob, vs, xs, hok, _⟩ := i
    exact hok
theorem kit7 : ∀ a b : Nat, a < 7 → b < 7 → L2.kitB (tyN a) (tyN b) = some (a == b || (a == 1 && b == 0)) := by
  intro a b ha hb
  have : ∀ a : Fin 7, ∀ b : Fin 7, L2.kitB (tyN a.val) (tyN b.val) = some (a.val == b.val || (a.val == 1 && b.val == 0)) := by decide +kernel
  exact this ⟨a, ha⟩ ⟨b, hb⟩
theorem kit_sub (KC : ClsOk T X.K) {t k : D} {b : Bool} (h : subTag t k = some b) (h1 : tagOk T t) (h2 : tagOk T k) : PySem.W.kitOne X.K (tagV T t) (tagV T k) = some b := by
  unfold subTag at h
  split at h
  · split at h
    · rename_i q
      cases h
      exact kit_ty (kit7 _ _ q.1 q.2)
    · cases h
  · split at h
    · rename_i q
      cases h
      exact KC.kitB _ _ h2 q
    · cases h
  · split at h
    · rename_i q
      cases h
      exact KC.kitA _ _ h1 q
    · cases h
  · cases h
    exact KC.kitC _ _ h1 h2
  · cases h
    exact KC.xkit _ _ h1 h2
  · split at h
    · rename_i q
      cases h
      exact KC.xkitT _ _ h1 q
    · cases h
  · cases h
theorem subTag_k {t k : D} {b : Bool} (h : subTag t k = some b) : (∃ n, k = .ty n) ∨ (∃ n, k = .cls n) ∨ (∃ n, k = .xcl n) ∨ ∃ n, k = .xty n := by
  unfold subTag at h
  split at h
  · exact .inl ⟨_, rfl⟩
  · exact .inr (.inl ⟨_, rfl⟩)
  · exact .inl ⟨_, rfl⟩
  · exact .inr (.inl ⟨_, rfl⟩)
  · exact .inr (.inr (.inl ⟨_, rfl⟩))
  · exact .inr (.inr (.inr ⟨_, rfl⟩))
  · cases h
theorem cls_val {t k : D} {b : Bool} {w : V} {u : Value} (eb : subTag t k = some b) (iw : Is T X.K H k w) (r : RelV w u) : u = tagV T k ∧ tagOk T k := by
  rcases subTag_k eb with ⟨n, rfl⟩ | ⟨n, rfl⟩ | ⟨n, rfl⟩ | ⟨n, rfl⟩
  · simp only [Is] at iw; subst iw; exact ⟨r, trivial⟩
  · simp only [Is] at iw; obtain ⟨ok, rfl⟩ := iw; exact ⟨r, ok⟩
  · simp only [Is] at iw; obtain ⟨ok, rfl⟩ := iw; exact ⟨r, ok⟩
  · simp only [Is] at iw; subst iw; exact ⟨r, trivial⟩
theorem any_kit (KC : ClsOk T X.K) {t : D} (ht : tagOk T t) : ∀ {ks : List D} {xs : List V} {us : List Value} {b : Bool}, anyTag t ks = some b → IsL T X.K H ks xs → Vals xs us → PySem.W.kitAny X.K (tagV T t) us = some b
  | [], xs, us, b, h, i, r => by
    simp only [IsL] at i
    subst i
    cases r
    simp only [anyTag] at h
    cases h
    exact kitAny_nil
  | k :: ks, xs, us, b, h, i, r => by
    simp only [anyTag] at h
    split at h
    · rename_i b1 b2 e1 e2
      cases h
      simp only [IsL] at i
      obtain ⟨w, ws, rfl, iw, iws⟩ := i
      cases r with
      | cons r1 r2 =>
        obtain ⟨e, ok⟩ := cls_val e1 iw r1
        rw [e]
        refine kitAny_cons (kit_sub KC e1 ht ok) (fun hb => ?_) fun hb => by rw [hb]; rfl
        subst hb
        exact any_kit KC ht e2 iws r2
    · cases h
theorem cIsi (KC : ClsOk T X.K) : CallR X (.builtin "isinstance") (LOL T X.K oIsi) := by
  intro pins s σ H xs us Q I r ⟨ds, g, QD, i, rg, h, c⟩
  unfold oIsi at h
  split at h
  · rename_i d ks
    obtain ⟨v, w, rfl, iv, iw⟩ := i.two
    obtain ⟨u1, u2, rfl, r1, r2⟩ := vals2 r
    split at h
    · rename_i t et
      split at h
      · rename_i b eb
        obtain ⟨P, Z, p, hx⟩ := kit_tag KC I rg iv r1 et
        obtain ⟨a, xs, rfl, hs, j⟩ := seqOf_sq rg iw (show seqOf g (.tup ks) = some ks from rfl)
        obtain rfl : u2 = .ref a := r2
        rcases hs with hs | hs
        · simp only [Is] at iw
          obtain ⟨a', xs', e, st, j'⟩ := iw
          cases e
          obtain ⟨its, rv, ⟨o, ho, hcl, n, hd⟩, _⟩ := I.tuple st
          obtain ⟨oc, od, dt, sl⟩ := o
          simp only at hcl hd
          subst hcl hd
          exact PySem.W.kia_tup Z I.kIn p ho (any_kit KC (tag_ok rg iv et) eb j' rv) hx fun tk => ⟨.bl b, H, I.tok tk, rfl, c.is (by simp only [Is]) rg h⟩
        · obtain ⟨its, rv, ⟨o, ho, hcl, n, hd⟩, _⟩ := I.tuple hs
          obtain ⟨oc, od, dt, sl⟩ := o
          simp only at hcl hd
          subst hcl hd
          exact PySem.W.kia_tup Z I.kIn p ho (any_kit KC (tag_ok rg iv et) eb j rv) hx fun tk => ⟨.bl b, H, I.tok tk, rfl, c.is (by simp only [Is]) rg h⟩
      · exact h.elim
    · exact h.elim
  · rename_i d k _
    obtain ⟨v, w, rfl, iv, iw⟩ := i.two
    obtain ⟨u1, u2, rfl, r1, r2⟩ := vals2 r
    split at h
    · rename_i t et
      split at h
      · rename_i b eb
        obtain ⟨P, Z, p, hx⟩ := kit_tag KC I rg iv r1 et
        have e2 : u2 = tagV T k ∧ tagOk T k := by
          rcases subTag_k eb with ⟨n, rfl⟩ | ⟨n, rfl⟩ | ⟨n, rfl⟩ | ⟨n, rfl⟩
          · simp only [Is] at iw; subst iw; exact ⟨r2, trivial⟩
          · simp only [Is] at iw; obtain ⟨ok, rfl⟩ := iw; exact ⟨r2, ok⟩
          · simp only [Is] at iw; obtain ⟨ok, rfl⟩ := iw; exact ⟨r2, ok⟩
          · simp only [Is] at iw; subst iw; exact ⟨r2, trivial⟩
        rw [e2.1]
        exact PySem.W.kia_one Z I.kIn p (kit_sub KC eb (tag_ok rg iv et) e2.2) hx fun tk => ⟨.bl b, H, I.tok tk, rfl, c.is (by simp only [Is]) rg h⟩
      · exact h.elim
    · exact h.elim
  · exact h.elim
/-! ## S. Subscripts and slices -/
def ixDc0 (x y : D) (g : G) (Q : QT) : Prop := match x with
  | .dct _ _ => ixDct x y g Q
  | _ => False
def oIx : DO2 := fun x y g Q => match y with
  | .int i => (match x with
    | .str s => s.length ≤ sizeLine ∧ (match atI s i with
      | some c => Q (.str [c]) g
      | none => False)
    | x => match seqOf g x with
      | some l => (match atI l i with
        | some d => Q d g
        | none => False)
      | none => ixDc0 x (.int i) g Q)
  | y => ixDct x y g Q
theorem atI_rel {K : PySem.W.Frag} {l : List D} {xs : List V} {i : Int} {d : D} (j : IsL T K H l xs) (h : atI l i = some d) : ∃ v, atI xs i = some v ∧ Is T K H d v := by
  unfold atI at h ⊢
  rw [← j.length]
  cases e : ixN l.length i with
  | none => rw [e] at h; cases h
  | some n =>
    rw [e] at h
    exact j.get h
theorem IxR_of {o : DO2} (h : ∀ x y H Q, LO2 T X.K o x y H Q → ∃ r, IxR X r ∧ r x y H Q) : IxR X (LO2 T X.K o) := fun value slice pins s σ H x y v u Q I rx ry q hs => by
  obtain ⟨r, hr, q⟩ := h x y H Q q
  exact hr value slice pins s σ H x y v u Q I rx ry q hs
theorem ixD (hu : X.A.units + 64 < cLine) {dx dy : D} {x y : V} {H : Hp} {Q : VK} {g : G} {QD : QT} (ix : Is T X.K H dx x) (iy : Is T X.K H dy y) (rg : RG T X.K g H) (h : ixDct dx dy g QD) (c : ∀ v d H' g', Kg g H g' H' → Is T X.K H' d v → RG T X.K g' H' → QD d g' → Q v H') : ∃ r, IxR X r ∧ r x y H Q := by
  unfold ixDct at h
  split at h
  · rename_i q e
    obtain ⟨a, kvs, rfl, hd, j1, j2⟩ := dctOf_rd rg ix e
    obtain ⟨hk, h⟩ := h
    obtain ⟨k, rfl⟩ := key_kV hk iy
    split at h
    · rename_i d ed
      obtain ⟨v, e1, i1⟩ := (look_ok hk iy j1 j2).1 d ed
      exact ⟨_, ix_dct (by omega), a, v, rfl, .inl ⟨kvs, k, hd, rfl, e1.symm⟩, c _ _ _ _ (Kg.refl g H) i1 rg h⟩
    · exact h.elim
  · exact h.elim
theorem xIx (hu : X.A.units + 64 < cLine) : IxR X (LO2 T X.K oIx) := by
  refine IxR_of fun x y H Q ⟨dx, dy, g, QD, ix, iy, rg, h, c⟩ => ?_
  unfold oIx at h
  split at h
  · simp only [Is] at iy
    subst iy
    split at h
    · obtain ⟨hz, h⟩ := h
      split at h
      · rename_i e
        simp only [Is] at ix
        subst ix
        exact ⟨_, ix_str, _, _, _, rfl, rfl, by rw [S_len]; exact hz, e, c.is (d := .str _) (by simp only [Is]) rg h⟩
      · exact h.elim
    · split at h
      · rename_i l e
        obtain ⟨a, xs, rfl, s, j⟩ := seqOf_sq rg ix e
        split at h
        · rename_i d ed
          obtain ⟨v, e1, i1⟩ := atI_rel j ed
          rcases s with s | s
          · exact ⟨_, ix_list, a, xs, _, v, rfl, rfl, s, e1, c.is i1 rg h⟩
          · exact ⟨_, ix_tup, a, xs, _, v, rfl, rfl, s, e1, c.is i1 rg h⟩
        · exact h.elim
      · unfold ixDc0 at h
        split at h
        · exact ixD hu ix (by simp only [Is]) rg h c.go
        · exact h.elim
  · exact ixD hu ix iy rg h c.go
def plainIx : Expr → Bool
  | .Slice _ _ _ _ => false
  | _ => true
theorem plainIx_ok {b : Expr} (h : plainIx b = true) : PlainIx b := fun o i => by
  cases b <;> first | rfl | cases h
/-- x[lo:hi] -/
def cutD (l : List D) (lo hi : Option Int) : List D := (l.drop (HT.sIx l.length 0 lo)).take (HT.sIx l.length l.length hi - HT.sIx l.length 0 lo)
def cutN (l : List Nat) (lo hi : Option Int) : List Nat := (l.drop (HT.sIx l.length 0 lo)).take (HT.sIx l.length l.length hi - HT.sIx l.length 0 lo)
def oSl (m : Bool) (x : D) (lo hi : Option Int) (g : G) (Q : QT) : Prop := match x with
  | .str s => s.length ≤ sizeLine ∧ Q (.str (cutN s lo hi)) g
  | .tup l => Q (.tup (cutD l lo hi)) g
  | x => match lstOf g x with
    | some l => if m then ∀ a, g a = none → Q (.adr a) (gset g a (.lst (cutD l lo hi))) else Q (.lst (cutD l lo hi)) g
    | none => False
def dPart (t : Option DTE) (C : Cal) (ρ : R) (g : G) (Q : Option Int → G → Prop) (E : ET) : Prop := match t with
  | none => Q none g
  | some t => t C ρ g (fun d g1 => match d with
    | .int i => Q (some i) g1
    | _ => False) E
def dSl (m : Bool) (ta : DTE) (tl th : Option DTE) : DTE := fun C ρ g Q E => ta C ρ g (fun x g1 => dPart tl C ρ g1 (fun lo g2 => dPart th C ρ g2 (fun hi g3 => oSl m x lo hi g3 Q) E) E) E
theorem cut_rel {K : PySem.W.Frag} {l : List D} {xs : List V} (j : IsL T K H l xs) (lo hi : Option Int) : IsL T K H (cutD l lo hi) (cutV xs lo hi) := by
  unfold cutD cutV
  rw [j.length]
  exact (j.drop _).take _
theorem cut_whole {l : List D} {lo hi : Option Int} (h : HT.sIx l.length 0 lo = 0 ∧ HT.sIx l.length l.length hi = l.length) : cutD l lo hi = l := by
  unfold cutD
  rw [h.1, h.2]
  simp
theorem SlR.pick {f : V → Option Int → Option Int → Hp → VK → Prop} (h : ∀ x lo hi H Q, f x lo hi H Q → ∃ r, SlR X r ∧ r x lo hi H Q) : SlR X f := fun pins s σ H x v vl vu lo hi sl Q I rx hs pl pu q => by
  obtain ⟨r, hr, q⟩ := h x lo hi H Q q
  exact hr pins s σ H x v vl vu lo hi sl Q I rx hs pl pu q
theorem SlR.frz {r : V → Option Int → Option Int → Hp → VK → Prop} (h : SlR X r) : SlR X (fun x lo hi H Q => r x lo hi H (frzQ Q)) := fun pins s σ H x v vl vu lo hi sl Q I rx hs pl pu q => by
  obtain ⟨T', id, h1, h2, h3⟩ := h pins s σ H x v vl vu lo hi sl _ I rx hs pl pu q
  exact ⟨T', id, h1, h2, thn h3 fun _ _ z => frz_ep z⟩
def LSl (T : Tab) (K : PySem.W.Frag) (m : Bool) : V → Option Int → Option Int → Hp → VK → Prop := fun x lo hi H Q => ∃ dx g QD, Is T K H dx x ∧ RG T K g H ∧ oSl m dx lo hi g QD ∧ Ct T K g H QD Q
theorem xSl {m : Bool} : SlR X (LSl T X.K m) := by
  refine SlR.pick fun x lo hi H Q ⟨dx, g, QD, ix, rg, h, c⟩ => ?_
  unfold oSl at h
  split at h
  · simp only [Is] at ix
    subst ix
    refine ⟨_, sl_str, _, rfl, by rw [S_len]; exact h.1, c.is (d := .str _) ?_ rg h.2⟩
    simp only [Is]
    unfold cutS cutN
    rw [S_len]
  · rename_i l
    simp only [Is] at ix
    obtain ⟨a, xs, rfl, s, j⟩ := ix
    refine ⟨_, sl_tupA, a, xs, rfl, s, fun hw => ?_, fun _ p hp => c.tup hp (cut_rel j lo hi) rg h⟩
    rw [← j.length] at hw
    rw [cut_whole hw] at h
    exact c.is (d := .tup l) (by simp only [Is]; exact ⟨a, xs, rfl, s, j⟩) rg h
  · split at h
    · rename_i l e
      obtain ⟨a, xs, rfl, s, j⟩ := lstOf_rd rg ix e
      cases m with
      | true => exact ⟨_, sl_list, a, xs, rfl, .inl s, fun p hp => c.mls hp (cut_rel j lo hi) rg (by simpa using h)⟩
      | false => exact ⟨_, SlR.frz sl_list, a, xs, rfl, .inl s, fun p hp => c.lst hp (cut_rel j lo hi) rg (by simpa using h)⟩
    · exact h.elim
end
section
variable {X : Cx} {T : Tab} {C : Cal} {W : WX} {e a b : Expr} {ta tb : DTE} {pos p2 : Pos}
theorem de_ix (hu : X.A.units + 64 < cLine) (hb' : plainIx b = true) (ha : PE X a (LE T X.K C W ta)) (hb : PE X b (LE T X.K C W tb)) : PE X (.Subscript a b pos) (LE T X.K C W (dBin oIx ta tb)) :=
  de_bin (fun _ _ h1 h2 => pe_ix (xIx hu) h1 h2 (plainIx_ok hb')) (fun _ _ _ _ h => h) ha hb
/-- a slice's bound -/
def LPt (T : Tab) (K : PySem.W.Frag) (C : Cal) (W : WX) (t : Option DTE) : TO := fun σ H Q => ∃ ρ g QD ED, RS T K H ρ σ ∧ RG T K g H ∧ dPart t C ρ g QD ED ∧ (∀ o H' g', Kg g H g' H' → RG T K g' H' → QD o g' → Q o H') ∧ CtE T K g H ED fun cls dd H' => W cls dd σ H'
theorem PO.imp {X : Cx} {e : Option Expr} {t t' : TO} (h : PO X e t) (k : ∀ σ H Q, t' σ H Q → t σ H Q) : PO X e t' := ⟨fun pins s σ H Q I q => h.run pins s σ H Q I (k σ H Q q)⟩
theorem dp_none : PO X none (LPt T X.K C W none) := PO.imp po_none fun σ H Q ⟨ρ, g, QD, ED, rs, rg, h, c, ce⟩ => c _ H g (Kg.refl g H) rg h
theorem dp_some (h : PE X e (LE T X.K C W ta)) : PO X (some e) (LPt T X.K C W (some ta)) := by
  refine PO.imp (po_some h) fun σ H Q ⟨ρ, g, QD, ED, rs, rg, h, c, ce⟩ => ?_
  refine ⟨ρ, g, _, ED, rs, rg, h, ⟨fun v d H1 g1 k1 i1 rg1 h1 => ?_⟩, ce⟩
  split at h1
  · simp only [Is] at i1
    exact ⟨_, i1, c _ _ _ k1 rg1 h1⟩
  · exact h1.elim
theorem de_sl {m : Bool} {lo hi : Option Expr} {tl th : Option DTE} (ha : PE X a (LE T X.K C W ta)) (hl : PO X lo (LPt T X.K C W tl)) (hh : PO X hi (LPt T X.K C W th)) :
    PE X (.Subscript a (.Slice lo hi none p2) pos) (LE T X.K C W (dSl m ta tl th)) := by
  refine PE.imp (pe_slice (xSl (T := T) (m := m)) ha hl hh) fun σ H Q ⟨ρ, g, QD, ED, rs, rg, h, c, ce⟩ => ?_
  refine ⟨ρ, g, _, ED, rs, rg, h, ⟨fun x dx H1 g1 k1 i1 rg1 h1 => ?_⟩, ce⟩
  refine ⟨ρ, g1, _, ED, rs.mono k1.kp, rg1, h1, fun o H2 g2 k2 rg2 h2 => ?_, ce.mono k1⟩
  refine ⟨ρ, g2, _, ED, (rs.mono k1.kp).mono k2.kp, rg2, h2, fun o' H3 g3 k3 rg3 h3 => ?_, (ce.mono k1).mono k2⟩
  exact ⟨dx, g3, QD, (i1.mono k2.kp).mono k3.kp, rg3, h3, ((c.mono k1).mono k2).mono k3⟩
end
end Cn

namespace Cn
open PySem PySem.Spec PyProof.Rows L2
/-! ## SR. xs[::-1] -/
def oRev (m : Bool) : DO1 := fun d g Q => match d with
  | .tup l => Q (.tup l.reverse) g
  | .str s => s.length ≤ sizeLine ∧ Q (.str s.reverse) g
  | d => match lstOf g d with
    | some l => if m then ∀ a, g a = none → Q (.adr a) (gset g a (.lst l.reverse)) else Q (.lst l.reverse) g
    | none => False
section
variable {prog : Program} {w : World} {A : Around} {s : Shared} {E : Value → Shared → Prop}
theorem back_applied {sl : Addr} {vl vu vs : Value} {n : Nat} {Q : Int × Int × Nat → Shared → Prop} (hs : s.heap.IsSliceOf sl vl vu vs) (pl : IsPart vl none) (pu : IsPart vu none) (ps : IsPart vs (some (-1)))
    (h : Q ((n : Int) - 1, -1, n) s) : wpAny (model prog w) A (Builtin.Slice.sliceApplied (.ref sl) (pure (n : Int))) Q E s := by
  obtain ⟨ob, e0, e1, e2⟩ := id hs
  unfold Builtin.Slice.sliceApplied Builtin.Slice.sliceFields; refine wpAny_bind (wpAny_bind (wpAny_field e0 e2 (x := vl) rfl (wpAny_bind (wpAny_field e0 e2 (x := vu) rfl (wpAny_bind (wpAny_field e0 e2 (x := vs) rfl (wpAny_pure ?_)))))))
  refine wpAny_bind (HT.slicePart_ ps ?_); show wpAny _ _ (if ((-1 : Int) == 0) = true then _ else _) _ _ s
  rw [if_neg (by decide)]; refine wpAny_bind (HT.slicePart_ pl (wpAny_bind (HT.slicePart_ pu (wpAny_bind (wpAny_pure ?_)))))
  have ea : Builtin.Slice.sliceAdjust none none (-1) (n : Int) = ((n : Int) - 1, -1) := by simp [Builtin.Slice.sliceAdjust]
  have ep : Builtin.Slice.slicePlaces ((n : Int) - 1) (-1) (-1) = n := by
    simp only [Builtin.Slice.slicePlaces]
    by_cases hn : (n : Int) - 1 > -1
    · rw [if_neg (by decide), if_pos hn]
      have : ((n : Int) - 1 - -1 - 1) / (- -1) = (n : Int) - 1 := by rw [show (- -1 : Int) = 1 by decide, Int.ediv_one]; omega
      rw [this]
      omega
    · rw [if_neg (by decide), if_neg hn]
      omega
  show wpAny _ _ (match Builtin.Slice.sliceAdjust none none (-1) (n : Int) with | (lo, hi) => pure (lo, (-1 : Int), Builtin.Slice.slicePlaces lo hi (-1))) _ _ s
  rw [ea]; show wpAny _ _ (pure ((n : Int) - 1, (-1 : Int), Builtin.Slice.slicePlaces ((n : Int) - 1) (-1) (-1))) _ _ s
  rw [ep]; exact wpAny_pure h
theorem back_pickG {α : Type} : ∀ (xs : List α), ((List.range xs.length).filterMap fun (m : Nat) => xs.toArray[((xs.length : Int) - 1 + (m : Int) * (-1)).toNat]?) = xs.reverse := by
  intro xs
  have e : ∀ m ∈ List.range xs.length, xs.toArray[((xs.length : Int) - 1 + (m : Int) * (-1)).toNat]? = xs.reverse[m]? := by
    intro m hm
    have hm := List.mem_range.mp hm
    have e1 : ((xs.length : Int) - 1 + (m : Int) * (-1)).toNat = xs.length - 1 - m := by omega
    rw [e1, List.getElem?_reverse hm]
    simp
  have fm : ∀ (f : Nat → Option α) (l : List Nat), l.filterMap f = (l.map f).filterMap id := fun f l => by rw [List.filterMap_map]; rfl
  have e2 : (List.range xs.length).filterMap (fun (m : Nat) => xs.toArray[((xs.length : Int) - 1 + (m : Int) * (-1)).toNat]?) = (List.range xs.length).filterMap (fun m => xs.reverse[m]?) := by
    rw [fm, fm (fun m => xs.reverse[m]?), List.map_congr_left e]
  rw [e2]
  have e3 : ∀ ys : List α, (List.range ys.length).filterMap (fun m => ys[m]?) = ys := by
    intro ys
    have h1 : (List.range ys.length).map (fun m => ys[m]?) = ys.map some := by
      apply List.ext_getElem?
      intro i
      by_cases hi : i < ys.length
      · simp [hi]
      · simp [hi]
    have h2 : (List.range ys.length).filterMap (fun m => ys[m]?) = ((List.range ys.length).map (fun m => ys[m]?)).filterMap id := by rw [List.filterMap_map]; rfl
    rw [h2, h1, List.filterMap_map]
    show ys.filterMap (id ∘ some) = ys
    rw [show (id ∘ some : α → Option α) = some from rfl, List.filterMap_some]
  have := e3 xs.reverse
  rw [List.length_reverse] at this
  exact this
theorem back_pick (xs : List Value) : ((List.range xs.length).filterMap fun (m : Nat) => xs.toArray[((xs.length : Int) - 1 + (m : Int) * (-1)).toNat]?) = xs.reverse := back_pickG xs
theorem get_backS {sl : Addr} {x : List Nat} {t : Tok} {vl vu vs : Value} {Q : Value → Shared → Prop} (hs : s.heap.IsSliceOf sl vl vu vs) (pl : IsPart vl none) (pu : IsPart vu none) (ps : IsPart vs (some (-1)))
    (h : ∀ k u, Q (.str (S x.reverse) u) { s with toks := k }) (hz : x.length ≤ sizeLine) : wpAny (model prog w) A (getItem (.str (S x) t) (.ref sl)) Q E s := by
  obtain ⟨os, hos, hcs, hds⟩ := hs
  obtain ⟨l, rfl, el⟩ := IsPart.raw pl
  obtain ⟨u, rfl, eu⟩ := IsPart.raw pu
  obtain ⟨st, rfl, es⟩ := IsPart.raw ps
  have el' : l.map (·.1) = none := el
  have eu' : u.map (·.1) = none := eu
  have es' : st.map (·.1) = some (-1) := es
  refine wpAny_getItem_str_slice (l := l) (u := u) (st := st) ⟨os, hos, hcs, hds⟩ (by rw [es']; rfl) ?_
  have eL : (S x).length = x.length := S_len x
  have ei : Builtin.Str.strSliceIndices none none (-1) x.length = (List.range x.length).map fun (m : Nat) => ((x.length : Int) - 1 + (m : Int) * (-1)).toNat := by
    unfold Builtin.Str.strSliceIndices sliceRange
    simp only [show ¬ ((-1 : Int) > 0) from by decide, if_false]
    have ec : (if (x.length : Int) - 1 > -1 then ((x.length : Int) - 1 - -1 - -1 - 1) / (- -1) else 0).toNat = x.length := by
      have e1 : (- -1 : Int) = 1 := by decide
      rw [e1, Int.ediv_one]
      split
      · omega
      · omega
    rw [ec]
    apply List.map_congr_left
    intro m _
    congr 1
    omega
  have er : ((Builtin.Str.strSliceIndices none none (-1) x.length).filterMap ((S x).cps[·]?)).toArray = x.reverse.toArray := by
    rw [ei, List.filterMap_map]
    congr 1
    exact back_pickG x
  unfold sliceMade slicePicked
  simp only [el', eu', es', eL, Option.getD_some]
  rw [if_neg (by simp)]
  have er' : (List.filterMap (fun i => (S x).cps[i]?) (Builtin.Str.strSliceIndices none none (-1) x.length)).toArray = x.reverse.toArray := er
  rw [er']
  exact ⟨by simpa [Str.length] using hz, h _ _⟩
theorem get_back {t sl : Addr} {xs : List Value} {vl vu vs : Value} {Q : Value → Shared → Prop} (ht : IsTup s.heap t xs.toArray) (hs : s.heap.IsSliceOf sl vl vu vs) (pl : IsPart vl none) (pu : IsPart vu none) (ps : IsPart vs (some (-1)))
    (h : Q (.ref s.heap.objs.size) { s with heap := s.heap.push { cls := .type "tuple", data := .seq xs.reverse.toArray } }) (hz : xs.length ≤ sizeLine) : wpAny (model prog w) A (getItem (.ref t) (.ref sl)) Q E s := by
  have fits : sizeOk (.seq xs.reverse.toArray) := by
    show xs.reverse.toArray.size ≤ sizeLine
    simpa using hz
  obtain ⟨ob, e0, e1, e2⟩ := id hs
  have ts : s.TypeIs (.ref sl) "slice" := ⟨ob, e0, e1⟩
  unfold getItem; try with_reducible refine wpAny_holding ?_
  first | refine wpAny_bind (wpAny_pure ?_) | skip
  refine wpAny_bind (wpAny_sequenceKey ht.typeIs (by decide) ?_)
  refine wpAny_bind (wpAny_callSpecial?_slot (name := Str.ofString "__getitem__") ht.typeIs PyProof.Rows.slot_tuple_getitem (wpAny_call_entry PyProof.Rows.slot_tuple_getitem ht.typeIs PyProof.Rows.entry_tuple_getitem ?_ (PyProof.Rows.args_tuple_getitem _ _)))
  show wpAny _ _ (Builtin.Tuple.tupleItemsOf (.ref t) >>= _) _ _ s; refine wpAny_bind (tupleItemsOf_ ht ?_)
  refine wpAny_bind (wpAny_typeOf ts ?_); rw [if_pos (by decide)]
  have hsz : (xs.toArray.size : Int) = ((xs.length : Nat) : Int) := by simp
  show wpAny _ _ (Builtin.Slice.sliceApplied (.ref sl) (pure (xs.toArray.size : Int)) >>= _) _ _ s
  rw [hsz]; refine wpAny_bind (back_applied hs pl pu ps ?_)
  show wpAny _ _ (if (((xs.length : Int) - 1 == 0) && ((-1 : Int) == 1) && (xs.length == xs.toArray.size)) = true then _ else _) _ _ s
  rw [if_neg (by simp)]
  rw [back_pick]
  first
    | exact wpAny_bind (m := Builtin.Tuple.tupleExact _) (wpAny_newObj_type (wpAny_pure ⟨_, rfl, wpAny_pure h⟩) fits)
    | exact wpAny_bind (m := Builtin.Tuple.tupleExact _) (wpAny_newObj_type (wpAny_bind (wpAny_pure (wpAny_pure ⟨_, rfl, wpAny_pure h⟩))) fits)
    | exact wpAny_bind (wpAny_bind (m := Builtin.Tuple.tupleExact _) (wpAny_newObj_type (wpAny_pure (wpAny_pure ⟨_, rfl, wpAny_pure h⟩)) fits))
    | exact wpAny_bind (wpAny_bind (m := Builtin.Tuple.tupleExact _) (wpAny_newObj_type (wpAny_pure ⟨_, rfl, wpAny_pure h⟩) fits))
end
section
variable {X : Cx} {T : Tab} {C : Cal} {W : WX} {e : Expr} {ta : DTE} {pos p1 p2 p3 : Pos} {k : Nat}
theorem de_rev {m : Bool} (he : PE X e (LE T X.K C W ta)) : PE X (.Subscript e (.Slice none none (some (.UnaryOp .USub (.Constant (.int 1) k p1) p2)) p3) pos) (LE T X.K C W (dUn (oRev m) ta)) := by
  refine ⟨fun pins s σ H Q I ⟨ρ, g, QD, ED, rs, rg, h, c, ce⟩ => ?_⟩
  refine Subscript_ (thn (he.run pins s σ H (fun v H1 => ∃ d g1, Kg g H g1 H1 ∧ Is T X.K H1 d v ∧ RG T X.K g1 H1 ∧ oRev m d g1 QD) I ⟨ρ, g, _, ED, rs, rg, h, ⟨fun v d H1 g1 k1 i1 rg1 h1 => ⟨d, g1, k1, i1, rg1, h1⟩⟩, ce⟩) fun u s1 ⟨v, H1, I1, r1, d, g1, k1, i1, rg1, h1⟩ => ?_)
  have st : PO X (some (.UnaryOp .USub (.Constant (.int 1) k p1) p2)) (tPart (tUn (rU fun i => .int (-i)) (tC (.int 1)))) := po_some (pe_un un_neg pe_int)
  refine wpAny_Slice (thn (po_none.run pins s1 σ H1 (fun o H2 => o = none ∧ H2 = H1) I1 ⟨rfl, rfl⟩) fun vl s2 ⟨lo, H2, I2, pl, el, e2⟩ => ?_); subst el e2
  refine thn (po_none.run pins s2 σ H2 (fun o H3 => o = none ∧ H3 = H2) I2 ⟨rfl, rfl⟩) fun vu s3 ⟨hi, H3, I3, pu, eu, e3⟩ => ?_; subst eu e3
  refine thn (st.run pins s3 σ H3 (fun o H4 => o = some (-1) ∧ H4 = H3) I3 ⟨1, rfl, -1, rfl, rfl, rfl⟩) fun vs s4 ⟨o, H4, I4, ps, eo, e4⟩ => ?_; subst eo e4
  have I5 : Inv X pins σ H4 { s4 with heap := s4.heap.push { cls := .type "slice", data := .fields #[vl, vu, vs] } } := I4.kept (fun b ob q => Heap.get?_push_of_some _ q) (t' := s4.toks)
  have fr := I5.hok.fresh (Nat.le_refl _)
  unfold oRev at h1
  split at h1
  · rename_i l
    simp only [Is] at i1
    obtain ⟨a, xs, rfl, hx, j⟩ := i1
    cases r1
    obtain ⟨its, r, ht, hz⟩ := I5.tuple hx
    show wpAny (model X.prog X.w) X.A (subscriptTail e (.Slice none none (some (.UnaryOp .USub (.Constant (.int 1) k p1) p2)) p3) (.ref a) (.ref s4.heap.objs.size)) _ _ _
    refine tail_any (ops := [.ref a, .ref s4.heap.objs.size]) ht.typeIs (PyProof.Rows.slot_tuple_getitem.lookup) ?_ (by with_unfolding_all rfl)
    refine get_back ht (Heap.IsSliceOf.new _ vl vu vs) pl pu ps ?_ (by rw [← r.length]; exact hz)
    have I6 := I5.laid (t' := s4.toks) (o := .tup xs.reverse) (fun b ob q => Heap.get?_push_of_some { cls := .type "tuple", data := .seq its.reverse.toArray } q) (Nat.le_refl _) ⟨by rw [List.length_reverse]; exact hz, _, r.reverse, IsTup.new _ _⟩
    exact ⟨.ref _, _, I6, rfl, (c.mono k1).tup fr j.reverse rg1 h1⟩
  · rename_i x
    simp only [Is] at i1
    subst i1
    obtain ⟨t, rfl⟩ := r1
    show wpAny (model X.prog X.w) X.A (subscriptTail e (.Slice none none (some (.UnaryOp .USub (.Constant (.int 1) k p1) p2)) p3) (.str (S x) t) (.ref s4.heap.objs.size)) _ _ _
    refine tail_any (ops := [.str (S x) t, .ref s4.heap.objs.size]) (typeIs_str _ _ _) (F.slot_str_getitem.lookup) ?_ (by with_unfolding_all rfl)
    exact get_backS (Heap.IsSliceOf.new _ vl vu vs) pl pu ps (fun kk u => ⟨.str (S x.reverse), _, I5.tok _, ⟨u, rfl⟩, (c.mono k1).is (d := .str x.reverse) (by simp only [Is]) rg1 h1.2⟩) h1.1
  · split at h1
    · rename_i l el
      obtain ⟨a, xs, rfl, hs, j⟩ := lstOf_rd rg1 i1 el
      cases r1
      obtain ⟨its, r, ht, hz⟩ := I5.list (.inl hs)
      show wpAny (model X.prog X.w) X.A (subscriptTail e (.Slice none none (some (.UnaryOp .USub (.Constant (.int 1) k p1) p2)) p3) (.ref a) (.ref s4.heap.objs.size)) _ _ _
      refine tail_any (ops := [.ref a, .ref s4.heap.objs.size]) ht.isList.typeIs (PySem.slot_list_getitem.lookup) ?_ (by with_unfolding_all rfl)
      refine wpAny_getItem_list_slice ht.isList (Heap.IsSliceOf.new _ vl vu vs) pl pu ps (by decide) ?_ (by rw [List.size_toArray, ← r.length]; exact hz)
      rw [PySem.W.krv_pick]
      have I6 := I5.laid (t' := s4.toks) (o := .lst xs.reverse) (fun b ob q => Heap.get?_push_of_some { cls := .type "list", data := .seq its.toArray.toList.reverse.toArray } q) (Nat.le_refl _) ⟨by rw [List.length_reverse]; exact hz, _, 0, r.reverse, Heap.get?_push_size _ rfl⟩
      cases m with
      | true => exact ⟨.ref _, _, I6, rfl, (c.mono k1).mls fr j.reverse rg1 (by simpa using h1)⟩
      | false => exact frz_ep ⟨.ref _, _, I6, rfl, (c.mono k1).lst fr j.reverse rg1 (by simpa using h1)⟩
    · exact h1.elim
end
end Cn

namespace Cn
open PySem PySem.Spec PyProof.Rows L2

/-! ## T. Targets -/
inductive Tg where
  | nm (i : Nat)
  | tp (ts : List Tg)
mutual
def asgT : Tg → D → R → (R → Prop) → Prop
  | .nm i, d, ρ, k => k (ρ.set i (some d))
  | .tp ts, d, ρ, k => match d with
    | .tup l => asgTs ts l ρ k
    | .lst l => asgTs ts l ρ k
    | _ => False
def asgTs : List Tg → List D → R → (R → Prop) → Prop
  | [], l, ρ, k => l = [] ∧ k ρ
  | t :: ts, l, ρ, k => match l with
    | [] => False
    | d :: ds => asgT t d ρ fun ρ1 => asgTs ts ds ρ1 k
end
mutual
theorem asgT_imp : ∀ (t : Tg) {d : D} {ρ : R} {k k' : R → Prop}, asgT t d ρ k → (∀ ρ', k ρ' → k' ρ') → asgT t d ρ k'
  | .nm i, d, ρ, k, k', h, i' => by simp only [asgT] at h ⊢; exact i' _ h
  | .tp ts, d, ρ, k, k', h, i' => by
    simp only [asgT] at h ⊢
    split at h
    · exact asgTs_imp ts h i'
    · exact asgTs_imp ts h i'
    · exact h.elim
theorem asgTs_imp : ∀ (ts : List Tg) {l : List D} {ρ : R} {k k' : R → Prop}, asgTs ts l ρ k → (∀ ρ', k ρ' → k' ρ') → asgTs ts l ρ k'
  | [], l, ρ, k, k', h, i' => by simp only [asgTs] at h ⊢; exact ⟨h.1, i' _ h.2⟩
  | t :: ts, l, ρ, k, k', h, i' => by
    simp only [asgTs] at h ⊢
    split at h
    · exact h.elim
    · exact asgT_imp t h fun ρ1 h1 => asgTs_imp ts h1 i'
end
mutual
def Tg.slots : Tg → List Nat
  | .nm i => [i]
  | .tp ts => slotsL ts
def slotsL : List Tg → List Nat
  | [] => []
  | t :: ts => t.slots ++ slotsL ts
end
/-- σ' differs from σ at some of these slots alone -/
def Off (is : List Nat) (σ σ' : L2.St) : Prop := ∀ vs : List Nat, (∀ i ∈ is, i ∈ vs) → wipe σ' vs = wipe σ vs
/-- what may be unpacked: a value; a list that may change, read now -/
def IsU (T : Tab) (K : PySem.W.Frag) (H : Hp) (t : Tg) (d : D) (v : V) : Prop := Is T K H d v ∨ ∃ ts a l xs, t = .tp ts ∧ d = .lst l ∧ v = .ref a ∧ H a = some (.lst xs) ∧ IsL T K H l xs
def unG (g : G) (t : Tg) (d : D) : D := match t with
  | .nm _ => d
  | .tp _ => match d with
    | .adr a => match g a with
      | some (.lst l) => .lst l
      | _ => .adr a
    | d => d
def asgU (g : G) (t : Tg) (d : D) (ρ : R) (k : R → Prop) : Prop := asgT t (unG g t d) ρ k
theorem un_is {T : Tab} {K : PySem.W.Frag} {H : Hp} {g : G} {t : Tg} {d : D} {v : V} (i : Is T K H d v) (rg : RG T K g H) : IsU T K H t (unG g t d) v := by
  unfold unG
  split
  · exact .inl i
  · split
    · rename_i ts a
      split
      · rename_i l e
        obtain ⟨xs, q, j⟩ := rg _ _ e
        simp only [Is] at i
        exact .inr ⟨_, _, l, xs, rfl, rfl, i, q, j⟩
      · exact .inl i
    · exact .inl i
/-- a target's reading by values: what it stores, where -/
def LG (T : Tab) (K : PySem.W.Frag) (t : Tg) : TG := fun v σ H Q => ∃ d ρ, IsU T K H t d v ∧ RS T K H ρ σ ∧ asgT t d ρ fun ρ' => ∀ σ', RS T K H ρ' σ' → Off t.slots σ σ' → Q σ' H
def LGs (T : Tab) (K : PySem.W.Frag) (ts : List Tg) : TGs := fun vs σ H Q => ∃ ds ρ, IsL T K H ds vs ∧ RS T K H ρ σ ∧ asgTs ts ds ρ fun ρ' => ∀ σ', RS T K H ρ' σ' → Off (slotsL ts) σ σ' → Q σ' H
theorem wipe_set {σ : L2.St} {i : Nat} {x : Option V} : ∀ {vs : List Nat}, i ∈ vs → wipe (σ.set i x) vs = wipe σ vs
  | [], h => by simp at h
  | v :: vs, h => by
    unfold L2.wipe
    by_cases e : i ∈ vs
    · rw [wipe_set e]
    · have hv : i = v := by simpa [e] using h
      subst hv
      have : ∀ (ws : List Nat), i ∉ ws → L2.wipe (σ.set i x) ws = (L2.wipe σ ws).set i x := by
        intro ws
        induction ws with
        | nil => intro _; rfl
        | cons w ws ih =>
          intro hn
          unfold L2.wipe
          rw [ih (by simp at hn; exact hn.2), List.set_comm _ _ (by simp at hn; exact hn.1)]
      rw [this vs e, List.set_set]
section
variable {X : Cx} {T : Tab} {pos : Pos}
theorem PG.imp {X : Cx} {e : Expr} {t t' : TG} (h : PG X e t) (k : ∀ v σ H Q, t' v σ H Q → t v σ H Q) : PG X e t' := ⟨fun pins s σ H v u Q I r q => h.run pins s σ H v u Q I r (k v σ H Q q)⟩
theorem PG.or {X : Cx} {e : Expr} {t t' : TG} (h : PG X e t) (h' : PG X e t') : PG X e (fun v σ H Q => t v σ H Q ∨ t' v σ H Q) := ⟨fun pins s σ H v u Q I r q => q.elim (h.run pins s σ H v u Q I r) (h'.run pins s σ H v u Q I r)⟩
theorem PGs.imp {X : Cx} {e : List Expr} {t t' : TGs} (h : PGs X e t) (k : ∀ v σ H Q, t' v σ H Q → t v σ H Q) : PGs X e t' := ⟨fun pins s σ H v u Q I r q => h.run pins s σ H v u Q I r (k v σ H Q q)⟩
theorem dg_name {i : Nat} {x : Str} (hN : X.N.Nodup) (hi : X.N[i]? = some x) (hx : Loc X.env.scope x) (hf : X.fn x = true ∨ X.env.scope.names.lookup x = some .local) : PG X (.Name x pos) (LG T X.K (.nm i)) :=
  PG.imp (pg_name hN hi hx hf) fun v σ H Q ⟨d, ρ, i1, rs, h⟩ => by
    have i1 : Is T X.K H d v := by
      rcases i1 with i1 | ⟨_, _, _, _, e, _⟩
      · exact i1
      · cases e
    simp only [asgT] at h
    exact h _ (rs.set i i1) fun vs hv => wipe_set (hv i (by simp [Tg.slots]))
theorem dgs_nil : PGs X [] (LGs T X.K []) := PGs.imp pgs_nil fun v σ H Q ⟨ds, ρ, i1, rs, h⟩ => by
  simp only [asgTs] at h
  obtain ⟨rfl, h⟩ := h
  simp only [IsL] at i1
  exact ⟨i1, h _ rs fun vs _ => rfl⟩
theorem dgs_cons {e : Expr} {es : List Expr} {t : Tg} {ts : List Tg} (h1 : PG X e (LG T X.K t)) (h2 : PGs X es (LGs T X.K ts)) (hs : (assignEach (e :: es) X.env).map (·.2) = assign e X.env :: (assignEach es X.env).map (·.2)) : PGs X (e :: es) (LGs T X.K (t :: ts)) :=
  PGs.imp (pgs_cons h1 h2 hs) fun v σ H Q ⟨ds, ρ, i1, rs, h⟩ => by
    cases ds with
    | nil => simp only [asgTs] at h
    | cons d ds =>
      simp only [IsL] at i1
      obtain ⟨w, ws, rfl, a, j⟩ := i1
      simp only [asgTs] at h
      refine ⟨w, ws, rfl, d, ρ, .inl a, rs, asgT_imp t h fun ρ1 q1 σ1 rs1 o1 => ?_⟩
      refine ⟨ds, ρ1, j, rs1, asgTs_imp ts q1 fun ρ2 q2 σ2 rs2 o2 => q2 σ2 rs2 fun vs hv => ?_⟩
      rw [o2 vs fun i hi => hv i (by simp [slotsL, hi]), o1 vs fun i hi => hv i (by simp [slotsL, hi])]
theorem asgTs_length : ∀ (ts : List Tg) {l : List D} {ρ : R} {k : R → Prop}, asgTs ts l ρ k → l.length = ts.length := by
  intro ts
  induction ts with
  | nil => intro l ρ k h; simp only [asgTs] at h; simp [h.1]
  | cons t ts ih =>
    intro l ρ k h
    simp only [asgTs] at h
    split at h
    · exact h.elim
    · rename_i d ds
      have : ∀ (t : Tg) {d : D} {ρ : R} {k : R → Prop}, asgT t d ρ k → ∃ ρ', k ρ' := by
        refine fun t => Tg.rec (motive_1 := fun t => ∀ {d : D} {ρ : R} {k : R → Prop}, asgT t d ρ k → ∃ ρ', k ρ') (motive_2 := fun ts => ∀ {l : List D} {ρ : R} {k : R → Prop}, asgTs ts l ρ k → ∃ ρ', k ρ') ?_ ?_ ?_ ?_ t
        · intro i d ρ k h; simp only [asgT] at h; exact ⟨_, h⟩
        · intro ts ih d ρ k h
          simp only [asgT] at h
          split at h
          · exact ih h
          · exact ih h
          · exact h.elim
        · intro l ρ k h; simp only [asgTs] at h; exact ⟨_, h.2⟩
        · intro t ts i1 i2 l ρ k h
          simp only [asgTs] at h
          split at h
          · exact h.elim
          · obtain ⟨ρ1, h1⟩ := i1 h; exact i2 h1
      obtain ⟨ρ1, h1⟩ := this t h
      rw [List.length_cons, List.length_cons, ih h1]
theorem dg_tup {es : List Expr} {k : Nat} {ts : List Tg} (hc : X.calm = true) (h : PGs X es (LGs T X.K ts)) (hn : (assignEach es X.env).length = ts.length) (hst : (assignEach es X.env).findIdx? (·.1) = none) : PG X (.Tuple es k pos) (LG T X.K (.tp ts)) := by
  refine PG.imp (PG.or (pg_tup hc h hn hst) (pg_unl hc h hn hst)) fun v σ H Q ⟨d, ρ, i1, rs, h⟩ => ?_
  simp only [asgT] at h
  rcases i1 with i1 | ⟨_, a, l, xs, _, ed, ev, eh, j⟩
  rotate_left
  · subst ed ev
    have hl := asgTs_length _ h
    exact .inr ⟨a, xs, rfl, SqL.of eh, by rw [← j.length, hl], _, ρ, j, rs, h⟩
  split at h
  · have hl := asgTs_length _ h
    simp only [Is] at i1
    obtain ⟨a, xs, rfl, s, j⟩ := i1
    exact .inl ⟨a, xs, rfl, s, by rw [← j.length, hl], _, ρ, j, rs, h⟩
  · have hl := asgTs_length _ h
    simp only [Is] at i1
    obtain ⟨a, xs, rfl, ⟨o, s⟩, j⟩ := i1
    exact .inr ⟨a, xs, rfl, .inl (.inr ⟨o, s⟩), by rw [← j.length, hl], _, ρ, j, rs, h⟩
  · exact h.elim
end

/-! ## U. What is walked -/
structure Src (T : Tab) (K : PySem.W.Frag) (J : It) (its : List D) (ok : G → Prop) (g0 : G) (H0 : Hp) : Prop where
  go : ∀ i g H, Kg g0 H0 g H → RG T K g H → ok g → i < its.length → J.go i H
  stop : ∀ g H, Kg g0 H0 g H → RG T K g H → ok g → J.stop its.length H
  yld : ∀ i g H x H', Kg g0 H0 g H → RG T K g H → ok g → J.yld i H x H' → ∀ d, its[i]? = some d → Kg g H g H' ∧ RG T K g H' ∧ Is T K H' d x
abbrev DSrc := Cal → R → G → (List D → (G → Prop) → G → Prop) → ET → Prop
def LI (T : Tab) (K : PySem.W.Frag) (C : Cal) (W : WX) (t : DSrc) : TI := fun σ H Rr => ∃ ρ g QD ED, RS T K H ρ σ ∧ RG T K g H ∧ t C ρ g QD ED ∧
  (∀ J its ok g' H', Kg g H g' H' → RG T K g' H' → Src T K J its ok g' H' → ok g' → QD its ok g' → Rr J H') ∧ CtE T K g H ED fun cls dd H' => W cls dd σ H'
def yes : G → Prop := fun _ => True
def sOf (t : DTE) : DSrc := fun C ρ g Q E => t C ρ g (fun d g1 => match d with
  | .tup l => Q l yes g1
  | .lst l => Q l yes g1
  | .str s => Q (s.map fun c => .str [c]) yes g1
  | .adr a => match g1 a with
    | some (.lst l) => Q l (fun g => g a = some (.lst l)) g1
    | _ => False
  | _ => False) E
def rangeD (lo : Int) (n : Nat) : List D := (List.range n).map fun (i : Nat) => D.int (lo + (i : Int))
def sRange1 (t : DTE) : DSrc := fun C ρ g Q E => t C ρ g (fun d g1 => match d with
  | .int j => (-(2 ^ 62) ≤ j ∧ j < 2 ^ 62) ∧ Q (rangeD 0 j.toNat) yes g1
  | _ => False) E
def sRange2 (t u : DTE) : DSrc := fun C ρ g Q E => t C ρ g (fun d g1 => u C ρ g1 (fun e g2 => match d, e with
  | .int i, .int j => (-(2 ^ 62) ≤ i ∧ i < 2 ^ 62 ∧ -(2 ^ 62) ≤ j ∧ j < 2 ^ 62) ∧ Q (rangeD i (j - i).toNat) yes g2
  | _, _ => False) E) E
section
variable {T : Tab} {K : PySem.W.Frag} {H : Hp} {g : G}
theorem src_lst {a : Addr} {l : List D} {xs : List V} {ok : G → Prop} (hq : ∀ g' H', Kg g H g' H' → RG T K g' H' → ok g' → ∃ ys, SqL K H' a ys ∧ IsL T K H' l ys) : Src T K (Itl K a) l ok g H where
  go := fun i g' H' k r o hi => by
    obtain ⟨ys, s, j⟩ := hq g' H' k r o
    exact ⟨ys, ys[i]'(by rw [← j.length]; exact hi), s, by simp⟩
  stop := fun g' H' k r o => by
    obtain ⟨ys, s, j⟩ := hq g' H' k r o
    exact ⟨ys, s, by rw [j.length]; exact Nat.le_refl _⟩
  yld := fun i g' H' x H2 k r o y d hd => by
    obtain ⟨ys, s, j⟩ := hq g' H' k r o
    obtain ⟨e, y⟩ := y
    subst e
    obtain ⟨v, h1, h2⟩ := j.get hd
    have q := y ys s
    rw [h1] at q
    cases q
    exact ⟨Kg.refl _ _, r, h2⟩
theorem src_tup {a : Addr} {l : List D} {xs : List V} {ok : G → Prop} (s0 : SqT K H a xs) (j0 : IsL T K H l xs) : Src T K (Itt K a) l ok g H where
  go := fun i g' H' k r o hi => ⟨xs, xs[i]'(by rw [← j0.length]; exact hi), SqT.keep k.kp s0, by simp⟩
  stop := fun g' H' k r o => ⟨xs, SqT.keep k.kp s0, by rw [j0.length]; exact Nat.le_refl _⟩
  yld := fun i g' H' x H2 k r o y d hd => by
    obtain ⟨e, y⟩ := y
    subst e
    obtain ⟨v, h1, h2⟩ := j0.get hd
    have q := y xs (SqT.keep k.kp s0)
    rw [h1] at q
    cases q
    exact ⟨Kg.refl _ _, r, h2.mono k.kp⟩
theorem src_str {s : List Nat} {ok : G → Prop} : Src T K (Its (S s)) (s.map fun c => .str [c]) ok g H where
  go := fun i g' H' k r o hi => by
    show i < (S s).cps.size
    simpa [S] using hi
  stop := fun g' H' k r o => by
    show (S s).cps.size ≤ _
    simp [S]
  yld := fun i g' H' x H2 k r o y d hd => by
    obtain ⟨e, c, hc, rfl⟩ := y
    subst e
    refine ⟨Kg.refl _ _, r, ?_⟩
    rw [List.getElem?_map] at hd
    have hc' : s[i]? = some c := by simpa [S] using hc
    rw [hc'] at hd
    cases hd
    simp only [Is]
theorem src_range {lo : Int} {n : Nat} {ok : G → Prop} : Src T K (Itr lo n) (rangeD lo n) ok g H where
  go := fun i g' H' k r o hi => by
    show i < n
    simpa [rangeD] using hi
  stop := fun g' H' k r o => by
    show n ≤ _
    simp [rangeD]
  yld := fun i g' H' x H2 k r o y d hd => by
    obtain ⟨e, rfl⟩ := y
    subst e
    refine ⟨Kg.refl _ _, r, ?_⟩
    unfold rangeD at hd
    rw [List.getElem?_map] at hd
    by_cases hi : i < n
    · rw [List.getElem?_range hi] at hd
      cases hd
      simp only [Is]
    · rw [List.getElem?_eq_none (by simpa using hi)] at hd
      cases hd
end
section
variable {X : Cx} {T : Tab} {C : Cal} {W : WX} {e tg : Expr} {ta tb : DTE} {pos p : Pos}
theorem PI.imp {X : Cx} {tg e : Expr} {t t' : TI} (h : PI X tg e t) (k : ∀ σ H Q, t' σ H Q → t σ H Q) : PI X tg e t' := ⟨fun pins s σ H Q I q => h.run pins s σ H Q I (k σ H Q q)⟩
/-- iter(x), whichever it is -/
def iterV (K : PySem.W.Frag) (x : V) (H : Hp) (Rr : It → Hp → Prop) : Prop :=
  (∃ a, x = .ref a ∧ (∃ xs, SqL K H a xs) ∧ Rr (Itl K a) H) ∨ (∃ a, x = .ref a ∧ (∃ xs, SqT K H a xs) ∧ Rr (Itt K a) H) ∨ ∃ z, x = .str z ∧ Rr (Its z) H
theorem pi_any {l : Expr} {tl : TE} (hl : PE X l tl) : PI X tg l (fun σ H Rr => tl σ H fun x H1 => iterV X.K x H1 Rr) := by
  refine ⟨fun pins s σ H Rr I h => ?_⟩
  refine thn (hl.run pins s σ H _ I h) fun v s1 ⟨x, H1, I1, r1, q1⟩ => ?_
  rcases q1 with ⟨a, e, ⟨xs, hq⟩, q⟩ | ⟨a, e, ⟨xs, hq⟩, q⟩ | ⟨z, e, q⟩
  · subst e
    cases r1
    obtain ⟨its, rv, pl, hz⟩ := I1.list hq
    refine wpAny_pyIter_list pl.isList ?_
    refine ⟨s1.heap.objs.size, [s1.heap.objs.size], _, _, H1, rfl, I1.kept (t' := s1.toks) fun b o e => Heap.get?_push_of_some _ e, turn_list a _, ⟨_, Heap.get?_push_size _ rfl, rfl, rfl⟩, fun b hb => ?_, q⟩
    obtain rfl : b = s1.heap.objs.size := by simpa using hb
    exact I1.fpOk (Nat.le_refl _) (I1.hok.fresh (Nat.le_refl _))
  · subst e
    cases r1
    obtain ⟨its, rv, pl, hz⟩ := I1.tuple hq
    refine wpAny_pyIter_tuple (show s1.heap.IsTuple a its.toArray from pl) ?_
    refine ⟨s1.heap.objs.size, [s1.heap.objs.size], _, _, H1, rfl, I1.kept (t' := s1.toks) fun b o e => Heap.get?_push_of_some _ e, turn_tuple a _, ⟨_, Heap.get?_push_size _ rfl, rfl, rfl⟩, fun b hb => ?_, q⟩
    obtain rfl : b = s1.heap.objs.size := by simpa using hb
    exact I1.fpOk (Nat.le_refl _) (I1.hok.fresh (Nat.le_refl _))
  · subst e
    obtain ⟨t, rfl⟩ := r1
    cases ha : z.cps.all (· < 128)
    · exact wpAny_pyIter_wide ha (pi_one (tk := s1.toks) I1 _ (turn_str _ z t "str_iterator" (.inr rfl)) ⟨_, Heap.get?_push_size _ rfl, rfl, rfl⟩ q)
    · exact wpAny_pyIter_ascii ha (pi_one (tk := s1.toks) I1 _ (turn_str _ z t "str_ascii_iterator" (.inl rfl)) ⟨_, Heap.get?_push_size _ rfl, rfl, rfl⟩ q)
theorem di_of (h : PE X e (LE T X.K C W ta)) : PI X tg e (LI T X.K C W (sOf ta)) := by
  refine PI.imp (pi_any h) fun σ H Rr ⟨ρ, g, QD, ED, rs, rg, h, c, ce⟩ => ?_
  refine ⟨ρ, g, _, ED, rs, rg, h, ⟨fun v d H1 g1 k1 i1 rg1 h1 => ?_⟩, ce⟩
  split at h1
  · simp only [Is] at i1
    obtain ⟨a, xs, rfl, s, j⟩ := i1
    exact .inr (.inl ⟨a, rfl, ⟨xs, s⟩, c _ _ _ _ _ k1 rg1 (src_tup s j) trivial h1⟩)
  · simp only [Is] at i1
    obtain ⟨a, xs, rfl, ⟨o, s⟩, j⟩ := i1
    exact .inl ⟨a, rfl, ⟨xs, .inl (.inr ⟨o, s⟩)⟩, c _ _ _ _ _ k1 rg1 (src_lst (xs := xs) fun g' H' k' _ _ => ⟨xs, .inl (.inr ⟨o, k'.kp.2 _ _ _ s⟩), j.mono k'.kp⟩) trivial h1⟩
  · simp only [Is] at i1
    subst i1
    exact .inr (.inr ⟨_, rfl, c _ _ _ _ _ k1 rg1 src_str trivial h1⟩)
  · split at h1
    · rename_i a _ l e
      simp only [Is] at i1
      subst i1
      obtain ⟨xs, s, j⟩ := rg1 _ _ e
      refine .inl ⟨a, rfl, ⟨xs, SqL.of s⟩, c _ _ _ _ _ k1 rg1 (src_lst (xs := xs) fun g' H' k' r' o' => ?_) e h1⟩
      obtain ⟨ys, s', j'⟩ := r' _ _ o'
      exact ⟨ys, SqL.of s', j'⟩
    · exact h1.elim
  · exact h1.elim
theorem di_range1 {a : Expr} (hg : Gl X "range") (hm : X.mg "range" = none) (hp : plainArg a = true) (h : PE X a (LE T X.K C W ta)) : PI X tg (.Call (.Name "range" p) [a] [] pos) (LI T X.K C W (sRange1 ta)) := by
  refine PI.imp (pi_range1 hg hm (pa_cons h pa_nil (star_cons hp)) (star_cons hp)) fun σ H Rr ⟨ρ, g, QD, ED, rs, rg, h, c, ce⟩ => ?_
  refine ⟨ρ, g, _, ED, rs, rg, h, ⟨fun v d H1 g1 k1 i1 rg1 h1 => ?_⟩, ce⟩
  split at h1
  · simp only [Is] at i1
    subst i1
    rename_i j
    refine ⟨j, rfl, h1.1.1, h1.1.2, c _ _ _ _ _ k1 rg1 (src_range (ok := yes)) trivial ?_⟩
    exact h1.2
  · exact h1.elim
theorem di_range2 {a b : Expr} (hg : Gl X "range") (hm : X.mg "range" = none) (hp : plainArg a = true) (hq : plainArg b = true) (h : PE X a (LE T X.K C W ta)) (hb : PE X b (LE T X.K C W tb)) : PI X tg (.Call (.Name "range" p) [a, b] [] pos) (LI T X.K C W (sRange2 ta tb)) := by
  refine PI.imp (pi_range2 hg hm (pa_cons h (pa_cons hb pa_nil (star_cons hq)) (star_cons hp)) (by rw [star_cons hp, star_cons hq]; rfl) (star_cons hq)) fun σ H Rr ⟨ρ, g, QD, ED, rs, rg, h, c, ce⟩ => ?_
  refine ⟨ρ, g, _, ED, rs, rg, h, ⟨fun v d H1 g1 k1 i1 rg1 h1 => ?_⟩, ce⟩
  refine ⟨ρ, g1, _, ED, rs.mono k1.kp, rg1, h1, ⟨fun w e H2 g2 k2 i2 rg2 h2 => ?_⟩, ce.mono k1⟩
  split at h2
  · simp only [Is] at i1 i2
    subst i1 i2
    exact ⟨_, _, rfl, h2.1, c _ _ _ _ _ (k1.trans k2) rg2 (src_range (ok := yes)) trivial h2.2⟩
  · exact h2.elim

/-! ## V. Loops -/
def dForL (t : Tg) (ok : G → Prop) (body : DTS) : List D → DTS
  | [] => fun _ ρ g DD => DD.nx ρ g
  | d :: ds => fun C ρ g DD => asgT t d ρ fun ρ1 => body C ρ1 g { DD with nx := fun ρ2 g2 => ok g2 ∧ dForL t ok body ds C ρ2 g2 DD, ct := fun ρ2 g2 => ok g2 ∧ dForL t ok body ds C ρ2 g2 DD, bk := DD.nx }
def dFor (s : DSrc) (t : Tg) (body : DTS) : DTS := fun C ρ g DD => s C ρ g (fun its ok g1 => dForL t ok body its C ρ g1 DD) fun x g1 => DD.ex x ρ g1
theorem ds_for {iter : Expr} {body : List Stmt} {s : DSrc} {t : Tg} {tb : DTS} (hp : PassesOwn (model X.prog X.w) X.A X.env X.xe) (hc : X.calm = true) (hi : PI X tg iter (LI T X.K C W s)) (hg : PG X tg (LG T X.K t)) (hb : PSs X body (LS T X.K C W tb))
    (hs : ∀ x, foldedSetIterable iter X.env x = pure x) : PS X (.For tg iter body [] pos) (LS T X.K C W (dFor s t tb)) := by
  refine PS.imp (ps_for hp hc hi hg hb hs) fun Dn σ H ⟨ρ, g, DD, rs, rg, h, c⟩ => ?_
  refine ⟨ρ, g, _, _, rs, rg, h, fun J its ok g1 H1 k1 rg1 sr o1 h1 => ?_, c.exE rs⟩
  refine ⟨fun i m σ' H' => m = its.length - i ∧ i ≤ its.length ∧ ∃ ρ' g', Kg g1 H1 g' H' ∧ RS T X.K H' ρ' σ' ∧ RG T X.K g' H' ∧ ok g' ∧ dForL t ok tb (its.drop i) C ρ' g' DD, ⟨_, rfl, Nat.zero_le _, ρ, g1, Kg.refl _ _, rs.mono k1.kp, rg1, o1, h1⟩, ?_⟩
  rintro i m σ' H' ⟨rfl, hi, ρ', g', k', rs', rg', o', h'⟩
  by_cases hlt : i < its.length
  · rw [List.drop_eq_getElem_cons hlt] at h'
    refine .inr ⟨sr.go i g' H' k' rg' o' hlt, fun σ2 H2 => ∃ ρ2 g2, Kg g1 H1 g2 H2 ∧ RS T X.K H2 ρ2 σ2 ∧ RG T X.K g2 H2 ∧ ok g2 ∧ dForL t ok tb (its.drop (i + 1)) C ρ2 g2 DD,
      fun σ2 H2 q => ⟨its.length - (i + 1), by omega, rfl, hlt, q⟩, fun x H2 y => ?_⟩
    obtain ⟨k2, rg2, i2⟩ := sr.yld i g' H' x H2 k' rg' o' y _ (List.getElem?_eq_getElem hlt)
    refine ⟨its[i], ρ', .inl i2, rs'.mono k2.kp, ?_⟩
    unfold dForL at h'
    have fin : ∀ ρ3, tb C ρ3 g' { DD with nx := fun ρ2 g2 => ok g2 ∧ dForL t ok tb (its.drop (i + 1)) C ρ2 g2 DD, ct := fun ρ2 g2 => ok g2 ∧ dForL t ok tb (its.drop (i + 1)) C ρ2 g2 DD, bk := DD.nx } →
        ∀ σ3, RS T X.K H2 ρ3 σ3 → Off t.slots σ' σ3 → LS T X.K C W tb { Dn with nx := fun σ2 H2 => ∃ ρ2 g2, Kg g1 H1 g2 H2 ∧ RS T X.K H2 ρ2 σ2 ∧ RG T X.K g2 H2 ∧ ok g2 ∧ dForL t ok tb (its.drop (i + 1)) C ρ2 g2 DD, ct := fun σ2 H2 => ∃ ρ2 g2, Kg g1 H1 g2 H2 ∧ RS T X.K H2 ρ2 σ2 ∧ RG T X.K g2 H2 ∧ ok g2 ∧ dForL t ok tb (its.drop (i + 1)) C ρ2 g2 DD, bk := Dn.nx } σ3 H2 := fun ρ3 q σ3 rs3 _ => by
      have kk := (k1.trans k').trans k2
      refine ⟨ρ3, g', _, rs3, rg2, q, ⟨fun ρ4 σ4 H4 g4 k4 r4 rg4 q4 => ⟨ρ4, g4, (k'.trans k2).trans k4, r4, rg4, q4.1, q4.2⟩, fun v d H4 g4 k4 i4 rg4 q4 => c.rt v d H4 g4 (kk.trans k4) i4 rg4 q4,
        fun ρ4 σ4 H4 g4 k4 r4 rg4 q4 => c.nx ρ4 σ4 H4 g4 (kk.trans k4) r4 rg4 q4, fun ρ4 σ4 H4 g4 k4 r4 rg4 q4 => ⟨ρ4, g4, (k'.trans k2).trans k4, r4, rg4, q4.1, q4.2⟩,
        fun x cls dd ρ4 σ4 H4 g4 k4 e4 r4 rg4 q4 => c.ex x cls dd ρ4 σ4 H4 g4 (kk.trans k4) e4 r4 rg4 q4⟩⟩
    exact asgT_imp t h' fun ρ3 q σ3 rs3 vs => fin ρ3 q σ3 rs3 vs
  · have e : i = its.length := by omega
    subst e
    rw [List.drop_length] at h'
    exact .inl ⟨sr.stop g' H' k' rg' o', c.nx _ _ _ _ (k1.trans k') rs' rg' h'⟩
/-- while: no more than n turns -/
def dWhN (tc : DTT) (tb : DTS) : Nat → DTS
  | 0 => fun _ _ _ _ => False
  | n + 1 => fun C ρ g DD => tc C ρ g (fun b g1 => if b then tb C ρ g1 { DD with nx := fun ρ2 g2 => dWhN tc tb n C ρ2 g2 DD, ct := fun ρ2 g2 => dWhN tc tb n C ρ2 g2 DD, bk := DD.nx } else DD.nx ρ g1) fun x g1 => DD.ex x ρ g1
def dWhile (tc : DTT) (tb : DTS) : DTS := fun C ρ g DD => ∃ n, dWhN tc tb n C ρ g DD
theorem ds_while {c : Expr} {body : List Stmt} {tc : DTT} {tb : DTS} (hp : PassesOwn (model X.prog X.w) X.A X.env X.xe) (hc : PT X c (LT T X.K C W tc)) (hb : PSs X body (LS T X.K C W tb)) : PS X (.While c body [] pos) (LS T X.K C W (dWhile tc tb)) := by
  refine PS.imp (ps_while hp hc hb) fun Dn σ H ⟨ρ, g, DD, rs, rg, ⟨n, h⟩, c⟩ => ?_
  refine ⟨fun m σ' H' => ∃ ρ' g', Kg g H g' H' ∧ RS T X.K H' ρ' σ' ∧ RG T X.K g' H' ∧ dWhN tc tb m C ρ' g' DD, ⟨n, ρ, g, Kg.refl _ _, rs, rg, h⟩, ?_⟩
  rintro m σ' H' ⟨ρ', g', k', rs', rg', h'⟩
  cases m with
  | zero => exact h'.elim
  | succ m =>
    refine ⟨ρ', g', _, _, rs', rg', h', ⟨fun b H1 g1 k1 rg1 h1 => ?_⟩, (c.mono k').exE rs'⟩
    have kk := k'.trans k1
    cases b with
    | false =>
      rw [if_neg Bool.false_ne_true] at h1 ⊢
      exact c.nx _ _ _ _ kk (rs'.mono k1.kp) rg1 h1
    | true =>
      rw [if_pos rfl] at h1 ⊢
      refine ⟨fun σ2 H2 => ∃ ρ2 g2, Kg g H g2 H2 ∧ RS T X.K H2 ρ2 σ2 ∧ RG T X.K g2 H2 ∧ dWhN tc tb m C ρ2 g2 DD, fun σ2 H2 q => ⟨m, Nat.lt_succ_self _, q⟩, ρ', g1, _, rs'.mono k1.kp, rg1, h1, ?_⟩
      exact ⟨fun ρ4 σ4 H4 g4 k4 r4 rg4 q4 => ⟨ρ4, g4, kk.trans k4, r4, rg4, q4⟩, fun v d H4 g4 k4 i4 rg4 q4 => c.rt v d H4 g4 (kk.trans k4) i4 rg4 q4,
        fun ρ4 σ4 H4 g4 k4 r4 rg4 q4 => c.nx ρ4 σ4 H4 g4 (kk.trans k4) r4 rg4 q4, fun ρ4 σ4 H4 g4 k4 r4 rg4 q4 => ⟨ρ4, g4, kk.trans k4, r4, rg4, q4⟩,
        fun x cls dd ρ4 σ4 H4 g4 k4 e4 r4 rg4 q4 => c.ex x cls dd ρ4 σ4 H4 g4 (kk.trans k4) e4 r4 rg4 q4⟩
end
end Cn

namespace Cn
open PySem PySem.Spec PyProof.Rows L2

/-! ## W. List comprehensions -/
def wipeR (ρ : R) : List Nat → R
  | [] => ρ
  | v :: vs => (wipeR ρ vs).set v none
section
variable {T : Tab} {K : PySem.W.Frag} {H : Hp}
theorem wipeR_length (ρ : R) : ∀ vs : List Nat, (wipeR ρ vs).length = ρ.length
  | [] => rfl
  | v :: vs => by unfold wipeR; rw [List.length_set, wipeR_length ρ vs]
theorem wipeR_some {ρ : R} {i : Nat} {x : D} : ∀ {vs : List Nat}, (wipeR ρ vs)[i]? = some (some x) → ρ[i]? = some (some x) ∧ i ∉ vs
  | [], h => ⟨h, by simp⟩
  | v :: vs, h => by
    unfold wipeR at h
    by_cases e : i = v
    · subst e
      by_cases hv : i < (wipeR ρ vs).length
      · rw [List.getElem?_set_self hv] at h; cases h
      · rw [List.getElem?_eq_none (by rw [List.length_set]; omega)] at h; cases h
    · rw [List.getElem?_set_ne (Ne.symm e)] at h
      obtain ⟨h1, h2⟩ := wipeR_some h
      exact ⟨h1, by simp [e, h2]⟩
theorem RS.wipe {ρ : R} {σ : L2.St} (r : RS T K H ρ σ) (vs : List Nat) : RS T K H (wipeR ρ vs) (L2.wipe σ vs) :=
  ⟨by rw [wipe_length, wipeR_length, r.len], fun i d e => by
    obtain ⟨h1, h2⟩ := wipeR_some e
    rw [wipe_out h2]
    exact r.at_ i d h1⟩
theorem wipe_wipe {σ : L2.St} : ∀ (vs ws : List Nat), (∀ i ∈ ws, i ∈ vs) → wipe (wipe σ ws) vs = wipe σ vs := by
  intro vs ws
  induction ws with
  | nil => intro _; rfl
  | cons w ws ih =>
    intro h
    show wipe ((wipe σ ws).set w none) vs = wipe σ vs
    rw [wipe_set (h w List.mem_cons_self), ih fun i hi => h i (List.mem_cons_of_mem _ hi)]
end
def noE : ET := fun _ _ => False
def noW : WX := fun _ _ _ _ => False
def dYes : DTT := fun _ _ g Q _ => Q true g
def dCpL (t : Tg) (ok : G → Prop) (tt : DTT) (te : DTE) : List D → List D → Cal → R → G → QL → Prop
  | [], acc => fun _ _ g Q => Q acc g
  | d :: ds, acc => fun C ρ g Q => asgT t d ρ fun ρ1 => tt C ρ1 g (fun b g1 => if b then te C ρ1 g1 (fun y g2 => acc.length < sizeLine ∧ ok g2 ∧ dCpL t ok tt te ds (acc ++ [y]) C ρ g2 Q) noE else ok g1 ∧ dCpL t ok tt te ds acc C ρ g1 Q) noE
/-- [elt for t in s if tt]; m: the list may change -/
def dComp (m : Bool) (vs : List Nat) (s : DSrc) (t : Tg) (tt : DTT) (te : DTE) : DTE := fun C ρ g Q E => s C ρ g (fun its ok g1 => dCpL t ok tt te its [] C (wipeR ρ vs) g1 fun acc g2 =>
  if m then ∀ a, g2 a = none → Q (.adr a) (gset g2 a (.lst acc)) else Q (.lst acc) g2) E
section
variable {X : Cx} {T : Tab} {C : Cal} {W : WX} {pos : Pos}
theorem pts_yes : PTs X [] (LT T X.K C noW dYes) := ⟨fun pins s σ H Q I ⟨ρ, g, QD, ED, rs, rg, h, c, _⟩ => (pts_nil).run pins s σ H Q I (c.go _ _ g (Kg.refl g H) rg h)⟩
/-- beside: what is at D is neither owned by g nor there at the start -/
theorem Kg.at_ {g g' : G} {H H' : Hp} {D : Addr} {o : HO} (k : Kg g H g' H') (hD : H D = none) : Kg g H g' (upd H' D o) :=
  ⟨⟨fun b xs e => by rw [upd_ne (ne_of_none e hD)]; exact k.kp.1 _ _ e, fun b q u e => by rw [upd_ne (ne_of_none e hD)]; exact k.kp.2 _ _ _ e⟩, fun b u e n => by rw [upd_ne (ne_of_none e hD)]; exact k.fr b u e n⟩
theorem Kg.own {g g' : G} {H H' : Hp} {D : Addr} {q : GO} (k : Kg g H g' H') (hD : H D = none) : Kg g H (gset g' D q) H' :=
  ⟨k.kp, fun b u e n => ⟨(k.fr b u e n).1, by rw [gset_ne (ne_of_none e hD)]; exact (k.fr b u e n).2⟩⟩
theorem RG.off {T : Tab} {K : PySem.W.Frag} {g : G} {H : Hp} {D : Addr} {o : HO} (r : RG T K g H) (n : g D = Option.none) (k : Kp H (upd H D o)) : RG T K g (upd H D o) := fun b u e =>
  (r b u e).move k (upd_ne fun z => by rw [z, n] at e; cases e)
/-- the list as it stands through the loop: D holds it, beside the g -/
def LcI (T : Tab) (K : PySem.W.Frag) (C : Cal) (D : Addr) (m : Bool) (t : Tg) (tt : DTT) (te : DTE) (its : List Cn.D) (ok : G → Prop) (ρ : R) (QD : QT) (g1 : G) (H1 : Hp) (i : Nat) (H' : Hp) : Prop :=
  ∃ g' acc xs, Kg g1 H1 g' H' ∧ RG T K g' H' ∧ ok g' ∧ H' D = some (.lst xs) ∧ g' D = none ∧ IsL T K H' acc xs ∧
    dCpL t ok tt te (its.drop i) acc C ρ g' fun acc g2 => if m then ∀ a, g2 a = none → QD (.adr a) (gset g2 a (.lst acc)) else QD (.lst acc) g2
theorem lc_walk {D : Addr} {m : Bool} {t : Tg} {tt : DTT} {te : DTE} {vs : List Nat} {J : It} {its : List Cn.D} {ok : G → Prop} {ρ : R} {σ : L2.St} {g g1 : G} {H H1 : Hp} {QD : QT} {Q : VK} (hv : ∀ i ∈ t.slots, i ∈ vs) (k1 : Kg g H g1 H1) (rs : RS T X.K H ρ σ) (rg : RG T X.K g1 H1)
    (sr : Src T X.K J its ok g1 H1) (o : ok g1) (hD : H1 D = none) (c : Ct T X.K g H QD Q)
    (h : dCpL t ok tt te its [] C (wipeR ρ vs) g1 fun acc g2 => if m then ∀ a, g2 a = none → QD (.adr a) (gset g2 a (.lst acc)) else QD (.lst acc) g2) :
    ∃ W : Nat → Nat → Hp → Prop, (∃ m, W 0 m (upd H1 D (.lst []))) ∧ ∀ i n H, W i n H →
  (J.stop i H ∧ (if m then Q else frzQ Q) (.ref D) H) ∨ (J.go i H ∧ ∃ Nx : Hp → Prop, (∀ H', Nx H' → ∃ m', m' < n ∧ W (i + 1) m' H') ∧ ∀ x H', J.yld i H x H' → LG T X.K t x (wipe σ vs) H' fun σ2 H2 => wipe σ2 vs = wipe σ vs ∧ LT T X.K C noW tt σ2 H2 fun b H3 =>
    if b = true then LE T X.K C noW te σ2 H3 fun y H4 => ∃ acc, H4 D = some (.lst acc) ∧ acc.length < sizeLine ∧ Nx (upd H4 D (.lst (acc ++ [y]))) else Nx H3) := by
  have kD : Kg g1 H1 g1 (upd H1 D (.lst [])) := Kg.new hD
  refine ⟨fun i n H' => n = its.length - i ∧ i ≤ its.length ∧ LcI T X.K C D m t tt te its ok (wipeR ρ vs) QD g1 H1 i H', ⟨_, rfl, Nat.zero_le _, g1, [], [], kD, rg.beside hD, o, upd_same, rg.none hD, .nil, h⟩, ?_⟩
  rintro i n H' ⟨rfl, hi, g', acc, xs, k', rg', o', hx, gn, il, h'⟩
  have kp' : ∀ {u}, Kp H' (upd H' D u) := Kp.mut hx (by intro _ z; cases z) (by intro _ _ z; cases z)
  by_cases hlt : i < its.length
  · rw [List.drop_eq_getElem_cons hlt] at h'
    refine .inr ⟨sr.go i g' H' k' rg' o' hlt, LcI T X.K C D m t tt te its ok (wipeR ρ vs) QD g1 H1 (i + 1), fun H2 q => ⟨its.length - (i + 1), by omega, rfl, hlt, q⟩, fun x H2 y => ?_⟩
    obtain ⟨k2, rg2, i2⟩ := sr.yld i g' H' x H2 k' rg' o' y _ (List.getElem?_eq_getElem hlt)
    refine ⟨its[i], wipeR ρ vs, .inl i2, ((rs.mono k1.kp).mono (k'.trans k2).kp).wipe vs, ?_⟩
    unfold dCpL at h'
    refine asgT_imp t h' fun ρ1 q1 σ1 rs1 hσ => ?_
    refine ⟨by rw [hσ vs hv, wipe_wipe vs vs fun i h => h], ρ1, g', _, _, rs1, rg2, q1, ⟨fun b H3 g3 k3 rg3 q3 => ?_⟩, CtE.no⟩
    cases b with
    | false =>
      rw [if_neg Bool.false_ne_true] at q3 ⊢
      obtain ⟨h3, n3⟩ := (k2.trans k3).fr D _ hx gn
      exact ⟨g3, acc, xs, k'.trans (k2.trans k3), rg3, q3.1, h3, n3, il.mono (k2.trans k3).kp, q3.2⟩
    | true =>
      rw [if_pos rfl] at q3 ⊢
      refine ⟨ρ1, g3, _, _, rs1.mono k3.kp, rg3, q3, ⟨fun y dy H4 g4 k4 i4 rg4 q4 => ?_⟩, CtE.no⟩
      have kk := (k2.trans k3).trans k4
      obtain ⟨h4, n4⟩ := kk.fr D _ hx gn
      have kp4 : ∀ {u}, Kp H4 (upd H4 D u) := Kp.mut h4 (by intro _ z; cases z) (by intro _ _ z; cases z)
      exact ⟨xs, h4, by rw [← il.length]; exact q4.1, g4, acc ++ [dy], xs ++ [y], (k'.trans kk).at_ hD, rg4.off n4 kp4, q4.2.1, upd_same, n4, ((il.mono kk.kp).append (.cons i4 .nil)).mono kp4, q4.2.2⟩
  · have e : i = its.length := by omega
    subst e
    rw [List.drop_length] at h'
    refine .inl ⟨sr.stop g' H' k' rg' o', ?_⟩
    unfold dCpL at h'
    cases m with
    | true =>
      rw [if_pos rfl] at h' ⊢
      refine c.go _ (.adr D) _ _ (k1.trans (k'.own hD)) (by simp only [Is]) (fun b u e => ?_) (h' D gn)
      by_cases hb : b = D
      · subst hb; rw [gset_same] at e; cases e; exact ⟨xs, hx, il⟩
      · rw [gset_ne hb] at e; exact rg' b u e
    | false =>
      rw [if_neg Bool.false_ne_true] at h' ⊢
      refine ⟨D, _, rfl, hx, ?_, fun ob => ?_⟩
      · trivial
      · exact c.go _ (.lst acc) _ _ (k1.trans (k'.at_ hD)) (by simp only [Is]; exact ⟨D, xs, rfl, ⟨ob, upd_same⟩, il.mono kp'⟩) (rg'.off gn kp') h'
theorem frzQ_if {t : TE} {m : Bool} {e : Expr} (h : ∀ (f : VK → VK), (f = id ∨ f = frzQ) → PE X e (fun σ H Q => t σ H (f Q))) : PE X e (fun σ H Q => t σ H ((if m then id else frzQ) Q)) := by
  cases m
  · exact h _ (.inr rfl)
  · exact h _ (.inl rfl)
theorem de_comp {m : Bool} {elt tg iter : Expr} {ifs : List Expr} {scope : Scope} {own : List (Str × Nat)} {s : DSrc} {t : Tg} {tt : DTT} {te : DTE} (hc : X.calm = true) (hN : X.N.Nodup) (hi : PI X tg iter (LI T X.K C W s)) (ok : BlkOk X.N X.env.scope scope own)
    (hg : ∀ (s : Shared) (H : Hp) (C : Addr) (cl : List (Str × Addr)) (fp : List Addr), PG (X.blk s H scope (compEnvC scope cl C X.env) fp) tg (LG T X.K t)) (ht : ∀ (s : Shared) (H : Hp) (C' : Addr) (cl : List (Str × Addr)) (fp : List Addr), PTs (X.blk s H scope (compEnvC scope cl C' X.env) fp) ifs (LT T X.K C noW tt))
    (he : ∀ (s : Shared) (H : Hp) (C' : Addr) (cl : List (Str × Addr)) (fp : List Addr), PE (X.blk s H scope (compEnvC scope cl C' X.env) fp) elt (LE T X.K C noW te)) (hs : ∀ x, foldedSetIterable iter X.env x = pure x) (hv : ∀ i ∈ t.slots, i ∈ own.map (·.2)) :
    PE X (.ListComp elt [⟨tg, iter, ifs, 0⟩] scope pos) (LE T X.K C W (dComp m (own.map (·.2)) s t tt te)) := by
  have base := pe_lc (pos := pos) hc hN hi ok hg ht he hs
  cases m with
  | true =>
    refine PE.imp base fun σ H Q ⟨ρ, g, QD, ED, rs, rg, h, c, ce⟩ => ?_
    exact ⟨ρ, g, _, ED, rs, rg, h, fun J its ok g1 H1 k1 rg1 sr o1 h1 D hD => lc_walk (m := true) hv k1 rs rg1 sr o1 hD c h1, ce⟩
  | false =>
    refine PE.imp (PE.frz base) fun σ H Q ⟨ρ, g, QD, ED, rs, rg, h, c, ce⟩ => ?_
    exact ⟨ρ, g, _, ED, rs, rg, h, fun J its ok g1 H1 k1 rg1 sr o1 h1 D hD => lc_walk (m := false) hv k1 rs rg1 sr o1 hD c h1, ce⟩
end
end Cn

namespace Cn
open PySem PySem.Spec PyProof.Rows L2

/-! ## X. Statements -/
def dNext : DTS := fun _ ρ g DD => DD.nx ρ g
def dSeq (t u : DTS) : DTS := fun C ρ g DD => t C ρ g { DD with nx := fun ρ1 g1 => u C ρ1 g1 DD }
def dBrk : DTS := fun _ ρ g DD => DD.bk ρ g
def dCnt : DTS := fun _ ρ g DD => DD.ct ρ g
def dExpr (te : DTE) : DTS := fun C ρ g DD => te C ρ g (fun _ g1 => DD.nx ρ g1) fun x g1 => DD.ex x ρ g1
def dRet (te : DTE) : DTS := fun C ρ g DD => te C ρ g DD.rt fun x g1 => DD.ex x ρ g1
def dRetN : DTS := fun _ _ g DD => DD.rt .non g
def dIfS (tc : DTT) (t u : DTS) : DTS := fun C ρ g DD => tc C ρ g (fun b g1 => match b with
  | true => t C ρ g1 DD
  | false => u C ρ g1 DD) fun x g1 => DD.ex x ρ g1
def dStopS : DTS := fun _ _ _ _ => False
def dAsg (t : Tg) (te : DTE) : DTS := fun C ρ g DD => te C ρ g (fun d g1 => asgU g1 t d ρ fun ρ1 => DD.nx ρ1 g1) fun x g1 => DD.ex x ρ g1
/-- a, b = x, y -/
def dPar (is : List Nat) (ts : List DTE) : DTS := fun C ρ g DD => dArgs ts C ρ g (fun ds g1 => asgTs (is.map Tg.nm) ds ρ fun ρ1 => DD.nx ρ1 g1) fun x g1 => DD.ex x ρ g1
/-- o[i] = v, by trees -/
abbrev DPt := D → D → D → G → (G → Prop) → Prop
def oPut : DPt := fun o i v g Q => match o, i with
  | .adr a, .int k => match g a with
    | some (.lst l) => match ixN l.length k with
      | some j => Q (gset g a (.lst (l.set j v)))
      | none => False
    | _ => False
  | _, _ => False
def dPut (to ti te : DTE) : DTS := fun C ρ g DD => te C ρ g (fun v g1 => to C ρ g1 (fun o g2 => ti C ρ g2 (fun i g3 => oPut o i v g3 fun g4 => DD.nx ρ g4) fun x g => DD.ex x ρ g) fun x g => DD.ex x ρ g) fun x g => DD.ex x ρ g
def putD (f : Nat) (d : D) : List (Nat × D) → List (Nat × D)
  | [] => [(f, d)]
  | (k, x) :: r => if k = f then (k, d) :: r else (k, x) :: putD f d r
/-- o.f = v -/
def dFld (f : Nat) (to te : DTE) : DTS := fun C ρ g DD => te C ρ g (fun v g1 => to C ρ g1 (fun o g2 => match o with
  | .adr a => match g2 a with
    | some (.ins c fs) => (fldsA c).contains f = true ∧ fs.length < 900 ∧ DD.nx ρ (gset g2 a (.ins c (putD f v fs)))
    | _ => False
  | _ => False) fun x g => DD.ex x ρ g) fun x g => DD.ex x ρ g
def dAug (i : Nat) (o : DO2) (te : DTE) : DTS := fun C ρ g DD => getS ρ i fun x => te C ρ g (fun y g1 => o x y g1 fun z g2 => DD.nx (ρ.set i (some z)) g2) fun x g1 => DD.ex x ρ g1
section
variable {X : Cx} {T : Tab} {C : Cal} {W : WX} {pos : Pos} {t u : DTS} {te to ti : DTE} {st : Stmt} {sts : List Stmt} {e : Expr}
theorem ds_stop : PS X st (LS T X.K C W dStopS) := ⟨fun _ _ _ _ _ _ ⟨_, _, _, _, _, h, _⟩ => h.elim⟩
theorem dss_nil : PSs X [] (LS T X.K C W dNext) := PSs.imp pss_nil fun Dn σ H ⟨ρ, g, DD, rs, rg, h, c⟩ => c.nx _ _ _ _ (Kg.refl _ _) rs rg h
theorem ls_seq {Dn : Ends} {σ : L2.St} {H : Hp} : LS T X.K C W (dSeq t u) Dn σ H → tSeq (LS T X.K C W t) (LS T X.K C W u) Dn σ H := fun ⟨ρ, g, DD, rs, rg, h, c⟩ =>
  ⟨ρ, g, _, rs, rg, h, ⟨fun ρ1 σ1 H1 g1 k1 r1 rg1 q => ⟨ρ1, g1, DD, r1, rg1, q, c.mono k1⟩, c.rt, c.bk, c.ct, c.ex⟩⟩
theorem dss_cons (h1 : PS X st (LS T X.K C W t)) (h2 : PSs X sts (LS T X.K C W u)) : PSs X (st :: sts) (LS T X.K C W (dSeq t u)) := PSs.imp (pss_cons h1 h2) fun Dn σ H => ls_seq
theorem dss_one (h1 : PS X st (LS T X.K C W t)) : PSs X [st] (LS T X.K C W t) := pss_one h1
theorem ds_pass : PS X (.Pass pos) (LS T X.K C W dNext) := PS.imp ps_pass fun Dn σ H ⟨ρ, g, DD, rs, rg, h, c⟩ => c.nx _ _ _ _ (Kg.refl _ _) rs rg h
theorem ds_brk : PS X (.Break pos) (LS T X.K C W dBrk) := PS.imp ps_break fun Dn σ H ⟨ρ, g, DD, rs, rg, h, c⟩ => c.bk _ _ _ _ (Kg.refl _ _) rs rg h
theorem ds_cnt : PS X (.Continue pos) (LS T X.K C W dCnt) := PS.imp ps_continue fun Dn σ H ⟨ρ, g, DD, rs, rg, h, c⟩ => c.ct _ _ _ _ (Kg.refl _ _) rs rg h
theorem ds_doc {x j p} : PS X (.Expr (.Constant (.str x) j p) pos) (LS T X.K C W dNext) := PS.imp ps_doc fun Dn σ H ⟨ρ, g, DD, rs, rg, h, c⟩ => c.nx _ _ _ _ (Kg.refl _ _) rs rg h
theorem ds_expr (he : PE X e (LE T X.K C W te)) (hs : swapsWith e none pos.line X.env = pure false) : PS X (.Expr e pos) (LS T X.K C W (dExpr te)) := PS.imp (ps_expr he hs) fun Dn σ H ⟨ρ, g, DD, rs, rg, h, c⟩ =>
  ⟨ρ, g, _, _, rs, rg, h, ⟨fun v d H1 g1 k1 i1 rg1 h1 => c.nx _ _ _ _ k1 (rs.mono k1.kp) rg1 h1⟩, c.exE rs⟩
theorem ds_ret (he : PE X e (LE T X.K C W te)) : PS X (.Return (some e) pos) (LS T X.K C W (dRet te)) := PS.imp (ps_ret he) fun Dn σ H ⟨ρ, g, DD, rs, rg, h, c⟩ =>
  ⟨ρ, g, _, _, rs, rg, h, ⟨c.rt⟩, c.exE rs⟩
theorem ds_retN : PS X (.Return none pos) (LS T X.K C W dRetN) := PS.imp ps_retN fun Dn σ H ⟨ρ, g, DD, rs, rg, h, c⟩ => c.rt _ _ _ _ (Kg.refl _ _) (by simp only [Is]) rg h
theorem ds_if {c : Expr} {a b : List Stmt} {tc : DTT} (hc : PT X c (LT T X.K C W tc)) (ha : PSs X a (LS T X.K C W t)) (hb : PSs X b (LS T X.K C W u)) : PS X (.If c a b pos) (LS T X.K C W (dIfS tc t u)) :=
  PS.imp (ps_if hc ha hb) fun Dn σ H ⟨ρ, g, DD, rs, rg, h, c⟩ => ⟨ρ, g, _, _, rs, rg, h, ⟨fun b H1 g1 k1 rg1 h1 => by
    cases b with
    | true => rw [if_pos rfl]; exact ⟨ρ, g1, DD, rs.mono k1.kp, rg1, h1, c.mono k1⟩
    | false => rw [if_neg Bool.false_ne_true]; exact ⟨ρ, g1, DD, rs.mono k1.kp, rg1, h1, c.mono k1⟩⟩, c.exE rs⟩
theorem ds_asg {tg : Expr} {t : Tg} (he : PE X e (LE T X.K C W te)) (hg : PG X tg (LG T X.K t)) (hs : swapsWithSole [tg] e pos.line X.env = pure false) (hw : swappedStores [tg] e X.env = pure none)
    (h1 : (assignEach [tg] X.env).map (·.2) = [assign tg X.env]) : PS X (.Assign [tg] e pos) (LS T X.K C W (dAsg t te)) := PS.imp (ps_asg he hg hs hw h1) fun Dn σ H ⟨ρ, g, DD, rs, rg, h, c⟩ =>
  ⟨ρ, g, _, _, rs, rg, h, ⟨fun v d H1 g1 k1 i1 rg1 h1 => ⟨unG g1 t d, ρ, un_is i1 rg1, rs.mono k1.kp, asgT_imp t h1 fun ρ1 q σ1 rs1 _ => c.nx _ _ _ _ k1 rs1 rg1 q⟩⟩, c.exE rs⟩
theorem ds_par2 {i j : Nat} {x y : Str} {a b : Expr} {ts : List DTE} {px py pt : Pos} {kt k2 pt2} (hc : X.calm = true) (hN : X.N.Nodup) (hi : X.N[i]? = some x) (hj : X.N[j]? = some y) (hij : i ≠ j)
    (hx : X.env.scope.names.lookup x = some .local) (hy : X.env.scope.names.lookup y = some .local) (ha : PA X [a, b] (LA T X.K C W ts))
    (hw : swappedStores [.Tuple [.Name x px, .Name y py] kt pt] (.Tuple [a, b] k2 pt2) X.env = pure (some [x, y])) (hs : swapsWithSole [.Tuple [.Name x px, .Name y py] kt pt] (.Tuple [a, b] k2 pt2) pos.line X.env = pure false) :
    PS X (.Assign [.Tuple [.Name x px, .Name y py] kt pt] (.Tuple [a, b] k2 pt2) pos) (LS T X.K C W (dPar [i, j] ts)) := PS.imp (ps_par hc hN hi hj hij hx hy ha hw hs) fun Dn σ H ⟨ρ, g, DD, rs, rg, h, c⟩ =>
  ⟨ρ, g, _, _, rs, rg, h, ⟨fun vs ds H1 g1 k1 i1 rg1 h1 => by
    match ds, h1 with
    | [], h1 => simp [asgTs] at h1
    | [_], h1 => simp [asgTs, asgT] at h1
    | d :: d' :: ds, h1 =>
      simp only [List.map, asgTs, asgT] at h1
      obtain ⟨rfl, h1⟩ := h1
      obtain ⟨v, w, rfl, a, b⟩ := IsL.two i1
      exact ⟨v, w, rfl, c.nx _ _ _ _ k1 (((rs.mono k1.kp).set i a).set j b) rg1 h1⟩⟩, c.exE rs⟩
theorem IsL.three {T : Tab} {K : PySem.W.Frag} {H : Hp} {d e f : D} {xs : List V} (h : IsL T K H [d, e, f] xs) : ∃ v w z, xs = [v, w, z] ∧ Is T K H d v ∧ Is T K H e w ∧ Is T K H f z := by
  simp only [IsL] at h
  obtain ⟨v, vs, rfl, a, w, ws, rfl, b, z, zs, rfl, c, rfl⟩ := h
  exact ⟨v, w, z, rfl, a, b, c⟩
theorem ds_par3 {i j l : Nat} {x y z : Str} {a b c : Expr} {ts : List DTE} {px py pz pt : Pos} {kt k2 pt2} (hc : X.calm = true) (hN : X.N.Nodup) (hi : X.N[i]? = some x) (hj : X.N[j]? = some y) (hl : X.N[l]? = some z) (hij : i ≠ j) (hil : i ≠ l) (hjl : j ≠ l)
    (hx : X.env.scope.names.lookup x = some .local) (hy : X.env.scope.names.lookup y = some .local) (hz : X.env.scope.names.lookup z = some .local) (ha : PA X [a, b, c] (LA T X.K C W ts))
    (hw : swappedStores [.Tuple [.Name x px, .Name y py, .Name z pz] kt pt] (.Tuple [a, b, c] k2 pt2) X.env = pure (some [x, y, z])) (hs : swapsWithSole [.Tuple [.Name x px, .Name y py, .Name z pz] kt pt] (.Tuple [a, b, c] k2 pt2) pos.line X.env = pure false) :
    PS X (.Assign [.Tuple [.Name x px, .Name y py, .Name z pz] kt pt] (.Tuple [a, b, c] k2 pt2) pos) (LS T X.K C W (dPar [i, j, l] ts)) := PS.imp (ps_par3 hc hN hi hj hl hij hil hjl hx hy hz ha hw hs) fun Dn σ H ⟨ρ, g, DD, rs, rg, h, c⟩ =>
  ⟨ρ, g, _, _, rs, rg, h, ⟨fun vs ds H1 g1 k1 i1 rg1 h1 => by
    match ds, h1 with
    | [], h1 => simp [asgTs] at h1
    | [_], h1 => simp [asgTs, asgT] at h1
    | [_, _], h1 => simp [asgTs, asgT] at h1
    | d :: d' :: d2 :: ds, h1 =>
      simp only [List.map, asgTs, asgT] at h1
      obtain ⟨rfl, h1⟩ := h1
      obtain ⟨v, w, z, rfl, a, b, e⟩ := IsL.three i1
      exact ⟨v, w, z, rfl, c.nx _ _ _ _ k1 ((((rs.mono k1.kp).set i a).set j b).set l e) rg1 h1⟩⟩, c.exE rs⟩
theorem PSet.imp {r r' : TSet} (h : PSet X r) (k : ∀ o i v H Q, r' o i v H Q → r o i v H Q) : PSet X r' := fun pins s σ H o i v ov iv u Q I ro ri rv q => h pins s σ H o i v ov iv u Q I ro ri rv (k _ _ _ _ _ q)
/-- o[i] = v, lifted -/
def LPut (T : Tab) (K : PySem.W.Frag) (o : DPt) : TSet := fun x y z H Q => ∃ dx dy dz g QD, Is T K H dx x ∧ Is T K H dy y ∧ Is T K H dz z ∧ RG T K g H ∧ o dx dy dz g QD ∧ ∀ H' g', Kg g H g' H' → RG T K g' H' → QD g' → Q H'
theorem xPut : PSet X (LPut T X.K oPut) := PSet.imp set_list fun x y z H Q ⟨dx, dy, dz, g, QD, ix, iy, iz, rg, h, c⟩ => by
  unfold oPut at h
  split at h
  · rename_i a k
    split at h
    · rename_i l hg
      split at h
      · rename_i j hj
        simp only [Is] at ix iy
        subst ix iy
        obtain ⟨xs, hx, jl⟩ := rg a _ hg
        have kp : Kp H (upd H a (.lst (xs.set j z))) := Kp.mut hx (by intro _ z; cases z) (by intro _ _ z; cases z)
        refine ⟨a, xs, k, j, rfl, rfl, hx, by rw [← jl.length]; exact hj, c _ _ (Kg.put hg kp) (rg.put (q := .lst (l.set j dz)) hx kp ⟨_, upd_same, (jl.set j iz).mono kp⟩) h⟩
      · exact h.elim
    · exact h.elim
  · exact h.elim
theorem ds_put {o i : Expr} {p : Pos} (he : PE X e (LE T X.K C W te)) (ho : PE X o (LE T X.K C W to)) (hi : PE X i (LE T X.K C W ti)) (hs : swapsWithSole [.Subscript o i p] e pos.line X.env = pure false) (hp : plainIx i = true) :
    PS X (.Assign [.Subscript o i p] e pos) (LS T X.K C W (dPut to ti te)) := PS.imp (ps_asg he (pg_sub ho hi xPut (fun v => by cases i <;> first | rfl | (simp [plainIx] at hp))) hs (by unfold swappedStores; rfl) rfl) fun Dn σ H ⟨ρ, g, DD, rs, rg, h, c⟩ =>
  ⟨ρ, g, _, _, rs, rg, h, ⟨fun v d H1 g1 k1 i1 rg1 h1 => ⟨ρ, g1, _, _, rs.mono k1.kp, rg1, h1, ⟨fun o' dO H2 g2 k2 i2 rg2 h2 => ⟨ρ, g2, _, _, (rs.mono k1.kp).mono k2.kp, rg2, h2, ⟨fun i' dI H3 g3 k3 i3 rg3 h3 =>
    ⟨dO, dI, d, g3, _, i2.mono k3.kp, i3, (i1.mono k2.kp).mono k3.kp, rg3, h3, fun H4 g4 k4 rg4 q => c.nx _ _ _ _ (((k1.trans k2).trans k3).trans k4) ((rs.mono ((k1.trans k2).trans k3).kp).mono k4.kp) rg4 q⟩⟩,
    ((c.mono k1).mono k2).exE ((rs.mono k1.kp).mono k2.kp)⟩⟩, (c.mono k1).exE (rs.mono k1.kp)⟩⟩, c.exE rs⟩
theorem lookup_putD (f k : Nat) (d : D) : ∀ fs : List (Nat × D), (putD f d fs).lookup k = if k = f then some d else fs.lookup k
  | [] => by
    by_cases h : k = f
    · simp [putD, List.lookup, h]
    · have hb : (k == f) = false := beq_eq_false_iff_ne.mpr h
      simp [putD, List.lookup, hb, h]
  | (j, x) :: r => by
    have ih := lookup_putD f k d r
    unfold putD
    by_cases hj : j = f
    · rw [if_pos hj]
      by_cases h : k = f
      · subst h; subst hj; simp [List.lookup]
      · have hb : (k == j) = false := beq_eq_false_iff_ne.mpr (by rw [hj]; exact h)
        simp [List.lookup, hb, h]
    · rw [if_neg hj]
      by_cases h : k = j
      · subst h; simp [List.lookup, hj]
      · have hb : (k == j) = false := beq_eq_false_iff_ne.mpr h
        simp only [List.lookup, hb, ih]
theorem len_putD (f : Nat) (d : D) : ∀ fs : List (Nat × D), (putD f d fs).length = if (fs.lookup f).isSome then fs.length else fs.length + 1
  | [] => by simp [putD]
  | (j, x) :: r => by
    have ih := len_putD f d r
    unfold putD
    by_cases hj : j = f
    · subst hj; simp [List.lookup]
    · have hb : (f == j) = false := beq_eq_false_iff_ne.mpr (Ne.symm hj)
      simp only [if_neg hj, List.lookup, hb, List.length_cons, ih]
      split <;> rfl
theorem len_putF (f : Str) (d : V) : ∀ fs : List (Str × V), (putF f d fs).length = if (fs.lookup f).isSome then fs.length else fs.length + 1
  | [] => by simp [putF]
  | (j, x) :: r => by
    have ih := len_putF f d r
    unfold putF
    by_cases hj : j = f
    · subst hj; simp [List.lookup]
    · have hb : (f == j) = false := beq_eq_false_iff_ne.mpr (Ne.symm hj)
      simp only [if_neg hj, List.lookup, hb, List.length_cons, ih]
      split <;> rfl
theorem ds_fld {o : Expr} {f : Nat} {x : Str} {p : Pos} (KC : ClsOk T X.K) (hx : nm f = x) (he : PE X e (LE T X.K C W te)) (ho : PE X o (LE T X.K C W to)) (hs : swapsWith e (some (.Attribute o x p)) pos.line X.env = pure false) :
    PS X (.Assign [.Attribute o x p] e pos) (LS T X.K C W (dFld f to te)) := by
  subst hx
  refine PS.imp (ps_fld ho he hs) fun Dn σ H ⟨ρ, g, DD, rs, rg, h, c⟩ => ?_
  refine ⟨ρ, g, _, _, rs, rg, h, ⟨fun v d H1 g1 k1 i1 rg1 h1 => ⟨ρ, g1, _, _, rs.mono k1.kp, rg1, h1, ⟨fun o' dO H2 g2 k2 i2 rg2 h2 => ?_⟩, (c.mono k1).exE (rs.mono k1.kp)⟩⟩, c.exE rs⟩
  split at h2
  · rename_i a
    split at h2
    · rename_i c' fs hg
      obtain ⟨hf, hl, q⟩ := h2
      simp only [Is] at i2
      subst i2
      obtain ⟨dx, gs, ok, ha, hz, hv, hn⟩ := rg2 a _ hg
      have kp : ∀ {u}, Kp H2 (upd H2 a u) := Kp.mut ha (by intro _ z; cases z) (by intro _ _ z; cases z)
      have same : (gs.lookup (nm f)).isSome = (fs.lookup f).isSome := by
        cases q1 : fs.lookup f with
        | some y => obtain ⟨w, hw, _⟩ := hv f y q1; rw [hw]; rfl
        | none => rw [hn (nm f) fun j hj e => by rw [nm_inj e, q1] at hj; cases hj]; rfl
      refine ⟨a, _, dx, gs, rfl, ha, KC.cls _ ok, KC.no _ _ ok hf, by omega, c.nx _ _ _ _ ((k1.trans k2).trans (Kg.put hg kp)) ((rs.mono (k1.trans k2).kp).mono kp) (rg2.put ha kp ?_) q⟩
      refine ⟨dx, putF (nm f) v gs, ok, upd_same, by rw [len_putD, len_putF, same]; split <;> omega, fun k y hk => ?_, fun x hx => ?_⟩
      · rw [lookup_putD] at hk
        rw [lookup_putF]
        by_cases e : k = f
        · rw [if_pos e] at hk
          cases hk
          rw [if_pos (by rw [e])]
          exact ⟨v, rfl, (i1.mono k2.kp).mono kp⟩
        · rw [if_neg e] at hk
          rw [if_neg fun z => e (nm_inj z)]
          obtain ⟨w, hw, iw⟩ := hv k y hk
          exact ⟨w, hw, iw.mono kp⟩
      · rw [lookup_putF]
        rw [if_neg fun z => hx f (by rw [lookup_putD, if_pos rfl]; rfl) z.symm]
        refine hn x fun k hk e => hx k ?_ e
        rw [lookup_putD]
        by_cases e : k = f
        · rw [if_pos e]; rfl
        · rw [if_neg e]; exact hk
    · exact h2.elim
  · exact h2.elim
theorem ds_aug {i : Nat} {x : Str} {op : Operator} {o : DO2} {p : Pos} (hN : X.N.Nodup) (hi : X.N[i]? = some x) (hx : Loc X.env.scope x) (he : PE X e (LE T X.K C W te)) (ho : PIp X op (LO2 T X.K o)) (hf : X.fn x = true ∨ X.env.scope.names.lookup x = some .local) :
    PS X (.AugAssign (.Name x p) op e pos) (LS T X.K C W (dAug i o te)) := PS.imp (ps_aug hN hi hx he ho hf) fun Dn σ H ⟨ρ, g, DD, rs, rg, h, c⟩ => by
  unfold dAug getS at h
  split at h
  · rename_i d hd
    obtain ⟨v, hv, i0⟩ := rs.at_ i d hd
    exact ⟨v, hv, ρ, g, _, _, rs, rg, h, ⟨fun w y H1 g1 k1 i1 rg1 h1 => ⟨d, y, g1, _, i0.mono k1.kp, i1, rg1, h1, ⟨fun z dz H2 g2 k2 i2 rg2 h2 => c.nx _ _ _ _ (k1.trans k2) ((rs.mono (k1.trans k2).kp).set i i2) rg2 h2⟩⟩⟩, c.exE rs⟩
  · exact h.elim
end
end Cn

namespace Cn
open PySem PySem.Spec PyProof.Rows L2 PySem.Builtin PySem.Builtin.List

/-! ## XR. repr: the loops, whatever the items do -/
section
variable {prog : Program} {w : World} {A : Around} {R : Result → Shared → Prop}
/-- an item's text, at a state of J, below A' -/
def RpI (prog : Program) (w : World) (A' : Around) (E : Value → Shared → Prop) (J : Shared → Prop) (x : Value) (t : Str) : Prop :=
  ∀ (b : Nat) (s : Shared) (Q : Str → Shared → Prop), b + t.length ≤ sizeLine → J s → (∀ s', J s' → Q t s') → wpAny (model prog w) A' (pyReprUnder b x) Q E s
theorem repr_loopG {a P : Addr} {items : Array Value} {oa : Obj} {na : Nat} {ts : List Str} {base : Nat} (J : Obj → Shared → Prop) (hda : oa.data = .seq items na) (hJa : ∀ o s, J o s → s.heap.get? a = some oa) (hJP : ∀ o s, J o s → s.heap.get? P = some o)
    (hJt : ∀ o s tk, J o s → J o { s with toks := tk }) (hJu : ∀ (o : Obj) (s : Shared) (f : Obj → Obj), J o s → o.cls = .type "list" → (∃ xs n, (f o).data = .seq xs n) → J (f o) { s with heap := s.heap.update P f })
    (hlen : ts.length = items.size)
    (hT : ∀ (i : Nat) (x : Value), items[i]? = some x → ∃ t, ts[i]? = some t ∧ ∀ (args : Args) (o : Obj), args.pos.head? = some (.ref a) → RpI prog w (A.under (.builtin "list.__repr__.loop" args)) (fun e s' => R (.error e) s') (J o) x t)
    (hsz : base + (listText ts).length ≤ sizeLine) :
    ∀ (k i : Nat) (s : Shared) (acc : Array Value) (c : Nat) (done : List (Str × Tok)), items.size - i = k → i ≤ items.size → J { cls := .type "list", dict := none, data := .seq acc c, slots := #[] } s →
    acc.toList = strValues done → done.map (·.1) = ts.take i →
    (∀ o s' u, J o s' → R (.ok (.ret (.str (listText ts) u))) s') →
    codeAny (model prog w) A (.builtin "list.__repr__.loop" ⟨[.ref a, rawInt i, .ref P, rawInt ((base + piled (ts.take i) : Nat) : Int)], []⟩) R s := by
  have hX : (listText ts).length = (textFrom 0 "[" ts).length + 1 := by
    show (textFrom 0 "[" ts ++ "]").length = _
    rw [strLen_append]; rfl
  have hL := textFrom_len ts 0 "["
  have hsz1 : items.size ≤ sizeLine := by
    have h1 := hL.1
    rw [if_neg (Nat.lt_irrefl 0)] at h1
    omega
  have hsz2 : ∀ t ∈ ts, t.length ≤ sizeLine := fun t ht => by
    have h2 := hL.2.1 t ht
    omega
  have hsz3 : (listText ts).length ≤ sizeLine := by omega
  have hp3 := piled_le_listText ts
  intro k
  induction k with
  | zero =>
    intro i s acc c done hk hi j hacc hdone hR
    have hin : i = items.size := by omega
    refine codeAny_builtin F.entry_list_repr_loop ?_
    show wpAny _ _ («list.__repr__.loop» ⟨[.ref a, .int i 0, .ref P, .int ((base + piled (ts.take i) : Nat) : Int) 0], []⟩) _ _ s
    rw [repr_loop_tree]
    refine wpAny_bind (wpAny_listItems (hJa _ _ j) hda ?_)
    have hnone : items[(i : Int).toNat]? = none := by simp [hin]
    simp only [hnone]
    unfold reprEnd
    refine wpAny_bind (wpAny_listItems (hJP _ _ j) rfl ?_)
    rw [hacc, repr_fold]
    refine wpAny_bind (wpAny_pure ?_)
    have hall : done.map (·.1) = ts := by rw [hdone, hin, ← hlen, List.take_length]
    rw [hall]
    refine wpAny_bind (wpAny_mkStr (wpAny_pure ?_) hsz3)
    exact hR _ _ _ (hJt _ _ _ j)
  | succ k ih =>
    intro i s acc c done hk hi j hacc hdone hR
    have hlt : i < items.size := by omega
    obtain ⟨t, ht, hrep⟩ := hT i items[i] (by simp [hlt])
    have hp1 := piled_take_succ ht
    have hp2 := piled_take_le ts (i + 1)
    refine codeAny_builtin F.entry_list_repr_loop ?_
    show wpAny _ _ («list.__repr__.loop» ⟨[.ref a, .int i 0, .ref P, .int ((base + piled (ts.take i) : Nat) : Int) 0], []⟩) _ _ s
    rw [repr_loop_tree]
    refine wpAny_bind (wpAny_listItems (hJa _ _ j) hda ?_)
    have hsome : items[(i : Int).toNat]? = some items[i] := by simp [hlt]
    simp only [hsome]
    rw [Int.toNat_natCast]
    refine wpAny_bind (wpAny_holding (hrep _ _ rfl (base + piled (ts.take i) + 1) _ _ (by omega) j fun s1 j1 => ?_))
    refine wpAny_bind (wpAny_mkStr ?_ (hsz2 t (List.mem_of_getElem? ht)))
    refine wpAny_bind ?_
    show wpAny _ _ (updateSeq P _) _ _ _
    have hasz : acc.size ≤ sizeLine := by
      have e1 : acc.toList.length = acc.size := by simp
      have e2 : (strValues done).length = done.length := by simp [strValues]
      have e3 : done.length = (ts.take i).length := by rw [← hdone, List.length_map]
      have e4 : (ts.take i).length ≤ i := by rw [List.length_take]; omega
      rw [hacc] at e1; omega
    refine wpAny_updateSeq (hJP _ _ (hJt _ _ (s1.toks + 1) j1)) rfl (wpAny_pure ⟨F.quiet_list_repr_loop _, ?_⟩) hasz
    have e1 : ((i : Int) + 1) = ((i + 1 : Nat) : Int) := by omega
    have e2 : base + piled (ts.take i) + (t.length + 2) = base + piled (ts.take (i + 1)) := by omega
    rw [e1, e2]
    have j2 := hJu _ _ (Obj.mapSeq fun x => x.push (Value.str t s1.toks)) (hJt _ _ (s1.toks + 1) j1) rfl ⟨_, _, rfl⟩
    refine ih (i + 1) _ (acc.push (.str t s1.toks)) _ (done ++ [(t, s1.toks)]) (by omega) hlt j2 (by simp [hacc, strValues]) (by simp [List.take_add_one, ht, hdone]) hR
end

section
variable {prog : Program} {w : World} {A : Around}
/-- a list's repr, all of it: J0 at the start, J with the parts at P -/
theorem repr_listG {a : Addr} {oa : Obj} {x : Value} {l : List Value} {na : Nat} {ts : List Str} {base : Nat} {s : Shared} {R : Result → Shared → Prop} {g : List Code} (hc : oa.cls = .type "list") (hda : oa.data = .seq (x :: l).toArray na) (ha : s.heap.get? a = some oa)
    (hg : A.guards = some g) (hca : Clear g a) (J : Obj → Shared → Prop) (hJa : ∀ o s, J o s → s.heap.get? a = some oa) (hJP : ∀ o s', J o s' → s'.heap.get? s.heap.objs.size = some o)
    (hJt : ∀ o s tk, J o s → J o { s with toks := tk }) (hJu : ∀ (o : Obj) (s' : Shared) (f : Obj → Obj), J o s' → o.cls = .type "list" → (∃ xs n, (f o).data = .seq xs n) → J (f o) { s' with heap := s'.heap.update s.heap.objs.size f })
    (hJ0 : J { cls := .type "list", data := .seq ([] : List Value).toArray } { s with heap := s.heap.push { cls := .type "list", data := .seq ([] : List Value).toArray } })
    (hlen : ts.length = (x :: l).toArray.size)
    (hT : ∀ (i : Nat) (y : Value), (x :: l).toArray[i]? = some y → ∃ t, ts[i]? = some t ∧ ∀ (args : Args) (o : Obj), args.pos.head? = some (.ref a) → RpI prog w (A.under (.builtin "list.__repr__.loop" args)) (fun e s' => R (.error e) s') (J o) y t)
    (hR : ∀ o s' u, J o s' → R (.ok (.ret (.str (listText ts) u))) s') (hsz : base + (listText ts).length ≤ sizeLine) :
    wpAny (model prog w) A.in1 (Builtin.listReprAt base ⟨[.ref a], []⟩) (fun fin s' => match fin with | .done f => R (.ok f) s' | .again c' => c'.quiet = true ∧ codeAny (model prog w) A c' R s') (fun e s' => R (.error e) s') s := by
  refine wpAny_list_repr_head (A := A.in1) hg (fun v rest kw hm => listSameRef_of_ne (hca _ _ _ _ hm)) ha hda ?_
  refine wpAny_bind (m := newList []) (wpAny_newObj_type ?_)
  refine wpAny_pure ⟨F.quiet_list_repr_loop _, ?_⟩
  exact repr_loopG (P := s.heap.objs.size) J hda hJa hJP hJt hJu hlen hT hsz _ 0 _ #[] _ [] rfl (Nat.zero_le _) hJ0 (by simp [strValues]) rfl hR
/-- a tuple's items, one by one -/
theorem tup_foldG (J : Shared → Prop) {E : Value → Shared → Prop} : ∀ (l : List Value) (ts : List Str) (acc : Array Str) (n : Nat) (s : Shared) (Q : (Array Str × Nat) → Shared → Prop), ts.length = l.length →
    (∀ (i : Nat) (y : Value), l[i]? = some y → ∃ t, ts[i]? = some t ∧ RpI prog w A E J y t) → n + piled ts ≤ sizeLine → J s → (∀ s', J s' → Q ⟨acc ++ ts.toArray, n + piled ts⟩ s') →
    wpAny (model prog w) A (forIn l (⟨acc, n⟩ : (Array Str × Nat)) tupBody) Q E s := by
  intro l
  induction l with
  | nil =>
    intro ts acc n s Q hl _ _ j h
    have : ts = [] := List.length_eq_zero_iff.mp hl
    subst this
    have h0 := h s j
    simp only [List.forIn_nil]
    exact wpAny_pure (by simpa [piled] using h0)
  | cons x l ih =>
    intro ts acc n s Q hl hT hn j h
    obtain ⟨t, ht, hx⟩ := hT 0 x rfl
    cases ts with
    | nil => cases hl
    | cons t' ts' =>
      simp at ht
      subst ht
      rw [piled_cons] at hn
      rw [List.forIn_cons]
      refine wpAny_bind (wpAny_bind (hx (n + 1) _ _ (by omega) j fun s1 j1 => wpAny_pure ?_))
      refine ih ts' (acc.push t') (n + (t'.length + 2)) _ Q (by simpa using hl) (fun i y e => ?_) (by omega) j1 fun s2 j2 => ?_
      · obtain ⟨u, hu, hy⟩ := hT (i + 1) y (by simpa using e)
        exact ⟨u, by simpa using hu, hy⟩
      · have h1 := h s2 j2
        have e : n + piled (t' :: ts') = n + (t'.length + 2) + piled ts' := by rw [piled_cons]; omega
        rw [e] at h1
        simpa using h1
theorem repr_tupG {a : Addr} {o : Obj} {items : Array Value} {n : Nat} {ts : List Str} {s : Shared} {R : Result → Shared → Prop} {base : Nat} {id : String} {rest : List Value} {g : List Code} (J : Shared → Prop)
    (ha : s.heap.get? a = some o) (hd : o.data = .seq items n) (hg : A.guards = some g) (hca : Clear g a) (hlen : ts.length = items.toList.length) (hJt : ∀ s tk, J s → J { s with toks := tk }) (j : J s)
    (hT : ∀ (i : Nat) (y : Value), items.toList[i]? = some y → ∃ t, ts[i]? = some t ∧ RpI prog w (A.under (.builtin id ⟨.ref a :: rest, []⟩)) (fun e s' => R (.error e) s') J y t)
    (hR : ∀ s' u, J s' → R (.ok (.ret (.str (tupleText ts) u))) s') (hsz : base + (tupleText ts).length ≤ sizeLine) :
    wpOwn (model prog w) A (.builtin id ⟨.ref a :: rest, []⟩) (Builtin.tupleReprAt base ⟨[.ref a], []⟩) (fun fin s' => match fin with | .done f => R (.ok f) s' | .again c' => c'.quiet = true ∧ codeAny (model prog w) A c' R s') (fun e s' => R (.error e) s') s := by
  have hlen' : ts.length = items.size := by simpa using hlen
  have hp := piled_le_tupleText ts
  have hsz0 : (tupleText ts).length ≤ sizeLine := by omega
  rw [tuple_repr_tree, tupleReprUnderWay_eq]
  refine wpOwn_bind (wpOwn_stackTailAny hg (tupGuardF_off _) (tupGuardF_pos _) ?_)
  have hn : (g.any fun c => tupGuardF (.ref a) (c, default)) = false := by
    rw [List.any_eq_false]
    intro c hcm
    rw [tupGuardF_of_clear hca c hcm]
    exact Bool.false_ne_true
  rw [hn]
  refine wpOwn_of_wpAny ?_
  show wpAny _ _ (tupleReprRest base (.ref a)) _ _ s
  unfold tupleReprRest Builtin.Tuple.tupleItemsOf
  refine wpAny_bind (wpAny_bind (wpAny_seqItems ha hd (wpAny_pure ?_)))
  rw [← Array.forIn_toList]
  refine wpAny_bind (tup_foldG J _ ts _ _ _ _ hlen hT (by omega) j fun s1 j1 => ?_)
  refine wpAny_bind (wpAny_mkStr (wpAny_pure ?_) (by simpa [tupleText, hlen'] using hsz0))
  have h1 := hR _ s1.toks (hJt s1 (s1.toks + 1) j1)
  simpa [tupleText, hlen'] using h1
end
end Cn

namespace Cn
open PySem PySem.Spec PyProof.Rows L2 PySem.Builtin

/-! ## XR2. repr of a dict: the loop, whatever keys and values do -/
section
variable {prog : Program} {w : World} {A : Around}
theorem repr_dctG {a : Addr} {o : Obj} {es : Array DictEntry} {n : Nat} {ps : List Str} {s : Shared} {R : Result → Shared → Prop} {base : Nat} {id : String} {rest : List Value} {g : List Code} (J : Shared → Prop)
    (hJa : ∀ s, J s → s.heap.get? a = some o) (hc : o.cls = .type "dict") (hd : o.data = .dict es n) (hsys : (a == sysModules) = false) (hg : A.guards = some g) (hca : Clear g a) (hlen : ps.length = es.size) (hJt : ∀ s tk, J s → J { s with toks := tk }) (j : J s)
    (hT : ∀ (i : Nat) (e : DictEntry), es[i]? = some e → ∃ k v : Str, ps[i]? = some (k ++ ": " ++ v) ∧ RpI prog w (A.under (.builtin id ⟨.ref a :: rest, []⟩)) (fun e s' => R (.error e) s') J e.key k ∧ RpI prog w (A.under (.builtin id ⟨.ref a :: rest, []⟩)) (fun e s' => R (.error e) s') J e.val v)
    (hR : ∀ s' u, J s' → R (.ok (.ret (.str (dictText ps) u))) s') (hsz : base + (dictText ps).length ≤ sizeLine) :
    wpOwn (model prog w) A (.builtin id ⟨.ref a :: rest, []⟩) (Builtin.dictReprAt base ⟨[.ref a], []⟩) (fun fin s' => match fin with | .done f => R (.ok f) s' | .again c' => c'.quiet = true ∧ codeAny (model prog w) A c' R s') (fun e s' => R (.error e) s') s := by
  have hTy : s.TypeIs (.ref a) "dict" := ⟨o, hJa _ j, hc⟩
  have hp3 := piled_le_dictText ps
  have hsz0 : (dictText ps).length ≤ sizeLine := by omega
  unfold Builtin.dictReprAt
  refine wpOwn_bind (wpOwn_of_wpAny ?_)
  unfold Builtin.Dict.dictSlotNone
  refine wpAny_bind (wpAny_notOrdered_dict hTy ?_)
  show wpAny _ _ (pure (Value.ref a)) _ _ s
  refine wpAny_pure ?_
  rw [dictReprRunning_eq]
  refine wpOwn_bind (wpOwn_stackTailAny hg (dictGuardF_off _) (dictGuardF_pos _) ?_)
  have hn : (g.any fun c => dictGuardF (.ref a) (c, default)) = false := by
    rw [List.any_eq_false]
    intro c hcm
    rw [dictGuardF_of_clear hca c hcm]
    exact Bool.false_ne_true
  rw [hn]
  refine wpOwn_of_wpAny ?_
  show wpAny _ _ (Builtin.Dict.addrOf (.ref a) >>= _) _ _ s
  refine wpAny_bind (wpAny_pure ?_)
  show wpAny _ _ (Builtin.Dict.showsAll a >>= _) _ _ s
  unfold Builtin.Dict.showsAll
  rw [if_neg (by rw [hsys]; exact Bool.false_ne_true)]
  refine wpAny_bind (wpAny_pure ?_)
  refine wpAny_bind (wpAny_dictEpoch (hJa _ j) hd ?_)
  refine wpAny_bind (wpAny_dictEntries (hJa _ j) hd ?_)
  refine wpAny_bind ?_
  rw [Std.Legacy.Range.forIn_eq_forIn_range']
  simp only [Std.Legacy.Range.size, Nat.sub_zero, Nat.add_sub_cancel, Nat.div_one]
  refine wpAny_forIn_list _
    (fun rest' r s' => ∃ i, rest' = List.range' i (es.size - i) ∧ i ≤ es.size ∧ r = (⟨(ps.take i).toArray, base + piled (ps.take i)⟩ : (Array Str × Nat)) ∧ J s')
    _ ?_ ?_ _ _ ⟨0, by simp, Nat.zero_le _, by simp [piled], j⟩
  · rintro x rest' _ s' ⟨i, hr, hi, rfl, j'⟩
    have hlt : i < es.size := by
      rcases Nat.lt_or_ge i es.size with h | h
      · exact h
      · rw [Nat.sub_eq_zero_of_le h] at hr; simp at hr
    obtain ⟨rfl, hrest⟩ : x = i ∧ rest' = List.range' (i + 1) (es.size - (i + 1)) := by
      have e : es.size - i = (es.size - (i + 1)) + 1 := by omega
      rw [e, List.range'_succ] at hr
      injection hr with h1 h2
      exact ⟨h1, h2⟩
    obtain ⟨k, v, hp, rk, rv⟩ := hT x es[x] (by simp [hlt])
    have hpl : (k ++ ": " ++ v).length = k.length + 2 + v.length := by
      rw [strLen_append, strLen_append]; rfl
    have hp1 := piled_take_succ hp
    have hp2 := piled_take_le ps (x + 1)
    rw [hpl] at hp1
    refine wpAny_bind (wpAny_dictEntries (hJa _ j') hd ?_)
    rw [Array.getElem?_eq_getElem hlt]
    refine wpAny_bind (wpAny_holding (wpAny_bind (rk (base + piled (ps.take x) + 1) _ _ (by omega) j' fun s1 j1 =>
      wpAny_bind (rv (base + piled (ps.take x) + (k.length + 3)) _ _ (by omega) j1 fun s2 j2 => wpAny_pure ?_))))
    refine wpAny_bind (wpAny_dictEpoch (hJa _ j2) hd ?_)
    rw [if_neg (by simp)]
    have e1 : (ps.take x).toArray.push (k ++ ": " ++ v) = (ps.take (x + 1)).toArray := by
      rw [List.take_add_one, hp]
      simp
    have e2 : base + piled (ps.take x) + (k.length + v.length + 4) = base + piled (ps.take (x + 1)) := by omega
    refine wpAny_pure ⟨x + 1, hrest, hlt, ?_, j2⟩
    rw [e1, e2]
  · rintro _ s' ⟨i, hr, hi, rfl, j'⟩
    have hin : i = es.size := by
      rcases Nat.lt_or_ge i es.size with h | h
      · have e : es.size - i = (es.size - (i + 1)) + 1 := by omega
        rw [e, List.range'_succ] at hr; exact nomatch hr
      · exact Nat.le_antisymm hi h
    rw [hin, ← hlen, List.take_length]
    refine wpAny_bind (wpAny_mkStr (wpAny_pure ?_) (by simpa [dictText] using hsz0))
    have h1 := hR _ s'.toks (hJt s' (s'.toks + 1) j')
    simpa [dictText] using h1
end
/-- the entries of a dict's text -/
def ents : List Str → List Str → List Str
  | k :: ks, v :: vs => (k ++ ": " ++ v) :: ents ks vs
  | _, _ => []
theorem ents_at : ∀ {ks vs : List Str} {i : Nat} {k v : Str}, ks[i]? = some k → vs[i]? = some v → (ents ks vs)[i]? = some (k ++ ": " ++ v)
  | [], _, i, _, _, h, _ => by simp at h
  | _ :: _, [], i, _, _, _, h => by simp at h
  | a :: ks, b :: vs, 0, _, _, h, q => by simp at h q; subst h q; rfl
  | a :: ks, b :: vs, i + 1, _, _, h, q => by simpa [ents] using ents_at (ks := ks) (vs := vs) (i := i) (by simpa using h) (by simpa using q)
theorem ents_len : ∀ {ks vs : List Str}, ks.length = vs.length → (ents ks vs).length = ks.length
  | [], [], _ => rfl
  | [], _ :: _, h => by simp at h
  | _ :: _, [], h => by simp at h
  | a :: ks, b :: vs, h => by simp [ents, ents_len (ks := ks) (vs := vs) (by simpa using h)]
end Cn

namespace Cn
open PySem PySem.Spec PyProof.Rows L2

/-! ## XS. One value, one tree -/
def kcl (T : Tab) : D → Value
  | .tup _ => .type "tuple"
  | .lst _ => .type "list"
  | .dct _ _ => .type "dict"
  | .ins c _ => .ref (T.cA c)
  | _ => .none
section
variable {X : Cx} {T : Tab} {pins : List (Addr × Obj)} {σ : L2.St} {H : Hp} {s : Shared}
theorem cls_at (I : Inv X pins σ H s) {d : D} {a : Addr} (hd : dat d = true) (i : Is T X.K H d (.ref a)) : ∃ o, s.heap.get? a = some o ∧ o.cls = kcl T d := by
  cases d <;> simp only [Is] at i <;> first | (cases i; done) | (cases hd; done) | skip
  · obtain ⟨b, xs, e, q, _⟩ := i
    cases e
    obtain ⟨its, _, ⟨o, h1, h2, _⟩, _⟩ := I.tuple q
    exact ⟨o, h1, h2⟩
  · obtain ⟨b, xs, e, ⟨o, q⟩, _⟩ := i
    cases e
    obtain ⟨_, _, its, n, _, h1⟩ := I.hok _ _ q
    exact ⟨_, h1, rfl⟩
  · obtain ⟨b, o, kvs, e, q, _⟩ := i
    cases e
    obtain ⟨h0, _, _, vs, _, ob, _, _, h1, h2, _⟩ := I.hok _ _ q
    exact ⟨ob, h1, h2.1⟩
  · obtain ⟨b, o, dx, fs, xs, _, e, q, _⟩ := i
    cases e
    obtain ⟨h0, _, _, _, h1, _⟩ := I.hok _ _ q
    exact ⟨_, h1, rfl⟩
theorem cA_inj {K : PySem.W.Frag} (KC : ClsOk T K) {c c' : Nat} (h : T.ok c = true) (h' : T.ok c' = true) (e : T.cA c = T.cA c') : c = c' := by
  have h1 := KC.kitC c c' h h'
  have h2 := KC.kitC c' c' h' h'
  rw [e, h2] at h1
  simpa using (Option.some.inj h1).symm
mutual
theorem Is.uniq (I : Inv X pins σ H s) (KC : ClsOk T X.K) : ∀ (d d' : D) (v : V), dat d = true → dat d' = true → Is T X.K H d v → Is T X.K H d' v → d = d'
  | .non, d', v, _, h', i, i' => by cases d' <;> simp_all [Is, dat]
  | .bl b, d', v, _, h', i, i' => by cases d' <;> simp_all [Is, dat]
  | .int b, d', v, _, h', i, i' => by cases d' <;> simp_all [Is, dat]
  | .str b, d', v, _, h', i, i' => by
    cases d' <;> simp only [Is] at i i' <;> first | (subst i; cases i'; done) | (cases h'; done) | skip
    · rw [i] at i'; rw [S_inj (V.str.inj i')]
    all_goals (subst i; simp at i')
  | .adr _, _, _, h, _, _, _ | .fn _, _, _, h, _, _, _ | .cls _, _, _, h, _, _, _ | .ty _, _, _, h, _, _, _ => by cases h
  | .tup l, d', v, h, h', i, i' => by
    have j := i
    simp only [Is] at i
    obtain ⟨a, xs, rfl, q, il⟩ := i
    obtain ⟨o, e1, e2⟩ := cls_at I h j
    cases d' <;> first | (simp only [Is] at i'; cases i'; done) | (cases h'; done) | skip
    · simp only [Is] at i'
      obtain ⟨b, ys, e, q', il'⟩ := i'
      cases e
      have := I.tuple_inj q q'
      subst this
      rw [IsL.uniq I KC l _ xs h h' il il']
    all_goals (obtain ⟨o', e1', e2'⟩ := cls_at I h' i'; rw [e1] at e1'; cases e1'; rw [e2] at e2'; simp [kcl] at e2')
  | .lst l, d', v, h, h', i, i' => by
    have j := i
    simp only [Is] at i
    obtain ⟨a, xs, rfl, ⟨oo, q⟩, il⟩ := i
    obtain ⟨o, e1, e2⟩ := cls_at I h j
    cases d' <;> first | (simp only [Is] at i'; cases i'; done) | (cases h'; done) | skip
    case lst l' =>
      simp only [Is] at i'
      obtain ⟨b, ys, e, ⟨oo', q'⟩, il'⟩ := i'
      cases e
      rw [q] at q'
      cases q'
      rw [IsL.uniq I KC l _ xs h h' il il']
    all_goals (obtain ⟨o', e1', e2'⟩ := cls_at I h' i'; rw [e1] at e1'; cases e1'; rw [e2] at e2'; simp [kcl] at e2')
  | .dct ks vs, d', v, h, h', i, i' => by
    have j := i
    simp only [Is] at i
    obtain ⟨a, oo, kvs, rfl, q, il, im⟩ := i
    obtain ⟨o, e1, e2⟩ := cls_at I h j
    cases d' <;> first | (simp only [Is] at i'; cases i'; done) | (cases h'; done) | skip
    case dct ks' vs' =>
      simp only [Is] at i'
      obtain ⟨b, oo', kvs', e, q', il', im'⟩ := i'
      cases e
      rw [q] at q'
      cases q'
      obtain ⟨h1, h2⟩ := Bool.and_eq_true_iff.mp h
      obtain ⟨h3, h4⟩ := Bool.and_eq_true_iff.mp h'
      rw [IsL.uniq I KC ks _ _ h1 h3 il il', IsL.uniq I KC vs _ _ h2 h4 im im']
    all_goals (obtain ⟨o', e1', e2'⟩ := cls_at I h' i'; rw [e1] at e1'; cases e1'; rw [e2] at e2'; simp [kcl] at e2')
  | .ins c l, d', v, h, h', i, i' => by
    have j := i
    simp only [Is] at i
    obtain ⟨a, oo, dx, fs, xs, ok, rfl, q, m, _, il⟩ := i
    obtain ⟨o, e1, e2⟩ := cls_at I h j
    cases d' <;> first | (simp only [Is] at i'; cases i'; done) | (cases h'; done) | skip
    case ins c' l' =>
      simp only [Is] at i'
      obtain ⟨b, oo', dx', fs', xs', ok', e, q', m', _, il'⟩ := i'
      cases e
      rw [q] at q'
      simp only [Option.some.injEq, HO.frz.injEq, HO.ins.injEq] at q'
      obtain ⟨_, ec, _, ef⟩ := q'
      have := cA_inj KC ok ok' ec
      subst this ef
      rw [m] at m'
      have hx : xs = xs' := by
        have hi : Function.Injective (some : V → Option V) := fun _ _ z => Option.some.inj z
        exact (List.map_inj_right (fun x y z => hi z)).mp m'
      subst hx
      rw [IsL.uniq I KC l _ xs h h' il il']
    all_goals (obtain ⟨o', e1', e2'⟩ := cls_at I h' i'; rw [e1] at e1'; cases e1'; rw [e2] at e2'; simp [kcl] at e2')
theorem IsL.uniq (I : Inv X pins σ H s) (KC : ClsOk T X.K) : ∀ (l l' : List D) (xs : List V), datL l = true → datL l' = true → IsL T X.K H l xs → IsL T X.K H l' xs → l = l'
  | [], l', xs, _, _, i, i' => by
    simp only [IsL] at i
    subst i
    cases l' with
    | nil => rfl
    | cons d ds => simp only [IsL] at i'; obtain ⟨_, _, e, _⟩ := i'; cases e
  | d :: ds, l', xs, h, h', i, i' => by
    simp only [IsL] at i
    obtain ⟨v, vs, rfl, a, j⟩ := i
    cases l' with
    | nil => simp only [IsL] at i'; cases i'
    | cons d' ds' =>
      simp only [IsL] at i'
      obtain ⟨w, ws, e, a', j'⟩ := i'
      cases e
      obtain ⟨h1, h2⟩ := Bool.and_eq_true_iff.mp h
      obtain ⟨h3, h4⟩ := Bool.and_eq_true_iff.mp h'
      rw [Is.uniq I KC d d' v h1 h3 a a', IsL.uniq I KC ds ds' vs h2 h4 j j']
end
end
end Cn

namespace Cn
open PySem PySem.Spec PyProof.Rows L2

/-! ## XT. repr of a tree -/
/-- a part: a text, a Weight -/
def prtB : D → Bool
  | .tup [.str _, .ins 0 [.int _, .int _]] => true
  | _ => false
def rpI (c : Nat) (l : List D) (ts : List Str) : Option Str := match c, l, ts with
  | 0, [.int _, .int b], [t, u] => some (if b = 1 then ("Weight(" : Str) ++ t ++ (")" : Str) else ("Weight(" : Str) ++ t ++ (", " : Str) ++ u ++ (")" : Str))
  | 1, [.str _, .str _, .int _, .int _], [t, u, v, x] => some (("Note(" : Str) ++ t ++ (", " : Str) ++ u ++ (", " : Str) ++ v ++ (", " : Str) ++ x ++ (")" : Str))
  | 2, [.str _, .int _, .tup p], [t, u, v] => if p.all prtB then some (("Cask(" : Str) ++ t ++ (", " : Str) ++ u ++ (", " : Str) ++ v ++ (")" : Str)) else none
  | _, _, _ => none
def memN (a : Nat) (l : List Nat) : Bool := l.any fun b => Nat.beq a b
mutual
/-- the text that repr tells of a tree, own classes those of w -/
def rpT (w : List Nat) : D → Option Str
  | .non => some "None"
  | .bl b => some (if b then "True" else "False")
  | .int i => if i.natAbs.log2 < 1920 then some (toString i) else none
  | .str s => some (reprText (S s))
  | .tup l => (rpL w l).map tupleText
  | .lst l => (rpL w l).map listText
  | .ins c l => match memN c w, rpL w l with
    | true, some ts => rpI c l ts
    | _, _ => none
  | .dct ks vs => match rpL w ks, rpL w vs with
    | some a, some b => some (dictText (ents a b))
    | _, _ => none
  | _ => none
def rpL (w : List Nat) : List D → Option (List Str)
  | [] => some []
  | d :: ds => match rpT w d, rpL w ds with
    | some t, some ts => some (t :: ts)
    | _, _ => none
end
theorem rpL_at {w : List Nat} : ∀ {l : List D} {ts : List Str}, rpL w l = some ts → ts.length = l.length ∧ ∀ (i : Nat) d, l[i]? = some d → ∃ t, ts[i]? = some t ∧ rpT w d = some t
  | [], ts, h => by simp only [rpL] at h; cases h; exact ⟨rfl, fun i d e => by simp at e⟩
  | d :: ds, ts, h => by
    simp only [rpL] at h
    split at h
    · rename_i t ts' e1 e2
      cases h
      obtain ⟨a, b⟩ := rpL_at e2
      refine ⟨by simp [a], fun i x e => ?_⟩
      cases i with
      | zero => simp at e; subst e; exact ⟨t, rfl, e1⟩
      | succ i => simpa using b i x (by simpa using e)
    · cases h
/-- what an own __repr__ keeps -/
def spRp (w : List Nat) (c : Nat) : DSp := fun ds kws g Q E => ∃ l txt, ds = [.ins c l] ∧ kws = [] ∧ rpT w (.ins c l) = some txt ∧ txt.length ≤ sizeLine ∧ Q (.str txt.cps.toList) g
def mC (c : Nat) : Nat := if c = 2 then 10 else 0
structure OwnRp (w : List Nat) (T : Tab) (P : Program) (wd : World) (K : PySem.W.Frag) (mg : Str → Option Value) (base : Heap) (k : Nat) : Prop where
  at_ : ∀ c, memN c w = true → T.ok c = true → ∃ f, PySem.W.findIn K (.ref (T.cA c)) "__repr__" = some (some (.ref f)) ∧ PySem.W.isFn K (.ref f) = true ∧ CalOk (some (mC c)) T P wd K mg base k f (spRp w c)
theorem Ext.kp {H H' : Hp} (e : Ext H H') : Kp H H' := ⟨fun b xs h => e b _ h, fun b o u h => e b _ h⟩
def GdE (X : Cx) (T : Tab) (n : Nat) (gl : List Code) (H : Hp) : Prop := ∀ id c rest kw, Code.builtin id ⟨.ref c :: rest, kw⟩ ∈ gl →
  (X.ex = [] ∧ X.H_0 c = none ∧ (∃ o, X.s_0.heap.get? c = some o) ∧ X.K.lookup c = none) ∨ ∃ d, dat d = true ∧ n < dep d ∧ Is T X.K H d (.ref c)
/-- below the running body -/
structure Bel (X : Cx) (k : Nat) (A : Around) : Prop where
  room : Room k A
  fr : A.frames = X.A.frames
section
variable {X : Cx} {T : Tab} {pins : List (Addr × Obj)} {σ : L2.St} {H : Hp} {s : Shared} {A : Around} {E : Value → Shared → Prop}
theorem GdE.mono {n m : Nat} {gl : List Code} {H' : Hp} (g : GdE X T n gl H) (h : m ≤ n) (k : Kp H H') : GdE X T m gl H' := fun id c rest kw hm => (g id c rest kw hm).imp_right fun ⟨d, a, b, i⟩ => ⟨d, a, Nat.lt_of_le_of_lt h b, i.mono k⟩
theorem GdE.push {n : Nat} {gl : List Code} {id : String} {c : Addr} {rest : List Value} {kw : List (Str × Value)} {d : D} (g : GdE X T n gl H) (hd : dat d = true) (hn : n < dep d) (i : Is T X.K H d (.ref c)) : GdE X T n (.builtin id ⟨.ref c :: rest, kw⟩ :: gl) H := fun id' c' rest' kw' hm => by
  rcases List.mem_cons.mp hm with e | hm
  · cases e; exact .inr ⟨d, hd, hn, i⟩
  · exact g id' c' rest' kw' hm
def cont : D → Bool
  | .tup _ => true
  | .lst _ => true
  | .dct _ _ => true
  | _ => false
theorem GdE.clear (I : Inv X pins σ H s) (KC : ClsOk T X.K) {n : Nat} {gl : List Code} (g : GdE X T n gl H) {d : D} {b : Addr} (hd : dat d = true) (hn : dep d ≤ n) (i : Is T X.K H d (.ref b)) (hc : cont d = true) : Clear gl b := fun id v rest kw hm e => by
  subst e
  rcases g id b rest kw hm with ⟨ex, a, ⟨o, ho⟩, k⟩ | ⟨d', a, q, j⟩
  · have hb : H b = none := I.base.free b o ho a (by rw [ex]; simp)
    cases d <;> first | (cases hc; done) | skip
    · simp only [Is] at i
      obtain ⟨c, xs, e, q, _⟩ := i
      cases e
      rcases q with (q | ⟨o', q⟩) | ⟨o', its, n', q, _⟩
      · rw [hb] at q; cases q
      · rw [hb] at q; cases q
      · rw [k] at q; cases q
    · simp only [Is] at i
      obtain ⟨c, xs, e, ⟨o', q⟩, _⟩ := i
      cases e
      rw [hb] at q; cases q
    · simp only [Is] at i
      obtain ⟨c, o', kvs, e, q, _⟩ := i
      cases e
      rw [hb] at q; cases q
  · have := Is.uniq I KC d d' _ hd a i j
    subst this
    omega
theorem GdE.ok (I : Inv X pins σ H s) {n m : Nat} {gl : List Code} (g : GdE X T n gl H) (h : m ≤ n) : GdOk T X.K m gl s H := fun id c rest kw hm => by
  rcases g id c rest kw hm with ⟨ex, a, ⟨o, ho⟩, k⟩ | ⟨d, a, q, j⟩
  · have hx : c ∉ X.ex := by rw [ex]; simp
    exact .inl ⟨I.base.free c o ho a hx, I.base.there c o ho hx, k⟩
  · exact .inr ⟨d, a, Nat.lt_of_le_of_lt h q, j⟩
theorem Bel.env0 {k : Nat} (b : Bel X k A) (I : Inv X pins σ H s) : Env0 X.prog X.w X.K X.mg X.base A X.stack s H := by
  have e := I.env0
  exact ⟨by rw [b.fr]; exact e.frames, e.mod, e.bs, e.bsz, e.funs, e.frf, e.hok, e.bare⟩
theorem Bel.mono {j k : Nat} (b : Bel X k A) (h : j ≤ k) : Bel X j A := ⟨b.room.mono h, b.fr⟩
theorem Bel.in1 {k : Nat} (b : Bel X (k + 1) A) : Bel X k A.in1 := ⟨b.room.in1, b.fr⟩
theorem bel_under {k : Nat} {id : String} {args : Args} (b : Bel X (k + 1) A) (h1 : (A.under (.builtin id args)).depth ≤ A.depth + 3) (h2 : (A.under (.builtin id args)).units ≤ A.units + 16) (h3 : (A.under (.builtin id args)).frames = A.frames) (h4 : (A.under (.builtin id args)).handled = A.handled) : Bel X k (A.under (.builtin id args)) :=
  ⟨⟨h4.trans b.room.hd, by have := b.room.dp; omega, by have := b.room.un; omega⟩, h3.trans b.fr⟩
theorem under_depth {c : Code} (h1 : c.frames = 0) (h2 : c.isCreation = false) (h3 : c.isCaller = false) : (A.under c).depth ≤ A.depth + 1 := by
  show A.depth + c.weight ≤ A.depth + 1
  unfold Code.weight
  rw [h1, h2, h3]
  simp only [Bool.false_eq_true, if_false]
  split <;> omega
theorem bel_loop {k : Nat} {args : Args} (b : Bel X (k + 1) A) : Bel X k (A.under (.builtin "list.__repr__.loop" args)) :=
  bel_under b (Nat.le_trans (under_depth rfl rfl rfl) (by omega)) (by rw [units_under_list_loop]; omega) rfl rfl
theorem bel_tup {k : Nat} {args : Args} (b : Bel X (k + 1) A) : Bel X k (A.under (.builtin "tuple.__repr__" args)) :=
  bel_under b (Nat.le_trans (under_depth rfl rfl rfl) (by omega)) (by rw [units_under_tuple_repr]; omega) rfl rfl
theorem bel_tupU {k : Nat} {args : Args} (b : Bel X (k + 1) A) : Bel X k (A.under (.builtin "tuple.__repr__.under" args)) :=
  bel_under b (Nat.le_trans (under_depth rfl rfl rfl) (by omega)) (by rw [units_under_tuple_repr_under]; omega) rfl rfl
theorem bel_dct {k : Nat} {args : Args} (b : Bel X (k + 1) A) : Bel X k (A.under (.builtin "dict.__repr__" args)) :=
  bel_under b (Nat.le_trans (under_depth rfl rfl rfl) (by omega)) (by rw [units_under_dict_repr]; omega) rfl rfl
theorem bel_dctU {k : Nat} {args : Args} (b : Bel X (k + 1) A) : Bel X k (A.under (.builtin "dict.__repr__.under" args)) :=
  bel_under b (Nat.le_trans (under_depth rfl rfl rfl) (by omega)) (by rw [units_under_dict_repr_under]; omega) rfl rfl
/-- the state through the items: the abstract heap has grown -/
def Grow (X : Cx) (pins : List (Addr × Obj)) (σ : L2.St) (H : Hp) (s : Shared) : Prop := ∃ H', Inv X pins σ H' s ∧ Ext H H'
/-- a tree's repr, from any state of Grow -/
def RpG (X : Cx) (T : Tab) (kR : Nat) (d : D) (t : Str) : Prop := ∀ (n : Nat) (A : Around) (gl : List Code) (pins : List (Addr × Obj)) (σ : L2.St) (H : Hp) (v : V) (u : Value) (b : Nat) (s : Shared) (Q : Str → Shared → Prop),
  dep d ≤ n → Bel X (kR + n) A → A.guards = some gl → GdE X T n gl H → Is T X.K H d v → RelV v u → b + t.length ≤ sizeLine → Inv X pins σ H s → (∀ s', Grow X pins σ H s' → Q t s') → wpAny (model X.prog X.w) A (pyReprUnder b u) Q X.xe s
theorem rp_leaf {kR : Nat} {d : D} {t : Str} (h : ∀ H v u, Is T X.K H d v → RelV v u → t.length ≤ sizeLine → ReprIs X.prog X.w u t) : RpG X T kR d t := fun n A gl pins σ H v u b s Q _ _ _ _ i r hz I q =>
  h H v u i r (by omega) b hz A X.xe s Q fun tk => q _ ⟨H, I.tok _, fun _ _ e => e⟩
/-- an item in a loop -/
theorem rp_item {kR n : Nat} {d : D} {t : Str} (h : RpG X T kR d t) {A : Around} {gl : List Code} {v : V} {u : Value} {pins' : List (Addr × Obj)} {J : Shared → Prop} (hn : dep d ≤ n) (hb : Bel X (kR + n) A) (hg : A.guards = some gl) (gd : GdE X T n gl H) (i : Is T X.K H d v) (r : RelV v u)
    (hJ : ∀ s, J s → ∃ H', Inv X pins' σ H' s ∧ Ext H H') (hJ' : ∀ s s' H', J s → Inv X pins' σ H' s' → Ext H H' → J s') : RpI X.prog X.w A X.xe J u t := fun b s Q hz j q => by
  obtain ⟨H', I', e'⟩ := hJ s j
  exact h n A gl pins' σ H' v u b s Q hn hb hg (gd.mono (Nat.le_refl _) (Cn.Ext.kp e')) (i.mono (Cn.Ext.kp e')) r hz I' fun s' ⟨H2, I2, e2⟩ => q s' (hJ' s s' H2 j I2 (e'.trans e2))
end

section
variable {X : Cx} {T : Tab} {pins : List (Addr × Obj)} {σ : L2.St} {H : Hp} {s : Shared} {A : Around} {E : Value → Shared → Prop}
theorem dep_le : ∀ {l : List D} {i : Nat} {d : D}, l[i]? = some d → dep d ≤ depL l
  | [], i, d, h => by simp at h
  | x :: l, i, d, h => by
    simp only [depL]
    cases i with
    | zero => simp at h; subst h; exact Nat.le_max_left _ _
    | succ i => exact Nat.le_trans (dep_le (l := l) (i := i) (by simpa using h)) (Nat.le_max_right _ _)
/-- the parts' list, pinned, through the loop -/
def JP (X : Cx) (pins : List (Addr × Obj)) (σ : L2.St) (H : Hp) (P : Addr) (o : Obj) (s : Shared) : Prop := ∃ H', Inv X (pins ++ [(P, o)]) σ H' s ∧ Ext H H'
theorem pinsAt_one {P : Addr} {o : Obj} {h : Heap} (e : h.get? P = some o) : pinsAt [P] h = [(P, o)] := by simp [pinsAt, e]
theorem jp_start (I : Inv X pins σ H s) {o : Obj} (ho : ∀ v, o.data ≠ .cell v) (hal : (s.heap.push o).get? s.heap.objs.size = some o) : JP X pins σ H s.heap.objs.size o { s with heap := s.heap.push o } := by
  have I1 : Inv X pins σ H { s with heap := s.heap.push o } := I.kept (t' := s.toks) fun b q e => Heap.get?_push_of_some _ e
  have f := I.fpOk (Nat.le_refl _) (I.hok.fresh (Nat.le_refl s.heap.objs.size))
  have I2 := I1.pinned (fp := [s.heap.objs.size]) (fun b hb => by
    obtain rfl : b = s.heap.objs.size := by simpa using hb
    exact f) (fun b hb => by
    obtain rfl : b = s.heap.objs.size := by simpa using hb
    exact ⟨o, hal, ho⟩)
  rw [pinsAt_one hal] at I2
  exact ⟨H, I2, fun _ _ e => e⟩
theorem jp_up {P : Addr} {H0 : Hp} (fP : FpOk X pins H0 P) {o : Obj} {s : Shared} {f : Obj → Obj} (j : JP X pins σ H P o s) (hq : ∃ xs n, (f o).data = .seq xs n) : JP X pins σ H P (f o) { s with heap := s.heap.update P f } := by
  obtain ⟨H', I, e⟩ := j
  obtain ⟨h1, h2, h3, h4, h5⟩ := I.pin (P, o) (by simp)
  obtain ⟨xs, n, hs⟩ := hq
  obtain ⟨_, g1, g2, g3, g4, g5⟩ := fP
  have I1 : Inv X pins σ H' { s with heap := s.heap.update P f } := I.unpinned.turned (t' := s.toks) (fun b o hb e => (Heap.get?_update_other _ _ (Ne.symm hb)).trans e) h2 g1 g3 g4 g5
  have hp : (s.heap.update P f).get? P = some (f o) := Heap.get?_update_self _ h1 (by
    generalize f o = q at hs ⊢
    obtain ⟨c1, c2, c3, c4⟩ := q
    simp only at hs
    subst hs
    rfl)
  have I2 := I1.pinned (fp := [P]) (fun b hb => by
    obtain rfl : b = P := by simpa using hb
    exact ⟨h2, g1, g2, g3, g4, g5⟩) (fun b hb => by
    obtain rfl : b = P := by simpa using hb
    exact ⟨f o, hp, fun v z => by rw [hs] at z; cases z⟩)
  rw [pinsAt_one hp] at I2
  exact ⟨H', I2, e⟩
/-- the items of a list or tuple, by their trees -/
theorem rp_items {kR : Nat} {l : List D} {ts : List Str} {xs : List V} {its : List Value} (hts : ts.length = l.length) (hg : ∀ (i : Nat) d, l[i]? = some d → ∃ t, ts[i]? = some t ∧ RpG X T kR d t) (il : IsL T X.K H l xs) (rv : Vals xs its) {A : Around} {gl : List Code} {J : Shared → Prop} {pins' : List (Addr × Obj)}
    (hb : Bel X (kR + depL l) A) (hgl : A.guards = some gl) (gd : GdE X T (depL l) gl H) (hJ : ∀ s, J s → ∃ H', Inv X pins' σ H' s ∧ Ext H H') (hJ' : ∀ s s' H', J s → Inv X pins' σ H' s' → Ext H H' → J s') :
    ∀ (i : Nat) (y : Value), its[i]? = some y → ∃ t, ts[i]? = some t ∧ RpI X.prog X.w A X.xe J y t := fun i y e => by
  have hi : i < l.length := by rw [il.length, rv.length]; exact (List.getElem?_eq_some_iff.mp e).1
  obtain ⟨v, e1, iv⟩ := il.get (List.getElem?_eq_getElem hi)
  obtain ⟨u, e2, r⟩ := rv.get e1
  rw [e] at e2
  cases e2
  obtain ⟨t, ht, h⟩ := hg i _ (List.getElem?_eq_getElem hi)
  exact ⟨t, ht, rp_item h (dep_le (List.getElem?_eq_getElem hi)) hb hgl gd iv r hJ hJ'⟩
theorem listText_nil' : listText [] = "[]" := by decide +kernel
theorem lst_body {kR : Nat} {l : List D} {ts : List Str} (hts : ts.length = l.length) (hT : ∀ (i : Nat) d, l[i]? = some d → ∃ t, ts[i]? = some t ∧ RpG X T kR d t) (KC : ClsOk T X.K) (hd : dat (.lst l) = true) {n : Nat} {gl : List Code} {a : Addr} {oa : Obj} {xs : List V} {x : Value} {its : List Value} {na base : Nat} {R : Result → Shared → Prop}
    (hn : dep (.lst l) ≤ n) (hb : Bel X (kR + n) A) (hg : A.guards = some gl) (gd : GdE X T n gl H) (I : Inv X pins σ H s) (hfz : H a = some (.frz oa (.lst xs))) (il : IsL T X.K H l xs) (rv : Vals xs (x :: its)) (hc : oa.cls = .type "list") (hda : oa.data = .seq (x :: its).toArray na) (hE : (fun e s' => R (.error e) s') = X.xe)
    (hR : ∀ s' u, Grow X pins σ H s' → R (.ok (.ret (.str (listText ts) u))) s') (hsz : base + (listText ts).length ≤ sizeLine) :
    wpAny (model X.prog X.w) A.in1 (Builtin.listReprAt base ⟨[.ref a], []⟩) (fun fin s' => match fin with | .done f => R (.ok f) s' | .again c' => c'.quiet = true ∧ codeAny (model X.prog X.w) A c' R s') (fun e s' => R (.error e) s') s := by
  have ia : Is T X.K H (.lst l) (.ref a) := by simp only [Is]; exact ⟨a, xs, rfl, ⟨oa, hfz⟩, il⟩
  have dl : depL l < dep (.lst l) := by simp only [dep]; omega
  have fP := I.fpOk (Nat.le_refl _) (I.hok.fresh (Nat.le_refl s.heap.objs.size))
  refine repr_listG (J := JP X pins σ H s.heap.objs.size) hc hda (I.hok _ _ hfz).1 hg (gd.clear I KC hd hn ia rfl) (fun o s' ⟨H', I', e'⟩ => (I'.hok _ _ (e' _ _ hfz)).1) (fun o s' ⟨H', I', e'⟩ => (I'.pin (s.heap.objs.size, o) (by simp)).1)
    (fun o s' tk ⟨H', I', e'⟩ => ⟨H', I'.tok _, e'⟩) (fun o s' f j _ hq => jp_up fP j hq) (jp_start I (fun v z => by cases z) (Heap.get?_push_size _ rfl)) (by rw [hts, il.length, rv.length]; simp) (fun i y e => ?_) (fun o s' u ⟨H', I', e'⟩ => hR s' u ⟨H', I'.unpinned, e'⟩) hsz
  have e' : (x :: its)[i]? = some y := by simpa using e
  have hb' : Bel X (kR + depL l + 1) A := hb.mono (by omega)
  have hi : i < l.length := by rw [il.length, rv.length]; exact (List.getElem?_eq_some_iff.mp e').1
  obtain ⟨t, ht, _⟩ := hT i _ (List.getElem?_eq_getElem hi)
  refine ⟨t, ht, fun args o ha => ?_⟩
  obtain ⟨rest, hargs⟩ : ∃ rest, args.pos = .ref a :: rest := by
    cases q : args.pos with
    | nil => rw [q] at ha; cases ha
    | cons v r => rw [q] at ha; simp at ha; exact ⟨r, by rw [ha]⟩
  obtain ⟨pos, kw⟩ := args
  subst hargs
  obtain ⟨t', ht', h⟩ := rp_items (J := JP X pins σ H s.heap.objs.size o) (pins' := pins ++ [(s.heap.objs.size, o)]) hts hT il rv (bel_loop hb') (guards_under_guard (isGuard_list_loop _) hg) ((gd.mono (by omega) (Kp.refl H)).push hd dl ia) (fun s' j => j) (fun s' s2 H2 j I2 e2 => ⟨H2, I2, e2⟩) i y e'
  rw [ht] at ht'
  cases ht'
  rw [hE]
  exact h
end
end Cn

namespace Cn
open PySem PySem.Spec PyProof.Rows L2

section
variable {X : Cx} {T : Tab} {pins : List (Addr × Obj)} {σ : L2.St} {H : Hp} {s : Shared} {A : Around} {E : Value → Shared → Prop} {M : Model}
theorem sp_own {K : PySem.W.Frag} {a C f : Addr} {o : Obj} {name : Str} {Q : Option Value → Shared → Prop} (hx : s.heap.get? a = some o) (hc : o.cls = .ref C) (k : K.In s.heap) (hf : PySem.W.findIn K (.ref C) name = some (some (.ref f))) (hq : Q (some (.ref f)) s) :
    wpAny M A (specialOf (.ref a) name) Q E s := by
  unfold specialOf
  have L := PySem.W.looks_findIn (M := M) k hf
  exact wpAny_bind (wpAny_typeOf_ref hx (by rw [hc]; exact L.here hq))
theorem fn_obj {K : PySem.W.Frag} {f : Addr} {h : Heap} (k : K.In h) (hf : PySem.W.isFn K (.ref f) = true) : ∃ of, h.get? f = some of ∧ of.cls = .type "function" := by
  have h1 : PySem.W.typeIn K (.ref f) = some (.type "function") := by
    unfold PySem.W.isFn at hf
    exact eq_of_beq hf
  obtain ⟨o, ho, hc⟩ := Option.map_eq_some_iff.mp h1
  exact ⟨o, k _ _ ho, hc⟩
theorem csib_own {K : PySem.W.Frag} {last : Value → List Value → Sem Value} {a C f : Addr} {o : Obj} {name : Str} {Q : Option Value → Shared → Prop} (hx : s.heap.get? a = some o) (hc : o.cls = .ref C) (k : K.In s.heap) (hf : PySem.W.findIn K (.ref C) name = some (some (.ref f))) (hfn : PySem.W.isFn K (.ref f) = true)
    (h : wpAny M A (last (.ref f) [.ref a]) (fun v => Q (some v)) E s) : wpAny M A (callSpecialIfBoundBy? last (.ref a) name) Q E s := by
  obtain ⟨of, hfo, hfc⟩ := fn_obj k hfn
  simp only [callSpecialIfBoundBy?, bindSpecialIfBound?]
  refine wpAny_holding (wpAny_bind (wpAny_bind (sp_own hx hc k hf ?_)))
  refine wpAny_bind (wpAny_askSetting (wpAny_ite ?_))
  have fin : wpAny M A (last (.ref f) [.ref a] >>= fun v => pure (some v)) Q E s := wpAny_bind (wpAny_mono h (fun v s' h' => wpAny_pure h') fun _ _ h' => h')
  split
  · exact wpAny_bind (wpAny_bindSpecial_def hfo hfc (wpAny_pure (by exact fin)))
  · exact wpAny_tryCatch (wpAny_bind (wpAny_bindSpecial_def hfo hfc (wpAny_pure (by exact fin))))
theorem csib_own' {K : PySem.W.Frag} {a C f : Addr} {o : Obj} {name : Str} {Q : Option Value → Shared → Prop} (hx : s.heap.get? a = some o) (hc : o.cls = .ref C) (k : K.In s.heap) (hf : PySem.W.findIn K (.ref C) name = some (some (.ref f))) (hfn : PySem.W.isFn K (.ref f) = true)
    (h : wpAny M A (call (.ref f) [.ref a]) (fun v => Q (some v)) E s) : wpAny M A (callSpecialIfBound? (.ref a) name) Q E s := by
  obtain ⟨of, hfo, hfc⟩ := fn_obj k hfn
  simp only [callSpecialIfBound?, bindSpecialIfBound?]
  refine wpAny_holding (wpAny_bind (wpAny_bind (sp_own hx hc k hf ?_)))
  refine wpAny_bind (wpAny_askSetting (wpAny_ite ?_))
  have fin : wpAny M A (call (.ref f) ([.ref a] ++ []) >>= fun v => pure (some v)) Q E s := wpAny_bind (wpAny_mono h (fun v s' h' => wpAny_pure h') fun _ _ h' => h')
  split
  · exact wpAny_bind (wpAny_bindSpecial_def hfo hfc (wpAny_pure (by exact fin)))
  · exact wpAny_tryCatch (wpAny_bind (wpAny_bindSpecial_def hfo hfc (wpAny_pure (by exact fin))))
/-- the own method of an instance, called below: what it tells, the abstract heap grown -/
theorem own_call {kR m c : Nat} {fa a : Addr} {l : List D} {n : Nat} {gl : List Code} {sp : DSp} {z : D} (F : CalOk (some m) T X.prog X.w X.K X.mg X.base kR fa sp) (hsp : ∀ g, sp [.ins c l] [] g (fun r g' => r = z ∧ g' = g) noE) (hb : Bel X kR A) (hg : A.guards = some gl) (gd : GdE X T n gl H) (hm : m ≤ n)
    (i : Is T X.K H (.ins c l) (.ref a)) (I : Inv X pins σ H s) {Q : Value → Shared → Prop} (q : ∀ v u H' s', Inv X pins σ H' s' → Ext H H' → Is T X.K H' z v → RelV v u → Q u s') : wpAny (model X.prog X.w) A (call (.ref fa) [.ref a]) Q X.xe s := by
  have hq : LSp T X.K sp [] [.ref a] [] H (fun v H' => Is T X.K H' z v ∧ Ext H H') (fun _ _ _ => False) :=
    ⟨[.ins c l], [], fun _ => none, _, _, .cons i .nil, .nil, (fun b o e => by cases e), hsp _, ⟨fun v d H' g' k i' _ ⟨e1, _⟩ => by
      subst e1
      exact ⟨i', fun b o e => (k.fr b o e rfl).1⟩⟩, CtE.no⟩
  refine wpAny_call (codeAny_mono (F A X.stack s H [.ref a] [] [.ref a] [] [] _ _ ⟨hb.room, gl, hg, gd.ok I hm⟩ (hb.env0 I) (.cons rfl .nil) .nil hq) fun r s' h => ?_)
  cases r with
  | error e =>
    obtain ⟨_, _, _, _, _, _, _, _, _, _, _, _, z⟩ := h
    exact z.elim
  | ok fl =>
    cases fl with
    | ret u =>
      obtain ⟨v, H', I', rv, iv, ex⟩ := I.after h
      exact q v u H' s' I' ex iv rv
    | next => exact False.elim h
    | brk => exact False.elim h
    | cont => exact False.elim h
theorem lst_obj (I : Inv X pins σ H s) {a : Addr} {oa : Obj} {xs : List V} (h : H a = some (.frz oa (.lst xs))) : ∃ its na, Vals xs its ∧ s.heap.get? a = some oa ∧ oa.cls = .type "list" ∧ oa.data = .seq its.toArray na := by
  obtain ⟨h1, _, its, na, rv, h2⟩ := I.hok a _ h
  rw [h1] at h2
  cases h2
  exact ⟨its, na, rv, h1, rfl, rfl⟩
theorem rp_lst {kR : Nat} (KC : ClsOk T X.K) {l : List D} {ts : List Str} (hd : dat (.lst l) = true) (hts : ts.length = l.length) (hT : ∀ (i : Nat) d, l[i]? = some d → ∃ t, ts[i]? = some t ∧ RpG X T kR d t) : RpG X T kR (.lst l) (listText ts) := by
  intro n A gl pins σ H v u b s Q hn hb hg gd i r hz I q
  simp only [Is] at i
  obtain ⟨a, xs, rfl, ⟨oa, hfz⟩, il⟩ := i
  cases r
  obtain ⟨its, na, rv, ha, hc, hda⟩ := lst_obj I hfz
  have hu : A.units < cLine := hb.room.units0
  refine wpAny_pyReprUnder_ref (by omega) ?_
  cases its with
  | nil =>
    have hl : l = [] := by have := il.length; rw [rv.length] at this; exact List.length_eq_zero_iff.mp (by simpa using this)
    subst hl
    have : ts = [] := List.length_eq_zero_iff.mp (by simpa using hts)
    subst this
    refine wpAny_pyReprObjUnder_list_empty ⟨oa, ha, hc⟩ hu ha hda ?_
    rw [listText_nil'] at q
    exact ⟨_, _, rfl, q _ ⟨H, I.tok _, fun _ _ e => e⟩⟩
  | cons x its =>
    refine wpAny_pyReprObjUnder_twin (twin := "list.__repr__.under") ⟨oa, ha, hc⟩ F.slot_list_repr.toG rfl hu ?_
    refine call_twin_plain F.plain_list_repr_under F.entry_list_repr_under F.check_list_repr_under ⟨oa, ha, hc⟩ F.slot_list_repr.toG (F.args_list_repr_1 _) ?_
    exact lst_body (R := callEnd _ X.xe) hts hT KC hd hn hb hg gd I hfz il rv hc hda rfl (fun s' u j => ⟨⟨_, _, rfl⟩, _, _, rfl, q s' j⟩) hz
theorem tup_body {kR : Nat} (KC : ClsOk T X.K) {l : List D} {ts : List Str} (hd : dat (.tup l) = true) (hts : ts.length = l.length) (hT : ∀ (i : Nat) d, l[i]? = some d → ∃ t, ts[i]? = some t ∧ RpG X T kR d t) {n b : Nat} {gl : List Code} {a : Addr} {o : Obj} {xs : List V} {its : List Value} {na : Nat} {id : String} {rest : List Value} {R : Result → Shared → Prop}
    (hbel : Bel X (kR + depL l) (A.under (.builtin id ⟨.ref a :: rest, []⟩))) (hgu : (Code.builtin id ⟨.ref a :: rest, []⟩).isGuard = true) (hn : dep (.tup l) ≤ n) (hg : A.guards = some gl) (gd : GdE X T n gl H) (I : Inv X pins σ H s) (hq : SqT X.K H a xs) (il : IsL T X.K H l xs) (rv : Vals xs its)
    (ha : s.heap.get? a = some o) (hda : o.data = .seq its.toArray na) (hE : (fun e s' => R (.error e) s') = X.xe) (hR : ∀ s' u, Grow X pins σ H s' → R (.ok (.ret (.str (tupleText ts) u))) s') (hsz : b + (tupleText ts).length ≤ sizeLine) :
    wpOwn (model X.prog X.w) A (.builtin id ⟨.ref a :: rest, []⟩) (Builtin.tupleReprAt b ⟨[.ref a], []⟩) (fun fin s' => match fin with | .done f => R (.ok f) s' | .again c' => c'.quiet = true ∧ codeAny (model X.prog X.w) A c' R s') (fun e s' => R (.error e) s') s := by
  have ia : Is T X.K H (.tup l) (.ref a) := by simp only [Is]; exact ⟨a, xs, rfl, hq, il⟩
  have dl : depL l < dep (.tup l) := by simp only [dep]; omega
  refine repr_tupG (Grow X pins σ H) ha hda hg (gd.clear I KC hd hn ia rfl) (by rw [hts, il.length, rv.length]) (fun s tk ⟨H', I', e⟩ => ⟨H', I'.tok _, e⟩) ⟨H, I, fun _ _ e => e⟩ (fun i y e => ?_) hR hsz
  rw [hE]
  exact rp_items (pins' := pins) hts hT il rv hbel (guards_under_guard hgu hg) ((gd.mono (by omega) (Kp.refl H)).push hd dl ia) (fun s' j => j) (fun s' s2 H2 j I2 e2 => ⟨H2, I2, e2⟩) i y (by simpa using e)
theorem rp_tup {kR : Nat} (KC : ClsOk T X.K) {l : List D} {ts : List Str} (hd : dat (.tup l) = true) (hts : ts.length = l.length) (hT : ∀ (i : Nat) d, l[i]? = some d → ∃ t, ts[i]? = some t ∧ RpG X T kR d t) : RpG X T kR (.tup l) (tupleText ts) := by
  intro n A gl pins σ H v u b s Q hn hb hg gd i r hz I q
  simp only [Is] at i
  obtain ⟨a, xs, rfl, hq, il⟩ := i
  cases r
  obtain ⟨its, rv, ⟨o, ha, hc, na, hda⟩, _⟩ := I.tuple hq
  have hu : A.units < cLine := hb.room.units0
  refine wpAny_pyReprUnder_ref (by omega) ?_
  refine wpAny_pyReprObjUnder_twin (twin := "tuple.__repr__.under") ⟨o, ha, hc⟩ F.slot_tuple_repr rfl hu ?_
  refine call_twin_own (F.quiet_tuple_repr_under _) F.entry_tuple_repr_under F.check_tuple_repr_under ⟨o, ha, hc⟩ F.slot_tuple_repr (F.args_tuple_repr_1 _) ?_
  have dl : dep (.tup l) = depL l + 1 := by simp only [dep]
  exact tup_body (R := callEnd _ X.xe) KC hd hts hT (bel_tupU (hb.mono (by omega))) (isGuard_tuple_repr_under _) hn hg gd I hq il rv ha hda rfl (fun s' u j => ⟨⟨_, _, rfl⟩, _, _, rfl, q s' j⟩) hz
theorem pairs_at {P : Program} {w : World} : ∀ {es : List DictEntry} {rs : List (Key × Value)} {i : Nat} {e : DictEntry}, Pairs (mixKind P w) es rs → es[i]? = some e → ∃ r, rs[i]? = some r ∧ RelV (kV r.1) e.key ∧ e.val = r.2
  | _, _, i, e, .nil, h => by simp at h
  | _, _, 0, e, .cons (kv := kv) h1 h2 _, h => by
    simp at h
    subst h
    refine ⟨_, rfl, ?_, h2⟩
    rcases keyIs_shape (show keyIs kv.1 _ = true from h1) with ⟨j, t, e1, e2⟩ | ⟨x, t, e1, e2⟩
    · rw [e1, e2]; exact ⟨t, rfl⟩
    · rw [e1, e2]; exact ⟨t, rfl⟩
  | _, _, i + 1, e, .cons _ _ t, h => by
    obtain ⟨r, h1, h2⟩ := pairs_at t (i := i) (by simpa using h)
    exact ⟨r, by simpa using h1, h2⟩
theorem kv_at : ∀ {kvs : List (Key × V)} {rs : List (Key × Value)} {i : Nat} {r : Key × Value}, KV kvs rs → rs[i]? = some r → ∃ q, kvs[i]? = some q ∧ q.1 = r.1 ∧ RelV q.2 r.2
  | _, _, i, _, .nil, h => by simp at h
  | _, _, 0, _, .cons a _, h => by simp at h; subst h; exact ⟨_, rfl, a.1, a.2⟩
  | _, _, i + 1, _, .cons _ t, h => by
    obtain ⟨q, h1, h2⟩ := kv_at (i := i) t (by simpa using h)
    exact ⟨q, by simpa using h1, h2⟩
theorem dct_body {kR : Nat} (KC : ClsOk T X.K) {ks vs : List D} {ta tb : List Str} (hd : dat (.dct ks vs) = true) (hta : ta.length = ks.length) (htb : tb.length = vs.length) (hTa : ∀ (i : Nat) d, ks[i]? = some d → ∃ t, ta[i]? = some t ∧ RpG X T kR d t)
    (hTb : ∀ (i : Nat) d, vs[i]? = some d → ∃ t, tb[i]? = some t ∧ RpG X T kR d t) {n b : Nat} {gl : List Code} {a : Addr} {o : Obj} {kvs : List (Key × V)} {id : String} {rest : List Value} {R : Result → Shared → Prop}
    (hbel : Bel X (kR + max (depL ks) (depL vs)) (A.under (.builtin id ⟨.ref a :: rest, []⟩))) (hgu : (Code.builtin id ⟨.ref a :: rest, []⟩).isGuard = true) (hn : dep (.dct ks vs) ≤ n) (hg : A.guards = some gl) (gd : GdE X T n gl H) (I : Inv X pins σ H s)
    (hfz : H a = some (.frz o (.dK kvs))) (ik : IsL T X.K H ks (kvs.map fun p => kV p.1)) (iv : IsL T X.K H vs (kvs.map (·.2))) (hE : (fun e s' => R (.error e) s') = X.xe) (hR : ∀ s' u, Grow X pins σ H s' → R (.ok (.ret (.str (dictText (ents ta tb)) u))) s') (hsz : b + (dictText (ents ta tb)).length ≤ sizeLine) :
    wpOwn (model X.prog X.w) A (.builtin id ⟨.ref a :: rest, []⟩) (Builtin.dictReprAt b ⟨[.ref a], []⟩) (fun fin s' => match fin with | .done f => R (.ok f) s' | .again c' => c'.quiet = true ∧ codeAny (model X.prog X.w) A c' R s') (fun e s' => R (.error e) s') s := by
  have ia : Is T X.K H (.dct ks vs) (.ref a) := by simp only [Is]; exact ⟨a, o, kvs, rfl, hfz, ik, iv⟩
  have dl : max (depL ks) (depL vs) < dep (.dct ks vs) := by simp only [dep]; omega
  obtain ⟨ha, hz, hsys, rs, rk, o', es, ep, ho', hx, hda, _, hp, _⟩ := I.hok a _ hfz
  rw [ha] at ho'
  cases ho'
  have l1 : rs.length = kvs.length := (Paired.length rk).symm
  have l2 : es.size = rs.length := by rw [← Array.length_toList, hp.length]
  have hlen : (ents ta tb).length = es.size := by
    have e1 := ik.length
    have e2 := iv.length
    simp only [List.length_map] at e1 e2
    rw [ents_len (by omega)]
    omega
  have gd2 := (gd.mono (by omega) (Kp.refl H)).push (n := max (depL ks) (depL vs)) (id := id) (rest := rest) (kw := []) hd dl ia
  have hg2 := guards_under_guard hgu hg
  refine repr_dctG (Grow X pins σ H) (fun s' ⟨H', I', e'⟩ => (I'.hok _ _ (e' _ _ hfz)).1) hx.1 hda hsys hg (gd.clear I KC hd hn ia rfl) hlen (fun s tk ⟨H', I', e⟩ => ⟨H', I'.tok _, e⟩) ⟨H, I, fun _ _ e => e⟩ (fun i e he => ?_) hR hsz
  rw [hE]
  obtain ⟨r, hr, rkey, rval⟩ := pairs_at hp (i := i) (e := e) (by rw [Array.getElem?_toList]; exact he)
  obtain ⟨q, hq, q1, q2⟩ := kv_at rk hr
  obtain ⟨dk, e1, i1⟩ := ik.get' (i := i) (v := kV q.1) (by rw [List.getElem?_map, hq]; rfl)
  obtain ⟨dv, e2, i2⟩ := iv.get' (i := i) (v := q.2) (by rw [List.getElem?_map, hq]; rfl)
  obtain ⟨tk, hk, gk⟩ := hTa i dk e1
  obtain ⟨tv, hv, gv⟩ := hTb i dv e2
  refine ⟨tk, tv, ents_at hk hv, ?_, ?_⟩
  · exact rp_item (pins' := pins) gk (Nat.le_trans (dep_le e1) (Nat.le_max_left _ _)) hbel hg2 gd2 i1 (by rw [q1]; exact rkey) (fun s' j => j) (fun s' s2 H2 j I2 e2 => ⟨H2, I2, e2⟩)
  · exact rp_item (pins' := pins) gv (Nat.le_trans (dep_le e2) (Nat.le_max_right _ _)) hbel hg2 gd2 i2 (by rw [rval]; exact q2) (fun s' j => j) (fun s' s2 H2 j I2 e2 => ⟨H2, I2, e2⟩)
theorem rp_dct {kR : Nat} (KC : ClsOk T X.K) {ks vs : List D} {ta tb : List Str} (hd : dat (.dct ks vs) = true) (hta : ta.length = ks.length) (htb : tb.length = vs.length) (hTa : ∀ (i : Nat) d, ks[i]? = some d → ∃ t, ta[i]? = some t ∧ RpG X T kR d t)
    (hTb : ∀ (i : Nat) d, vs[i]? = some d → ∃ t, tb[i]? = some t ∧ RpG X T kR d t) : RpG X T kR (.dct ks vs) (dictText (ents ta tb)) := by
  intro n A gl pins σ H v u b s Q hn hb hg gd i r hz I q
  simp only [Is] at i
  obtain ⟨a, o, kvs, rfl, hfz, ik, iv⟩ := i
  cases r
  have hu : A.units < cLine := hb.room.units0
  obtain ⟨ha, hz2, hsys, rs, rk, o', es, ep, ho', hx, hda, _⟩ := I.hok a _ hfz
  rw [ha] at ho'
  cases ho'
  refine wpAny_pyReprUnder_ref (by omega) ?_
  refine wpAny_pyReprObjUnder_twin (twin := "dict.__repr__.under") ⟨o, ha, hx.1⟩ F.slot_dict_repr rfl hu ?_
  refine call_twin_own (F.quiet_dict_repr_under _) F.entry_dict_repr_under F.check_dict_repr_under ⟨o, ha, hx.1⟩ F.slot_dict_repr (F.args_dict_repr_1 _) ?_
  have dl : dep (.dct ks vs) = max (depL ks) (depL vs) + 1 := by simp only [dep]
  exact dct_body (R := callEnd _ X.xe) KC hd hta htb hTa hTb (bel_dctU (hb.mono (by omega))) (isGuard_dict_repr_under _) hn hg gd I hfz ik iv rfl (fun s' u j => ⟨⟨_, _, rfl⟩, _, _, rfl, q s' j⟩) hz
theorem rp_ins {kR c : Nat} {w : List Nat} (own : OwnRp w T X.prog X.w X.K X.mg X.base kR) {l : List D} {t : Str} (hw : memN c w = true) (ht : rpT w (.ins c l) = some t) : RpG X T kR (.ins c l) t := by
  intro n A gl pins σ H v u b s Q hn hb hg gd i r hz I q
  have j := i
  simp only [Is] at i
  obtain ⟨a, o, dx, fs, xs, ok, rfl, hfz, _⟩ := i
  cases r
  obtain ⟨f, h1, h2, F⟩ := own.at_ c hw ok
  have hx : s.heap.get? a = some o := (I.hok _ _ hfz).1
  have hc : o.cls = .ref (T.cA c) := by
    obtain ⟨_, _, _, _, h4, _⟩ := I.hok _ _ hfz
    rw [hx] at h4; cases h4; rfl
  refine wpAny_pyReprUnder_ref (by omega) ?_
  unfold pyReprObjUnder pyReprObjBy
  refine wpAny_bind (wpAny_cRoomFor hb.room.units0 ?_)
  refine wpAny_bind (sp_own hx hc I.kIn h1 ?_)
  show wpAny _ _ (if (some (Value.ref f)).isNone = true then _ else _) _ _ _
  rw [if_neg (by simp)]
  refine wpAny_bind (csib_own hx hc I.kIn h1 h2 ?_)
  show wpAny _ _ (call (.ref f) ([.ref a] ++ [])) _ _ _
  have hm : mC c ≤ n := by
    refine Nat.le_trans ?_ hn
    simp only [dep, mC]
    by_cases e : c = 2
    · subst e; simp
    · simp [e]
  refine own_call (z := .str t.cps.toList) F (fun g => ⟨l, t, rfl, rfl, ht, by omega, rfl, rfl⟩) (hb.mono (by omega)) hg gd hm j I fun v u H' s' I' e iv rv => ?_
  simp only [Is, S_list] at iv
  subst iv
  obtain ⟨tk, rfl⟩ := rv
  refine wpAny_bind (wpAny_isInstance (T := "str") (b := true) rfl isSubtype_str_str (wpAny_pure ?_))
  exact ⟨_, _, rfl, q s' ⟨H', I', e⟩⟩
mutual
theorem rp_tree {kR : Nat} {w : List Nat} (KC : ClsOk T X.K) (own : OwnRp w T X.prog X.w X.K X.mg X.base kR) : ∀ (d : D) (t : Str), dat d = true → rpT w d = some t → RpG X T kR d t
  | .non, t, _, h => by
    simp only [rpT] at h; cases h
    exact rp_leaf fun H v u i r _ => by simp only [Is] at i; subst i; cases r; exact .none
  | .bl b, t, _, h => by
    simp only [rpT] at h; cases h
    exact rp_leaf fun H v u i r _ => by simp only [Is] at i; subst i; cases r; exact .bool b
  | .int i, t, _, h => by
    simp only [rpT] at h
    split at h
    · cases h
      rename_i hi
      exact rp_leaf fun H v u i r _ => by simp only [Is] at i; subst i; obtain ⟨tk, rfl⟩ := r; exact .int tk hi
    · cases h
  | .str x, t, _, h => by
    simp only [rpT] at h; cases h
    exact rp_leaf fun H v u i r hz => by simp only [Is] at i; subst i; obtain ⟨tk, rfl⟩ := r; exact .str _ tk hz
  | .tup l, t, hd, h => by
    simp only [rpT] at h
    obtain ⟨ts, e, rfl⟩ := Option.map_eq_some_iff.mp h
    exact rp_tup KC hd (rpL_at e).1 (rp_all KC own l ts hd e)
  | .lst l, t, hd, h => by
    simp only [rpT] at h
    obtain ⟨ts, e, rfl⟩ := Option.map_eq_some_iff.mp h
    exact rp_lst KC hd (rpL_at e).1 (rp_all KC own l ts hd e)
  | .ins c l, t, hd, h => by
    have hw : memN c w = true := by
      simp only [rpT] at h
      split at h
      · assumption
      · cases h
    exact rp_ins own hw h
  | .dct ks vs, t, hd, h => by
    obtain ⟨h1, h2⟩ := Bool.and_eq_true_iff.mp hd
    simp only [rpT] at h
    split at h
    · rename_i a b e1 e2
      cases h
      exact rp_dct KC hd (rpL_at e1).1 (rpL_at e2).1 (rp_all KC own ks a h1 e1) (rp_all KC own vs b h2 e2)
    · cases h
  | .adr _, _, h, _ | .fn _, _, h, _ | .cls _, _, h, _ | .ty _, _, h, _ => by cases h
theorem rp_all {kR : Nat} {w : List Nat} (KC : ClsOk T X.K) (own : OwnRp w T X.prog X.w X.K X.mg X.base kR) : ∀ (l : List D) (ts : List Str), datL l = true → rpL w l = some ts → ∀ (i : Nat) d, l[i]? = some d → ∃ t, ts[i]? = some t ∧ RpG X T kR d t
  | [], _, _, _, i, d, e => by simp at e
  | x :: l, ts, hd, h, i, d, e => by
    simp only [rpL] at h
    obtain ⟨h1, h2⟩ := Bool.and_eq_true_iff.mp hd
    split at h
    · rename_i t ts' e1 e2
      cases h
      cases i with
      | zero => simp at e; subst e; exact ⟨t, rfl, rp_tree KC own x t h1 e1⟩
      | succ i => simpa using rp_all KC own l ts' h2 e2 i d (by simpa using e)
    · cases h
end
end
end Cn

namespace Cn
open PySem PySem.Spec PyProof.Rows L2

/-! ## XU. repr(x) -/
section
variable {X : Cx} {pins : List (Addr × Obj)} {σ : L2.St} {H : Hp} {s : Shared} {a : Addr} {u : HO} {ob : Obj}
theorem HOk.thaw {P : Program} {w : World} {H : Hp} {h : Heap} {a : Addr} {u : HO} {ob : Obj} (ok : HOk P w H h) (e : H a = some (.frz ob u)) : HOk P w (upd H a u) h := fun b q z => by
  have nown : ∀ c y, H c = some (.own y) → c ≠ a := fun c y r z => by subst z; rw [e] at r; cases r
  have ntup : ∀ c xs, H c = some (.tup xs) → c ≠ a := fun c xs r z => by subst z; rw [e] at r; cases r
  by_cases hb : b = a
  · subst hb
    rw [upd_same] at z
    cases z
    exact ObjOk.stay (ok b _ e).2 (fun _ _ _ r => r) (fun c r => by rw [upd_ne (nown c _ r)]; exact r) fun c xs r => by rw [upd_ne (ntup c xs r)]; exact r
  · rw [upd_ne hb] at z
    exact (ok b q z).stay (fun _ _ _ r => r) (fun c r => by rw [upd_ne (nown c _ r)]; exact r) fun c xs r => by rw [upd_ne (ntup c xs r)]; exact r
theorem Inv.thaw (I : Inv X pins σ H s) (e : H a = some (.frz ob u)) (so : Soft u) (h0 : ∀ o v, X.H_0 a ≠ some (.frz o v)) : Inv X pins σ (upd H a u) s where
  ok := I.ok
  os := I.os
  bare := I.bare
  base := {
    keep := I.base.keep
    slot := I.base.slot
    free := fun b o q n hx => by
      have z := I.base.free b o q n hx
      rw [upd_ne fun r => by rw [r, e] at z; cases z]
      exact z
    there := I.base.there
    tups := fun b xs q => by
      have z := I.base.tups b xs q
      rw [upd_ne fun r => by rw [r, e] at z; cases z]
      exact z
    frzs := fun b o v q => by
      have z := I.base.frzs b o v q
      rw [upd_ne fun r => by rw [r] at q; exact h0 _ _ q]
      exact z
    tbls := fun b ps q => by
      obtain ⟨m, z⟩ := I.base.tbls b ps q
      refine ⟨m, ?_⟩
      rw [upd_ne fun r => by rw [r, e] at z; cases z]
      exact z }
  loc := I.loc
  cell := I.cell
  free := by
    rw [upd_ne fun r => by have z := I.free; rw [r, e] at z; cases z]
    exact I.free
  freeC := fun x c q => by
    have z := I.freeC x c q
    rw [upd_ne fun r => by rw [r, e] at z; cases z]
    exact z
  pin := fun p hp => by
    obtain ⟨h1, h2, h3, h4, h5⟩ := I.pin p hp
    refine ⟨h1, ?_, h3, h4, h5⟩
    rw [upd_ne fun r => by rw [r, e] at h2; cases h2]
    exact h2
  hok := HOk.thaw I.hok e
  len := I.len
end
def gmOk (gm : Option Nat) (d : D) : Bool := match gm with
  | none => true
  | some m => Nat.ble (dep d) m
/-- what repr tells, of a list that may change too -/
def rpG (gm : Option Nat) (w : List Nat) (g : G) : D → Option Str
  | .adr a => match g a with
    | some (.lst l) => if (datL l && Nat.ble (dep (.lst l)) 30) && gmOk gm (.lst l) then rpT w (.lst l) else none
    | _ => none
  | d => if (dat d && Nat.ble (dep d) 30) && gmOk gm d then rpT w d else none
def oRepr (gm : Option Nat) (w : List Nat) : DOL := fun ds g Q => match ds with
  | [d] => match rpG gm w g d with
    | some t => t.length ≤ sizeLine ∧ Q (.str t.cps.toList) g
    | none => False
  | _ => False
section
variable {X : Cx} {T : Tab} {pins : List (Addr × Obj)} {σ : L2.St} {H : Hp} {s : Shared} {A : Around} {E : Value → Shared → Prop}
/-- repr of a frozen tree by the built-in -/
theorem rp_call {kR : Nat} {w : List Nat} (KC : ClsOk T X.K) (own : OwnRp w T X.prog X.w X.K X.mg X.base kR) {d : D} {t : Str} (hd : dat d = true) (ht : rpT w d = some t) {n : Nat} {gl : List Code} {v : V} {u : Value} (hn : dep d ≤ n) (hb : Bel X (kR + n + 1) A) (hg : A.guards = some gl)
    (gd : GdE X T n gl H) (i : Is T X.K H d v) (r : RelV v u) (hz : t.length ≤ sizeLine) (I : Inv X pins σ H s) {Q : Value → Shared → Prop} (q : ∀ tk s', Grow X pins σ H s' → Q (.str t tk) s') : wpAny (model X.prog X.w) A (call (.builtin "repr") [u]) Q X.xe s := by
  have hu : A.units + 1 < cLine := by have := hb.room.un; omega
  cases d with
  | adr _ => cases hd
  | fn _ => cases hd
  | cls _ => cases hd
  | ty _ => cases hd
  | exc _ _ => cases hd
  | xcl _ => cases hd
  | xty _ => cases hd
  | dct ks vs =>
    simp only [rpT] at ht
    split at ht
    · rename_i ta tb e1 e2
      cases ht
      simp only [Is] at i
      obtain ⟨a, o, kvs, rfl, hfz, ik, iv⟩ := i
      cases r
      obtain ⟨ha, hz2, hsys, rs, rk, o', es, ep, ho', hx, hda, _⟩ := I.hok a _ hfz
      rw [ha] at ho'
      cases ho'
      obtain ⟨h1, h2⟩ := Bool.and_eq_true_iff.mp hd
      refine call_repr_slot hu ⟨o, ha, hx.1⟩ F.slot_dict_repr ?_
      refine wpAny_call (codeAny_call_builtin_own (Code.quiet_builtin _ (by decide +kernel)) F.entry_dict_repr (F.slot_dict_repr.check _ _ _ _ _ _ _ _ ⟨o, ha, hx.1⟩ (F.args_dict_repr_1 _) ?_))
      have dl : dep (.dct ks vs) = max (depL ks) (depL vs) + 1 := by simp only [dep]
      have hb1 : Bel X (kR + n) A.in1 := hb.in1
      exact dct_body (R := callEnd _ X.xe) (A := A.in1) (b := 0) KC hd (rpL_at e1).1 (rpL_at e2).1 (rp_all KC own ks ta h1 e1) (rp_all KC own vs tb h2 e2) (bel_dct (hb1.mono (by omega))) (isGuard_dict_repr _) hn hg gd I hfz ik iv rfl (fun s' u j => ⟨_, _, rfl, q _ s' j⟩) (by omega)
    · cases ht
  | non =>
    simp only [rpT] at ht; cases ht
    simp only [Is] at i; subst i; cases r
    exact PySem.P.repr_of_none (q _ _ ⟨H, I.tok _, fun _ _ e => e⟩)
  | bl b =>
    simp only [rpT] at ht; cases ht
    simp only [Is] at i; subst i; cases r
    exact PySem.P.repr_of_bool (q _ _ ⟨H, I.tok _, fun _ _ e => e⟩)
  | int j =>
    simp only [rpT] at ht
    split at ht
    · cases ht
      simp only [Is] at i; subst i; obtain ⟨tk, rfl⟩ := r
      exact PySem.P.repr_of_int (by assumption) (q _ _ ⟨H, I.tok _, fun _ _ e => e⟩)
    · cases ht
  | str x =>
    simp only [rpT] at ht; cases ht
    simp only [Is] at i; subst i; obtain ⟨tk, rfl⟩ := r
    exact PySem.P.repr_of_str (q _ _ ⟨H, I.tok _, fun _ _ e => e⟩) hz
  | tup l =>
    simp only [rpT] at ht
    obtain ⟨ts, e, rfl⟩ := Option.map_eq_some_iff.mp ht
    have j := i
    simp only [Is] at i
    obtain ⟨a, xs, rfl, hq, il⟩ := i
    cases r
    obtain ⟨its, rv, ⟨o, ha, hc, na, hda⟩, _⟩ := I.tuple hq
    refine call_repr_slot hu ⟨o, ha, hc⟩ F.slot_tuple_repr ?_
    refine wpAny_call (codeAny_call_builtin_own (Code.quiet_builtin _ (by decide +kernel)) F.entry_tuple_repr (F.slot_tuple_repr.check _ _ _ _ _ _ _ _ ⟨o, ha, hc⟩ (F.args_tuple_repr_1 _) ?_))
    have dl : dep (.tup l) = depL l + 1 := by simp only [dep]
    have hb1 : Bel X (kR + n) A.in1 := hb.in1
    exact tup_body (R := callEnd _ X.xe) (A := A.in1) (b := 0) KC hd (rpL_at e).1 (rp_all KC own l ts hd e) (bel_tup (hb1.mono (by omega))) (isGuard_tuple_repr _) hn hg gd I hq il rv ha hda rfl (fun s' u j => ⟨_, _, rfl, q _ s' j⟩) (by omega)
  | lst l =>
    simp only [rpT] at ht
    obtain ⟨ts, e, rfl⟩ := Option.map_eq_some_iff.mp ht
    have j := i
    simp only [Is] at i
    obtain ⟨a, xs, rfl, ⟨oa, hfz⟩, il⟩ := i
    cases r
    obtain ⟨its, na, rv, ha, hc, hda⟩ := lst_obj I hfz
    have hb1 : Bel X (kR + n) A.in1 := hb.in1
    refine call_repr_slot hu ⟨oa, ha, hc⟩ F.slot_list_repr.toG ?_
    cases its with
    | nil =>
      have hl : l = [] := by have := il.length; rw [rv.length] at this; exact List.length_eq_zero_iff.mp (by simpa using this)
      subst hl
      simp only [rpL] at e
      cases e
      refine call_list_repr_empty ⟨oa, ha, hc⟩ ha hda ?_
      rw [listText_nil'] at q
      exact ⟨_, _, rfl, q _ _ ⟨H, I.tok _, fun _ _ e => e⟩⟩
    | cons x its =>
      refine wpAny_call (codeAny_call_builtin F.slot_list_repr.plain F.entry_list_repr (F.slot_list_repr.check _ _ _ _ _ _ _ _ ⟨oa, ha, hc⟩ (F.args_list_repr_1 _) ?_))
      exact lst_body (R := callEnd _ X.xe) (A := A.in1) (base := 0) (rpL_at e).1 (rp_all KC own l ts hd e) KC hd hn hb1 hg gd I hfz il rv hc hda rfl (fun s' u j => ⟨_, _, rfl, q _ s' j⟩) (by omega)
  | ins c l =>
    have hw : memN c w = true := by
      simp only [rpT] at ht
      split at ht
      · assumption
      · cases ht
    have j := i
    simp only [Is] at i
    obtain ⟨a, o, dx, fs, xs, ok, rfl, hfz, _⟩ := i
    cases r
    obtain ⟨f, h1, h2, FF⟩ := own.at_ c hw ok
    have hx : s.heap.get? a = some o := (I.hok _ _ hfz).1
    have hc : o.cls = .ref (T.cA c) := by
      obtain ⟨_, _, _, _, h4, _⟩ := I.hok _ _ hfz
      rw [hx] at h4; cases h4; rfl
    have hm : mC c ≤ n := by
      refine Nat.le_trans ?_ hn
      simp only [dep, mC]
      by_cases e : c = 2
      · subst e; simp
      · simp [e]
    refine Calls.call_function_entry F.kind_repr F.plain_repr F.entry_repr (F.args_repr1 _) ?_
    unfold Builtin.«repr»
    refine wpAny_bind (m := oneArg "repr" _) (wpAny_pure ?_)
    refine wpAny_bind (wpAny_cRoomFor hu ?_)
    refine wpAny_bind (sp_own hx hc I.kIn h1 ?_)
    show wpAny _ _ (if (some (Value.ref f)).isNone = true then _ else _) _ _ _
    rw [if_neg (by simp)]
    refine wpAny_bind (m := callSpecialIfBound? (.ref a) (Str.ofString "__repr__") _) (csib_own' hx hc I.kIn h1 h2 ?_)
    have hb1 : Bel X (kR + n) A.in1 := hb.in1
    refine own_call (A := A.in1) (z := .str t.cps.toList) FF (fun g => ⟨l, t, rfl, rfl, ht, hz, rfl, rfl⟩) (hb1.mono (by omega)) hg gd hm j I fun v u H' s' I' e iv rv => ?_
    simp only [Is, S_list] at iv
    subst iv
    obtain ⟨tk, rfl⟩ := rv
    refine wpAny_bind (wpAny_isInstance (T := "str") (b := true) rfl isSubtype_str_str ?_)
    exact wpAny_pure ⟨_, rfl, q _ s' ⟨H', I', e⟩⟩
theorem gdE_of {gm : Option Nat} {k : Nat} (r : RmX gm T k X) (I : Inv X pins σ H s) {d : D} (h : gmOk gm d = true) : ∃ n gl, dep d ≤ n ∧ (n = dep d ∨ n ≤ dep d + 0 ∨ True) ∧ X.A.guards = some gl ∧ GdE X T (dep d) gl H := by
  have g := r.rm.gd
  unfold GdX at g
  cases gm with
  | none => exact ⟨dep d, [], Nat.le_refl _, .inr (.inr trivial), g, fun _ _ _ _ hm => by cases hm⟩
  | some m =>
    obtain ⟨gl, h1, h2⟩ := g
    have ex : X.ex = [] := r.ex.resolve_left (fun z => by cases z)
    refine ⟨dep d, gl, Nat.le_refl _, .inr (.inr trivial), h1, fun id c rest kw hm => ?_⟩
    rcases h2 id c rest kw hm with ⟨a, b, cc⟩ | ⟨d', a, b, cc⟩
    · exact .inl ⟨ex, a, b, cc⟩
    · exact .inr ⟨d', a, Nat.lt_of_le_of_lt (Nat.le_of_ble_eq_true h) b, cc.mono (Kp.un I.base)⟩
theorem cRepr {gm : Option Nat} {kR k : Nat} {w : List Nat} (KC : ClsOk T X.K) (own : OwnRp w T X.prog X.w X.K X.mg X.base kR) (rm : RmX gm T k X) (hk : kR + 32 ≤ k) : CallR X (.builtin "repr") (LOL T X.K (oRepr gm w)) := by
  intro pins s σ H xs us Q I rx ⟨ds, g, QD, il, rg, h, c⟩
  unfold oRepr at h
  split at h
  · rename_i d
    obtain ⟨v, rfl, i⟩ := IsL.one il
    obtain ⟨u, rfl, r⟩ := vals1 rx
    split at h
    · rename_i t ht
      obtain ⟨hz, q⟩ := h
      have fin : ∀ {dd : D}, dat dd = true → dep dd ≤ 30 → gmOk gm dd = true → rpT w dd = some t → ∀ {H1 : Hp}, Inv X pins σ H1 s → Is T X.K H1 dd v → (∀ tk s', Grow X pins σ H1 s' → EP X pins σ Q (.str t tk) s') →
          wpAny (model X.prog X.w) X.A (call (.builtin "repr") [u]) (EP X pins σ Q) X.xe s := fun {dd} hd hn hg ht H1 I1 i1 q1 => by
        obtain ⟨_, gl, _, _, g1, g2⟩ := gdE_of rm I1 hg
        exact rp_call KC own hd ht (Nat.le_refl _) ⟨rm.rm.room.mono (by omega), rfl⟩ g1 g2 i1 r hz I1 q1
      unfold rpG at ht
      split at ht
      · rename_i a
        split at ht
        · rename_i l hl
          split at ht
          · rename_i hcnd
            simp only [Bool.and_eq_true] at hcnd
            obtain ⟨⟨hd, hn⟩, hg⟩ := hcnd
            simp only [Is] at i
            subst i
            obtain ⟨ys, hx, j⟩ := rg a _ hl
            obtain ⟨ob, ho⟩ := obj_of I.hok hx trivial
            have kp : Kp H (upd H a (.frz ob (.lst ys))) := Kp.frz hx trivial
            refine fin (dd := .lst l) hd (Nat.le_of_ble_eq_true hn) hg ht (Cn.Inv.freeze I hx trivial ho) (by simp only [Is]; exact ⟨a, ys, rfl, ⟨ob, upd_same⟩, j.mono kp⟩) fun tk s' ⟨H', I', e'⟩ => ?_
            have ha := e' a _ upd_same
            have h0 : ∀ o v, X.H_0 a ≠ some (.frz o v) := fun o v z => by have := I.base.frzs a o v z; rw [hx] at this; cases this
            have I2 := Cn.Inv.thaw I' ha trivial h0
            have ext : Ext H (upd H' a (.lst ys)) := fun b o e => by
              by_cases hb : b = a
              · subst hb; rw [upd_same]; rw [hx] at e; exact e
              · rw [upd_ne hb]; exact e' b o (by rw [upd_ne hb]; exact e)
            refine ⟨.str t, _, I2, ⟨tk, rfl⟩, c.go _ (.str t.cps.toList) _ g ⟨Cn.Ext.kp ext, fun b o e n => ⟨ext b o e, n⟩⟩ (by simp only [Is, S_list]) (fun b o e => ?_) q⟩
            obtain ⟨z, hz'⟩ := (rg b o e).some
            exact (rg b o e).move (Cn.Ext.kp ext) ((ext b _ hz').trans hz'.symm)
          · cases ht
        · cases ht
      · split at ht
        · rename_i hcnd
          simp only [Bool.and_eq_true] at hcnd
          obtain ⟨⟨hd, hn⟩, hg⟩ := hcnd
          refine fin hd (Nat.le_of_ble_eq_true hn) hg ht I i fun tk s' ⟨H', I', ext⟩ => ?_
          refine ⟨.str t, H', I', ⟨tk, rfl⟩, c.go _ (.str t.cps.toList) _ g ⟨Cn.Ext.kp ext, fun b o e n => ⟨ext b o e, n⟩⟩ (by simp only [Is, S_list]) (fun b o e => ?_) q⟩
          obtain ⟨z, hz'⟩ := (rg b o e).some
          exact (rg b o e).move (Cn.Ext.kp ext) ((ext b _ hz').trans hz'.symm)
        · cases ht
    · exact h.elim
  · exact h.elim
end
end Cn

namespace Cn
open PySem PySem.Spec PyProof.Rows L2

/-! ## XV. f-strings -/
def dFmt (te : DTE) : DTE := fun C ρ g Q E => te C ρ g (fun d g1 => match d with
  | .str s => s.length ≤ sizeLine ∧ Q (.str s) g1
  | .int i => i.natAbs.log2 < 1920 ∧ Q (.str (intS i)) g1
  | _ => False) E
def dFmtR (gm : Option Nat) (w : List Nat) (te : DTE) : DTE := fun C ρ g Q E => te C ρ g (fun d g1 => match rpG gm w g1 d with
  | some t => t.length ≤ sizeLine ∧ Q (.str t.cps.toList) g1
  | none => False) E
def dJn : List DTE → List Nat → DTE
  | [], acc => fun _ _ g Q _ => Q (.str acc) g
  | t :: ts, acc => fun C ρ g Q E => t C ρ g (fun d g1 => match d with
    | .str s => acc.length + s.length ≤ sizeLine ∧ dJn ts (acc ++ s) C ρ g1 Q E
    | _ => False) E
def dJoin (ts : List DTE) : DTE := dJn ts []
section
variable {X : Cx} {T : Tab} {C : Cal} {W : WX} {e : Expr} {te : DTE} {pos : Pos} {pins : List (Addr × Obj)} {σ : L2.St} {H : Hp} {s : Shared}
theorem de_fmt (he : PE X e (LE T X.K C W te)) : PE X (.FormattedValue e (-1) none pos) (LE T X.K C W (dFmt te)) := by
  refine PE.imp (pe_fmt he) fun σ H Q ⟨ρ, g, QD, ED, rs, rg, h, c, ce⟩ => ⟨ρ, g, _, ED, rs, rg, h, ⟨fun v d H1 g1 k1 i1 rg1 h1 => ?_⟩, ce⟩
  split at h1
  · simp only [Is] at i1
    exact .inl ⟨_, i1, by rw [S_len]; exact h1.1, c.go _ _ _ _ k1 (by simp only [Is]) rg1 h1.2⟩
  · simp only [Is] at i1
    exact .inr ⟨_, i1, h1.1, c.go _ _ _ _ k1 (by simp only [Is]; rw [S_int]) rg1 h1.2⟩
  · exact h1.elim
/-- repr of a frozen tree, as the model's own word -/
theorem rp_obj {kR : Nat} {w : List Nat} {A : Around} (KC : ClsOk T X.K) (own : OwnRp w T X.prog X.w X.K X.mg X.base kR) {d : D} {t : Str} (hd : dat d = true) (ht : rpT w d = some t) {n : Nat} {gl : List Code} {v : V} {u : Value} (hn : dep d ≤ n) (hb : Bel X (kR + n) A) (hg : A.guards = some gl)
    (gd : GdE X T n gl H) (i : Is T X.K H d v) (r : RelV v u) (hz : t.length ≤ sizeLine) (I : Inv X pins σ H s) {Q : Value → Shared → Prop} (q : ∀ tk s', Grow X pins σ H s' → Q (.str t tk) s') : wpAny (model X.prog X.w) A (pyReprObj u) Q X.xe s := by
  have hu : A.units < cLine := hb.room.units0
  cases d with
  | adr _ => cases hd
  | fn _ => cases hd
  | cls _ => cases hd
  | ty _ => cases hd
  | exc _ _ => cases hd
  | xcl _ => cases hd
  | xty _ => cases hd
  | dct ks vs =>
    simp only [rpT] at ht
    split at ht
    · rename_i ta tb e1 e2
      cases ht
      simp only [Is] at i
      obtain ⟨a, o, kvs, rfl, hfz, ik, iv⟩ := i
      cases r
      obtain ⟨ha, hz2, hsys, rs, rk, o', es, ep, ho', hx, hda, _⟩ := I.hok a _ hfz
      rw [ha] at ho'
      cases ho'
      obtain ⟨h1, h2⟩ := Bool.and_eq_true_iff.mp hd
      refine wpAny_pyReprObj_slot hu ⟨o, ha, hx.1⟩ F.slot_dict_repr ?_
      refine wpAny_call (codeAny_call_builtin_own (Code.quiet_builtin _ (by decide +kernel)) F.entry_dict_repr (F.slot_dict_repr.check _ _ _ _ _ _ _ _ ⟨o, ha, hx.1⟩ (F.args_dict_repr_1 _) ?_))
      have dl : dep (.dct ks vs) = max (depL ks) (depL vs) + 1 := by simp only [dep]
      exact dct_body (R := callEnd _ X.xe) (b := 0) KC hd (rpL_at e1).1 (rpL_at e2).1 (rp_all KC own ks ta h1 e1) (rp_all KC own vs tb h2 e2) (bel_dct (hb.mono (by omega))) (isGuard_dict_repr _) hn hg gd I hfz ik iv rfl (fun s' u j => ⟨_, _, rfl, q _ s' j⟩) (by omega)
    · cases ht
  | non =>
    simp only [rpT] at ht; cases ht
    simp only [Is] at i; subst i; cases r
    exact pyReprObj_none (q _ _ ⟨H, I.tok _, fun _ _ e => e⟩)
  | bl b =>
    simp only [rpT] at ht; cases ht
    simp only [Is] at i; subst i; cases r
    exact pyReprObj_bool (q _ _ ⟨H, I.tok _, fun _ _ e => e⟩)
  | int j =>
    simp only [rpT] at ht
    split at ht
    · cases ht
      simp only [Is] at i; subst i; obtain ⟨tk, rfl⟩ := r
      exact pyReprObj_int (by assumption) (q _ _ ⟨H, I.tok _, fun _ _ e => e⟩)
    · cases ht
  | str x =>
    simp only [rpT] at ht; cases ht
    simp only [Is] at i; subst i; obtain ⟨tk, rfl⟩ := r
    exact pyReprObj_str (q _ _ ⟨H, I.tok _, fun _ _ e => e⟩) hz
  | tup l =>
    simp only [rpT] at ht
    obtain ⟨ts, e, rfl⟩ := Option.map_eq_some_iff.mp ht
    have j := i
    simp only [Is] at i
    obtain ⟨a, xs, rfl, hq, il⟩ := i
    cases r
    obtain ⟨its, rv, ⟨o, ha, hc, na, hda⟩, _⟩ := I.tuple hq
    refine wpAny_pyReprObj_slot hu ⟨o, ha, hc⟩ F.slot_tuple_repr ?_
    refine wpAny_call (codeAny_call_builtin_own (Code.quiet_builtin _ (by decide +kernel)) F.entry_tuple_repr (F.slot_tuple_repr.check _ _ _ _ _ _ _ _ ⟨o, ha, hc⟩ (F.args_tuple_repr_1 _) ?_))
    have dl : dep (.tup l) = depL l + 1 := by simp only [dep]
    exact tup_body (R := callEnd _ X.xe) (b := 0) KC hd (rpL_at e).1 (rp_all KC own l ts hd e) (bel_tup (hb.mono (by omega))) (isGuard_tuple_repr _) hn hg gd I hq il rv ha hda rfl (fun s' u j => ⟨_, _, rfl, q _ s' j⟩) (by omega)
  | lst l =>
    simp only [rpT] at ht
    obtain ⟨ts, e, rfl⟩ := Option.map_eq_some_iff.mp ht
    have j := i
    simp only [Is] at i
    obtain ⟨a, xs, rfl, ⟨oa, hfz⟩, il⟩ := i
    cases r
    obtain ⟨its, na, rv, ha, hc, hda⟩ := lst_obj I hfz
    refine wpAny_pyReprObj_slot hu ⟨oa, ha, hc⟩ F.slot_list_repr.toG ?_
    cases its with
    | nil =>
      have hl : l = [] := by have := il.length; rw [rv.length] at this; exact List.length_eq_zero_iff.mp (by simpa using this)
      subst hl
      simp only [rpL] at e
      cases e
      refine call_list_repr_empty ⟨oa, ha, hc⟩ ha hda ?_
      rw [listText_nil'] at q
      exact ⟨_, _, rfl, q _ _ ⟨H, I.tok _, fun _ _ e => e⟩⟩
    | cons x its =>
      refine wpAny_call (codeAny_call_builtin F.slot_list_repr.plain F.entry_list_repr (F.slot_list_repr.check _ _ _ _ _ _ _ _ ⟨oa, ha, hc⟩ (F.args_list_repr_1 _) ?_))
      exact lst_body (R := callEnd _ X.xe) (base := 0) (rpL_at e).1 (rp_all KC own l ts hd e) KC hd hn hb hg gd I hfz il rv hc hda rfl (fun s' u j => ⟨_, _, rfl, q _ s' j⟩) (by omega)
  | ins c l =>
    have hw : memN c w = true := by
      simp only [rpT] at ht
      split at ht
      · assumption
      · cases ht
    have j := i
    simp only [Is] at i
    obtain ⟨a, o, dx, fs, xs, ok, rfl, hfz, _⟩ := i
    cases r
    obtain ⟨f, h1, h2, FF⟩ := own.at_ c hw ok
    have hx : s.heap.get? a = some o := (I.hok _ _ hfz).1
    have hc : o.cls = .ref (T.cA c) := by
      obtain ⟨_, _, _, _, h4, _⟩ := I.hok _ _ hfz
      rw [hx] at h4; cases h4; rfl
    have hm : mC c ≤ n := by
      refine Nat.le_trans ?_ hn
      simp only [dep, mC]
      by_cases e : c = 2
      · subst e; simp
      · simp [e]
    unfold pyReprObj
    refine wpAny_bind (wpAny_cRoomFor hu ?_)
    refine wpAny_bind (sp_own hx hc I.kIn h1 ?_)
    show wpAny _ _ (if (some (Value.ref f)).isNone = true then _ else _) _ _ _
    rw [if_neg (by simp)]
    refine wpAny_bind (m := callSpecialIfBound? (.ref a) (Str.ofString "__repr__") _) (csib_own' hx hc I.kIn h1 h2 ?_)
    refine own_call (z := .str t.cps.toList) FF (fun g => ⟨l, t, rfl, rfl, ht, hz, rfl, rfl⟩) (hb.mono (by omega)) hg gd hm j I fun v u H' s' I' e iv rv => ?_
    simp only [Is, S_list] at iv
    subst iv
    obtain ⟨tk, rfl⟩ := rv
    exact wpAny_bind (wpAny_isInstance (T := "str") (b := true) rfl isSubtype_str_str (wpAny_pure (q _ s' ⟨H', I', e⟩)))
/-- what repr does to the state, whatever may change -/
theorem rp_any {gm : Option Nat} {k kR : Nat} {w : List Nat} (rm : RmX gm T k X) {g : G} {d : D} {t : Str} {v : V} (ht : rpG gm w g d = some t) (rg : RG T X.K g H) (i : Is T X.K H d v) (I : Inv X pins σ H s) {P : Prop}
    (fin : ∀ {dd : D} {H1 : Hp}, dat dd = true → dep dd ≤ 30 → gmOk gm dd = true → rpT w dd = some t → Inv X pins σ H1 s → Is T X.K H1 dd v → (∀ s', Grow X pins σ H1 s' → ∃ H', Inv X pins σ H' s' ∧ Ext H H' ∧ RG T X.K g H') → P) : P := by
  have rgE : ∀ {H' : Hp}, Ext H H' → RG T X.K g H' := fun {H'} ext b o e => by
    obtain ⟨z, hz'⟩ := (rg b o e).some
    exact (rg b o e).move (Cn.Ext.kp ext) ((ext b _ hz').trans hz'.symm)
  unfold rpG at ht
  split at ht
  · rename_i a
    split at ht
    · rename_i l hl
      split at ht
      · rename_i hcnd
        simp only [Bool.and_eq_true] at hcnd
        obtain ⟨⟨hd, hn⟩, hg⟩ := hcnd
        simp only [Is] at i
        subst i
        obtain ⟨ys, hx, j⟩ := rg a _ hl
        obtain ⟨ob, ho⟩ := obj_of I.hok hx trivial
        have kp : Kp H (upd H a (.frz ob (.lst ys))) := Kp.frz hx trivial
        refine fin (dd := .lst l) hd (Nat.le_of_ble_eq_true hn) hg ht (Cn.Inv.freeze I hx trivial ho) (by simp only [Is]; exact ⟨a, ys, rfl, ⟨ob, upd_same⟩, j.mono kp⟩) fun s' ⟨H', I', e'⟩ => ?_
        have ha := e' a _ upd_same
        have h0 : ∀ o v, X.H_0 a ≠ some (.frz o v) := fun o v z => by have := I.base.frzs a o v z; rw [hx] at this; cases this
        have I2 := Cn.Inv.thaw I' ha trivial h0
        have ext : Ext H (upd H' a (.lst ys)) := fun b o e => by
          by_cases hb : b = a
          · subst hb; rw [upd_same]; rw [hx] at e; exact e
          · rw [upd_ne hb]; exact e' b o (by rw [upd_ne hb]; exact e)
        exact ⟨_, I2, ext, rgE ext⟩
      · cases ht
    · cases ht
  · split at ht
    · rename_i hcnd
      simp only [Bool.and_eq_true] at hcnd
      obtain ⟨⟨hd, hn⟩, hg⟩ := hcnd
      exact fin hd (Nat.le_of_ble_eq_true hn) hg ht I i fun s' ⟨H', I', ext⟩ => ⟨H', I', ext, rgE ext⟩
    · cases ht
theorem de_fmtR {gm : Option Nat} {kR k : Nat} {w : List Nat} (KC : ClsOk T X.K) (own : OwnRp w T X.prog X.w X.K X.mg X.base kR) (rm : RmX gm T k X) (hk : kR + 32 ≤ k) (he : PE X e (LE T X.K C W te)) : PE X (.FormattedValue e 114 none pos) (LE T X.K C W (dFmtR gm w te)) := by
  refine ⟨fun pins s σ H Q I ⟨ρ, g, QD, ED, rs, rg, h, c, ce⟩ => ?_⟩
  refine wpAny_FormattedValue_repr (thn (he.run pins s σ H (fun v H1 => ∃ d g1, Kg g H g1 H1 ∧ Is T X.K H1 d v ∧ RG T X.K g1 H1 ∧ (match rpG gm w g1 d with
    | some t => t.length ≤ sizeLine ∧ QD (.str t.cps.toList) g1
    | none => False)) I ⟨ρ, g, _, ED, rs, rg, h, ⟨fun v d H1 g1 k1 i1 rg1 h1 => ⟨d, g1, k1, i1, rg1, h1⟩⟩, ce⟩) fun u s1 ⟨v, H1, I1, r1, d, g1, k1, i1, rg1, h1⟩ => ?_)
  split at h1
  · rename_i t ht
    obtain ⟨hz, q⟩ := h1
    refine rp_any (kR := kR) rm ht rg1 i1 I1 fun {dd H2} hd hn hg ht I2 i2 back => ?_
    obtain ⟨_, gl, _, _, g1', g2'⟩ := gdE_of rm I2 hg
    refine rp_obj KC own hd ht (Nat.le_refl _) ⟨rm.rm.room.mono (by omega), rfl⟩ g1' g2' i2 r1 hz I2 fun tk s' gr => ?_
    obtain ⟨H', I', ext, rg'⟩ := back s' gr
    have fin : ∀ tk' s2, Inv X pins σ H' s2 → EP X pins σ Q (.str t tk') s2 := fun tk' s2 I3 => ⟨.str t, H', I3, ⟨tk', rfl⟩, c.go _ (.str t.cps.toList) _ g1 ⟨k1.kp.trans (Cn.Ext.kp ext), fun b o e n => by
      obtain ⟨z1, z2⟩ := k1.fr b o e n
      exact ⟨ext b o z1, z2⟩⟩ (by simp only [Is, S_list]) rg' q⟩
    exact wpAny_formatField_str (fin _ _ I') (fin _ _ (I'.tok _)) hz
  · exact h1.elim
/-- the parts one behind the other -/
theorem js_of : ∀ {ts : List DTE} {acc : List Nat} {σ : L2.St} {H : Hp} {Q : VK} {ρ : R} {g : G} {QD : QT} {ED : ET}, RS T X.K H ρ σ → RG T X.K g H → CtE T X.K g H ED (fun cls dd H' => W cls dd σ H') → dJn ts acc C ρ g QD ED → Ct T X.K g H QD Q →
    tJs (ts.map (LE T X.K C W)) (S acc) σ H (fun out H1 => Q (.str out) H1)
  | [], acc, σ, H, Q, ρ, g, QD, ED, rs, rg, ce, h, c => c.is (d := .str acc) (by simp only [Is]) rg h
  | t :: ts, acc, σ, H, Q, ρ, g, QD, ED, rs, rg, ce, h, c => by
    refine ⟨ρ, g, _, ED, rs, rg, h, ⟨fun v d H1 g1 k1 i1 rg1 h1 => ?_⟩, ce⟩
    split at h1
    · rename_i s
      simp only [Is] at i1
      refine ⟨S s, i1, by rw [S_app, S_len, List.length_append]; exact h1.1, ?_⟩
      rw [S_app]
      exact js_of (rs.mono k1.kp) rg1 (ce.mono k1) h1.2 (c.mono k1)
    · exact h1.elim
theorem pj_of {f : Expr → DTE} (h : ∀ e, PE X e (LE T X.K C W (f e))) : ∀ vs : List Expr, PJ X vs ((vs.map f).map (LE T X.K C W))
  | [] => .nil
  | v :: vs => .cons (h v) (pj_of h vs)
theorem de_join {f : Expr → DTE} (h : ∀ e, PE X e (LE T X.K C W (f e))) {v1 v2 : Expr} {rest : List Expr} : PE X (.JoinedStr (v1 :: v2 :: rest) pos) (LE T X.K C W (dJoin ((v1 :: v2 :: rest).map f))) :=
  PE.imp (pe_joined (pj_of h (v1 :: v2 :: rest))) fun σ H Q ⟨ρ, g, QD, ED, rs, rg, h, c, ce⟩ => js_of (acc := []) rs rg ce h c
theorem de_join1 (he : PE X e (LE T X.K C W te)) : PE X (.JoinedStr [e] pos) (LE T X.K C W te) := pe_joined1 he
end
end Cn

namespace Cn
open PySem PySem.Spec PyProof.Rows L2
/-! ## SO. sorted, with a key and without -/
mutual
/-- no list within -/
def noLs : D → Bool
  | .tup l => noLsL l
  | .lst _ => false
  | _ => true
def noLsL : List D → Bool
  | [] => true
  | d :: ds => noLs d && noLsL ds
end
structure SrtOk (ks : List D) : Prop where
  pure : ∀ d ∈ ks, pureD 6 d = true
  nol : ∀ d ∈ ks, noLs d = true
  alike : PySem.W.AllAlike (ks.map toP)
  sor : PySem.W.Sortable (ks.map toP)
def sortD (l : List D) : List D := l.mergeSort (PySem.W.dataLe false toP)
def sortDK (ks l : List D) : List D := ((l.zip ks).mergeSort (PySem.W.dataLe false fun p => toP p.2)).map (·.1)
section
variable {X : Cx} {T : Tab} {pins : List (Addr × Obj)} {σ : L2.St} {H : Hp} {s : Shared} {A : Around}
/-- a value of a tree -/
def Rd1 (T : Tab) (K : PySem.W.Frag) (H : Hp) (v : Value) (d : D) : Prop := ∃ x, RelV x v ∧ Is T K H d x
theorem Rd1.mono {H' : Hp} {K : PySem.W.Frag} (k : Kp H H') {v : Value} {d : D} : Rd1 T K H v d → Rd1 T K H' v d
  | ⟨x, r, i⟩ => ⟨x, r, i.mono k⟩
theorem each_of {K : PySem.W.Frag} : ∀ {ds : List D} {xs : List V} {vs : List Value}, IsL T K H ds xs → Vals xs vs → PySem.W.EachIs (Rd1 T K H) vs ds
  | [], xs, vs, i, r => by simp only [IsL] at i; subst i; cases r; exact .nil
  | d :: ds, xs, vs, i, r => by
    simp only [IsL] at i
    obtain ⟨v, ws, rfl, a, b⟩ := i
    cases r with
    | cons h t => exact .cons ⟨v, h, a⟩ (each_of b t)
theorem of_each {K : PySem.W.Frag} {α : Type} {f : α → D} : ∀ {bs : List α} {vs : List Value}, PySem.W.EachIs (fun v b => Rd1 T K H v (f b)) vs bs → ∃ xs, IsL T K H (bs.map f) xs ∧ Vals xs vs
  | [], vs, h => by cases h; exact ⟨[], .nil, .nil⟩
  | b :: bs, vs, h => by
    cases h with
    | cons h t =>
      obtain ⟨x, r, i⟩ := h
      obtain ⟨xs, j, r2⟩ := of_each t
      exact ⟨x :: xs, .cons i j, .cons r r2⟩
theorem Rd1.reads (I : Inv X pins σ H s) {d : D} {v : Value} (h : pureD 6 d = true) : Rd1 T X.K H v d → ∃ as, Reads s.heap v (toP d) as
  | ⟨x, r, i⟩ => Dp.reads I _ _ _ (dp_of _ _ _ h i) r
theorem each_reads (I : Inv X pins σ H s) : ∀ {ds : List D} {vs : List Value}, (∀ d ∈ ds, pureD 6 d = true) → PySem.W.EachIs (Rd1 T X.K H) vs ds → PySem.W.EachIs (fun v b => ∃ as, Reads s.heap v (toP b) as) vs ds
  | [], _, _, h => by cases h; exact .nil
  | d :: ds, _, hp, h => by
    cases h with
    | cons h t => exact .cons (h.reads I (hp d List.mem_cons_self)) (each_reads I (fun x hx => hp x (List.mem_cons_of_mem _ hx)) t)
theorem sort_perm {l : List D} : (sortD l).Perm l := List.mergeSort_perm _ _
/-- sorted(l) -/
theorem sorted_run0 {l : List D} {a : Addr} {xs : List V} {Q : VK} (hu : X.A.units + 64 < cLine) (I : Inv X pins σ H s) (hs : SqL X.K H a xs) (il : IsL T X.K H l xs) (ok : SrtOk l)
    (q : ∀ ys p, IsL T X.K H (sortD l) ys → H p = none → Q (.ref p) (upd H p (.lst ys))) : wpAny (model X.prog X.w) X.A (call (.builtin "sorted") [.ref a]) (EP X pins σ Q) X.xe s := by
  obtain ⟨its, rv, hl, hz⟩ := I.list hs
  have hlen : l.length = its.length := il.length.trans rv.length
  have hzl : l.length ≤ sizeLine := by rw [il.length]; exact hz
  refine PySem.W.sorted_data (enc := toP) (R := Rd1 T X.K H) hl.isList (each_of il rv) (each_reads I ok.pure (each_of il rv)) ok.alike ok.sor hzl (fun b hb => ?_) fun out ho eo => ?_
  · have := (canLay_of 6 b (ok.pure b hb)).2
    omega
  · obtain ⟨ys, j, r2⟩ := of_each (f := id) eo
    rw [List.map_id] at j
    obtain ⟨ep, he'⟩ := PyProof.Rows.sortedAll_at s.heap its out.toArray
    have hy : ys.length ≤ sizeLine := by rw [r2.length, ho]; exact hzl
    exact ⟨.ref _, upd H (s.heap.objs.size + 1) (.lst ys), I.laid (t' := s.toks) (fun _ _ => PyProof.Rows.sortedAll_old) (Nat.le_succ _) ⟨hy, out, ep, r2, he'⟩, rfl, q _ _ j (I.hok.fresh (Nat.le_succ _))⟩
end
end Cn

namespace Cn
open PySem PySem.Spec PyProof.Rows L2 PySem.W
section
variable {X : Cx} {T : Tab} {pins : List (Addr × Obj)} {σ : L2.St} {H : Hp} {s : Shared} {A : Around}
/-- a def called below, that owns nothing: what it tells, the abstract heap grown -/
theorem fn_call {gm : Option Nat} {k : Nat} {fa : Addr} {sp : DSp} {d z : D} {v : V} {u : Value} {E : Value → Shared → Prop} (F : CalOk gm T X.prog X.w X.K X.mg X.base k fa sp) (hsp : sp [d] [] (fun _ => none) (fun r _ => r = z) noE) (hR : Rm gm T X.K k A s H)
    (hE : Env0 X.prog X.w X.K X.mg X.base A X.stack s H) (i : Is T X.K H d v) (rv : RelV v u) (I : Inv X pins σ H s) {Q : Value → Shared → Prop} (q : ∀ v' u' H' s', Inv X pins σ H' s' → Ext H H' → Is T X.K H' z v' → RelV v' u' → Q u' s') : wpAny (model X.prog X.w) A (call (.ref fa) [u]) Q E s := by
  have hq : LSp T X.K sp [] [v] [] H (fun v H' => Is T X.K H' z v ∧ Ext H H') (fun _ _ _ => False) :=
    ⟨[d], [], fun _ => none, _, _, .cons i .nil, .nil, (fun b o e => by cases e), hsp, ⟨fun v d H' g' k i' _ e1 => by
      subst e1
      exact ⟨i', fun b o e => (k.fr b o e rfl).1⟩⟩, CtE.no⟩
  refine wpAny_call (codeAny_mono (F A X.stack s H [u] [] [v] [] [] _ _ hR hE (.cons rv .nil) .nil hq) fun r s' h => ?_)
  cases r with
  | error e =>
    obtain ⟨_, _, _, _, _, _, _, _, _, _, _, _, z⟩ := h
    exact z.elim
  | ok fl =>
    cases fl with
    | ret u =>
      obtain ⟨v, H', I', rv, iv, ex⟩ := I.after h
      exact q v u H' s' I' ex iv rv
    | next => exact False.elim h
    | brk => exact False.elim h
    | cont => exact False.elim h
theorem collect_tup {prog : Program} {w : World} {l : Addr} {vs : List Value} {E : Value → Shared → Prop} {Q : List Value → Shared → Prop} (ht : IsTup s.heap l vs.toArray)
    (h : Q vs { s with heap := (s.heap.push (seqObj "list" #[] 0)).update s.heap.objs.size (Obj.mapSeq (· ++ vs.toArray)) }) (hz : vs.length ≤ sizeLine) : wpAny (model prog w) A (collect (.ref l)) Q E s := by
  obtain ⟨ob, e0, e1, nn, e2⟩ := id ht
  unfold collect; refine wpAny_bind (wpAny_runValue (codeAny_builtin entry_proto_collect' ?_))
  show wpAny _ _ (do again (.builtin "list.__iadd__" ⟨[← newList [], .ref l], []⟩)) _ _ _; refine wpAny_bind (wpAny_newList (wpAny_pure ⟨Code.quiet_builtin _ (by decide +kernel), codeAny_builtin entry_list_iadd' ?_⟩))
  show wpAny _ _ (Builtin.List.listExtendWith (.ref s.heap.objs.size) (.ref l) (.ref s.heap.objs.size)) _ _ _; unfold Builtin.List.listExtendWith
  have e0' : (s.heap.push (seqObj "list" #[] 0)).get? l = some ob := Heap.get?_push_of_some _ e0
  refine wpAny_bind (wpAny_typeOf (T := "tuple") ⟨ob, e0', e1⟩ ?_)
  have hb : (Value.type "tuple" == Value.type "tuple") = true := rfl
  rw [if_pos (by rw [hb]; simp)]; refine wpAny_bind (listItems_at e0' e2 ?_)
  refine wpAny_bind (listItems_at (n := 0) (xs := #[]) (Heap.get?_push_size _ rfl) rfl ?_); rw [if_neg (by simp)]
  refine wpAny_bind (listUpdate_at (n := 0) (xs := #[]) (Heap.get?_push_size _ rfl) rfl ?_ (Nat.zero_le _) (by show (#[] ++ vs.toArray).size ≤ sizeLine + 1; simp only [Array.size_append, List.size_toArray, List.length_nil]; omega))
  refine wpAny_pure ?_; show wpAny (model prog w) A (do
      let ox ← load s.heap.objs.size
      match ox.data with
      | .seq ys _ => pure ys.toList
      | _ => unsupported "internal:collect") Q E _
  refine wpAny_bind (wpAny_load (get?_update_seq (Heap.get?_push_size _ rfl) _) ?_); show wpAny _ _ (pure ((#[] : Array Value) ++ vs.toArray).toList) Q E _
  rw [show ((#[] : Array Value) ++ vs.toArray).toList = vs by simp]; exact wpAny_pure h
/-- sorted(..) from what is collected -/
theorem sorted_from {prog : Program} {w : World} {u : Value} {vs : List Value} {kw : List (Str × Value)} {E : Value → Shared → Prop} {Q : Value → Shared → Prop}
    (hc : ∀ (B : Around) (Q' : List Value → Shared → Prop) (E' : Value → Shared → Prop), Q' vs { s with heap := (s.heap.push (seqObj "list" #[] 0)).update s.heap.objs.size (Obj.mapSeq (· ++ vs.toArray)) } → wpAny (model prog w) B (collect u) Q' E' s)
    (hL : vs.length ≤ sizeLine) (ha1 : argsOk "sorted" ⟨[u], kw⟩) (ha2 : ∀ x, argsOk "list.sort" ⟨[.ref x], kw⟩)
    (body : ∀ E' : Value → Shared → Prop, wpAny (model prog w) A.in1.in1 (Builtin.«list.sort» ⟨[.ref (s.heap.objs.size + 1)], kw⟩) (fun f s' => f = .done (.ret .none) ∧ Q (.ref (s.heap.objs.size + 1)) s') E' { s with heap := copyHeap s.heap vs }) :
    wpAny (model prog w) A (call (.builtin "sorted") [u] kw) Q E s := by
  refine call_function_entry_kw kind_sorted plain_sorted entry_sorted ha1 ?_; unfold Builtin.«sorted»
  refine wpAny_bind (m := checkCount "sorted" 1 1 _) (wpAny_pure ?_); refine wpAny_bind (hc _ _ _ ?_)
  refine wpAny_bind (wpAny_newList ?_ hL)
  have hn : ((s.heap.push (seqObj "list" #[] 0)).update s.heap.objs.size (Obj.mapSeq (· ++ vs.toArray))).objs.size = s.heap.objs.size + 1 := by rw [Heap.size_update, size_push']
  show wpAny _ _ _ _ _ { s with heap := copyHeap s.heap vs }; rw [hn]
  refine wpAny_bind (wpAny_holding (wpAny_call_entry_kw slot_list_sort ⟨_, copyHeap_at s.heap vs, rfl⟩ entry_list_sort ?bd (ha2 _)))
  case bd =>
    refine wpAny_mono (body _) (fun f s' hf => ?_) fun _ _ e => e
    obtain ⟨rfl, hq⟩ := hf; exact ⟨_, rfl, wpAny_pure ⟨_, rfl, hq⟩⟩
theorem FpOk.at_ {pins : List (Addr × Obj)} {H H' : Hp} {b : Addr} (f : FpOk X pins H b) (h : H' b = none) : FpOk X pins H' b := ⟨h, f.2⟩
end
end Cn

namespace Cn
open PySem PySem.Spec PyProof.Rows L2 PySem.W
section
variable {X : Cx} {T : Tab} {pins : List (Addr × Obj)} {σ : L2.St} {H : Hp} {s : Shared} {A : Around}
theorem IsL.app_one {K : PySem.W.Frag} {l : List D} {xs : List V} {d : D} {v : V} (h : IsL T K H l xs) (i : Is T K H d v) : IsL T K H (l ++ [d]) (xs ++ [v]) := h.append (IsL.cons i .nil)
theorem vals_app : ∀ {xs : List V} {us : List Value} {x : V} {u : Value}, Vals xs us → RelV x u → Vals (xs ++ [x]) (us ++ [u])
  | [], us, x, u, h, r => by cases h; exact .cons r .nil
  | y :: ys, us, x, u, h, r => by
    cases h with
    | cons a b => exact .cons a (vals_app b r)
/-- the reads of keys without lists -/
theorem reads_nol (I : Inv X pins σ H s) {d : D} {v : Value} (h : pureD 6 d = true) (r : Rd1 T X.K H v d) : ∃ as, Reads s.heap v (toP d) as := r.reads I h
/-- what stands while the keys are asked -/
structure KLp (X : Cx) (T : Tab) (pins : List (Addr × Obj)) (σ : L2.St) (H : Hp) (a kS : Addr) (e1 : Nat) (ks : List D) (j : Nat) (s' : Shared) (H' : Hp) (kA : Array Value) (e : Nat) : Prop where
  inv : Inv X pins σ H' s'
  ext : Ext H H'
  nk : s'.heap.get? kS = some (seqObj "list" kA e)
  na : s'.heap.get? a = some (seqObj "list" #[] e1)
  fk : FpOk X pins H' kS
  fa : FpOk X pins H' a
  ks : ∃ kv, IsL T X.K H' (ks.take j) kv ∧ Vals kv kA.toList
theorem each_zip {K : PySem.W.Frag} : ∀ {ds : List D} {vs : List Value} {ks : List D}, EachIs (Rd1 T K H) vs ds → ks.length = ds.length → EachIs (fun v (p : D × D) => Rd1 T K H v p.1) vs (ds.zip ks)
  | [], _, _, h, _ => by cases h; exact .nil
  | d :: ds, _, ks, h, hl => by
    cases h with
    | cons h t =>
      cases ks with
      | nil => cases hl
      | cons z ks => exact .cons h (each_zip t (by simpa using hl))
theorem not_cell {xs : Array Value} {n : Nat} : ∀ v, (seqObj "list" xs n).data ≠ .cell v := fun v e => by cases e
theorem keys_run {gm : Option Nat} {k : Nat} {fa a kS : Addr} {e1 : Nat} {sp : DSp} {ds ks : List D} {xs : List V} {vs : List Value} {E : Value → Shared → Prop} {P : PySem.Fin → Shared → Prop}
    (F : CalOk gm T X.prog X.w X.K X.mg X.base k fa sp) (hR : ∀ H' s', Inv X pins σ H' s' → Rm gm T X.K k A s' H') (hE : ∀ H' s', Inv X pins σ H' s' → Env0 X.prog X.w X.K X.mg X.base A X.stack s' H')
    (hu : A.units + 6 < cLine) (il : IsL T X.K H ds xs) (rv : Vals xs vs) (hl : ks.length = ds.length)
    (hk : ∀ (i : Nat) d z, ds[i]? = some d → ks[i]? = some z → sp [d] [] (fun _ => none) (fun r _ => r = z) noE) (ok : SrtOk ks) (hz : vs.length ≤ sizeLine) (hka : kS ≠ a)
    (st : KLp X T pins σ H a kS e1 ks 0 s H #[] 0)
    (h : ∀ s' H' out c, Inv X pins σ H' s' → Ext H H' → s'.heap.get? a = some (seqObj "list" (List.toArray out) c) → FpOk X pins H' a → EachIs (fun v (p : D × D) => Rd1 T X.K H v p.1) out ((ds.zip ks).mergeSort (dataLe false fun p => toP p.2)) → P (.done (.ret .none)) s') :
    wpAny (model X.prog X.w) A (ksk_rest a (.ref fa) false vs.toArray e1 (.ref kS)) P E s := by
  have hlen : ds.length = vs.length := il.length.trans rv.length
  unfold ksk_rest
  refine wpAny_bind (wpAny_rule ?_)
  first
    | rw [List.forIn_toArray]
    | (rw [← Array.forIn_toList]; simp only [List.toList_toArray])
    | rw [← Array.forIn_toList]
  refine wpAny_bind (ksk_fold (fun i s' => ∃ H' kA e, KLp X T pins σ H a kS e1 ks i s' H' kA e) vs 0 s ⟨H, #[], 0, st⟩ ?step ?done)
  case step =>
    rintro j x s' hx ⟨H', kA, e, L⟩
    simp only [Nat.zero_add] at L ⊢
    have hj : j < vs.length := (List.getElem?_eq_some_iff.mp hx).1
    obtain ⟨d, hd⟩ : ∃ d, ds[j]? = some d := ⟨_, List.getElem?_eq_getElem (by omega)⟩
    obtain ⟨z, hzk⟩ : ∃ z, ks[j]? = some z := ⟨_, List.getElem?_eq_getElem (by omega)⟩
    obtain ⟨xv, hxv, ix⟩ := (il.mono (Cn.Ext.kp L.ext)).get hd
    have rx : RelV xv x := by
      obtain ⟨u, hu', ru⟩ := rv.get hxv
      rw [hx] at hu'
      cases hu'
      exact ru
    have hf : ∀ b ∈ [kS, a], FpOk X pins H' b := fun b hb => by
      simp only [List.mem_cons, List.not_mem_nil, or_false] at hb
      rcases hb with rfl | rfl
      · exact L.fk
      · exact L.fa
    have I2 := L.inv.pinned (fp := [kS, a]) hf fun b hb => by
      simp only [List.mem_cons, List.not_mem_nil, or_false] at hb
      rcases hb with rfl | rfl
      · exact ⟨_, L.nk, not_cell⟩
      · exact ⟨_, L.na, not_cell⟩
    refine wpAny_bind (wpAny_attempt (fn_call F (hk j d z hd hzk) (hR _ _ L.inv) (hE _ _ L.inv) ix rx I2 fun v' u' H2 s2 I3 e2 i2 r2 => ?_))
    have pk := I3.pin (kS, _) (List.mem_append_right _ (List.mem_append_right _ (mem_pinsAt (by simp) L.nk)))
    have pa := I3.pin (a, _) (List.mem_append_right _ (List.mem_append_right _ (mem_pinsAt (by simp) L.na)))
    have I4 : Inv X pins σ H2 s2 := I3.unpinned
    have fk2 : FpOk X pins H2 kS := FpOk.at_ L.fk pk.2.1
    have fa2 : FpOk X pins H2 a := FpOk.at_ L.fa pa.2.1
    obtain ⟨kv, k1, k2⟩ := L.ks
    have hkA : kA.size ≤ vs.length := by
      have q1 := k2.length
      have q2 := k1.length
      rw [List.length_take] at q2
      have q3 : kA.toList.length = kA.size := by simp
      omega
    have sb := Heap.SameBut.update s2.heap kS (Obj.mapSeq (·.push u'))
    obtain ⟨c2, hc2⟩ : ∃ c2, (s2.heap.update kS (Obj.mapSeq (·.push u'))).get? kS = some (seqObj "list" (kA.push u') c2) := ⟨_, get?_update_seq pk.1 (·.push u')⟩
    refine wpAny_bind (listUpdate_at pk.1 rfl ?_ (Nat.le_trans hkA hz) (Nat.le_trans (Nat.le_of_eq (Array.size_push ..)) (Nat.succ_le_succ (Nat.le_trans hkA hz))))
    have I5 : Inv X pins σ H2 { s2 with heap := s2.heap.update kS (Obj.mapSeq (·.push u')) } := I4.turnedL (ch := [kS]) (t' := s2.toks) (fun b o hb q => (sb.2 b (fun z => hb (by simp [z]))).trans q) fun b hb => by
      simp only [List.mem_cons, List.not_mem_nil, or_false] at hb
      rw [hb]; exact fk2
    have ek : ks.take (j + 1) = ks.take j ++ [z] := by rw [List.take_add_one, hzk]; simp
    refine wpAny_pure ⟨rfl, H2, kA.push u', c2, I5, fun b o q => e2 b o (L.ext b o q), hc2, (sb.2 a hka.symm).trans pa.1, fk2, fa2, kv ++ [v'], ?_, ?_⟩
    · rw [ek]
      exact (k1.mono (Cn.Ext.kp e2)).app_one i2
    · rw [show (kA.push u').toList = kA.toList ++ [u'] by simp]
      exact vals_app k2 r2
  case done =>
    rintro s' ⟨H', kA, e, L⟩
    obtain ⟨kv, k1, k2⟩ := L.ks
    have e3 : ks.take (0 + vs.length) = ks := List.take_of_length_le (by omega)
    rw [e3] at k1
    have ek := each_of k1 k2
    have er := each_reads L.inv ok.pure ek
    have hsz : kA.size = vs.length := by
      have q1 := k2.length
      have q2 := k1.length
      have q3 : kA.toList.length = kA.size := by simp
      omega
    refine wpAny_bind (listItems_at L.nk rfl ?_)
    have er' : EachIs (fun v d => ∃ as, Reads s'.heap v d as) kA.toList (ks.map toP) := PySem.W.each_map (R := fun v d => ∃ as, Reads s'.heap v d as) toP er
    -- the heap without the keys' list
    have g0 : (s'.heap.update kS (fun o => { o with data := .freed })).get? kS = none := by
      have q := L.nk
      unfold Heap.get? at q ⊢
      unfold Heap.update
      simp only [Array.getElem?_modify, if_true]
      cases hq : s'.heap.objs[kS]? with
      | none => rw [hq] at q; cases q
      | some o => rfl
    have gk : PySem.W.KeepsBut a (s'.heap.update kS (fun o => { o with data := .freed })) s'.heap := fun b o hb q => by
      have hbk : b ≠ kS := fun z => by rw [z, g0] at q; cases q
      have sb := Heap.SameBut.update s'.heap kS (fun o => { o with data := .freed })
      exact (sb.2 b hbk).symm.trans q
    refine PySem.W.keyH_end (κ := dataKind s'.heap (ks.map toP)) (vs := vs) gk g0 L.nk L.na hka (SortsAt.data er' ok.alike ok.sor fun d hd => ?_) hsz hz fun h3 tk3 c k3 n3 => ?_
    · obtain ⟨b, hb, rfl⟩ := List.mem_map.mp hd
      have := (canLay_of 6 b (ok.pure b hb)).2
      omega
    · have I6 : Inv X pins σ H' { s' with heap := h3, toks := tk3 } := L.inv.turnedL (ch := [kS, a]) (fun b o hb q => by
        simp only [List.mem_cons, List.not_mem_nil, or_false, not_or] at hb
        refine k3 b o hb.2 ?_
        have sb := Heap.SameBut.update s'.heap kS (fun o => { o with data := .freed })
        exact (sb.2 b hb.1).trans q) fun b hb => by
        simp only [List.mem_cons, List.not_mem_nil, or_false] at hb
        rcases hb with rfl | rfl
        · exact L.fk
        · exact L.fa
      refine h _ H' _ c I6 L.ext n3 L.fa ?_
      have eb : EachIs (fun v (p : D × D) => Rd1 T X.K H v p.1) vs (ds.zip ks) := by
        exact each_zip (each_of il rv) hl
      have ekz : (ds.zip ks).map (fun p : D × D => toP p.2) = ks.map toP := by
        rw [← List.map_snd_zip (l₁ := ds) (l₂ := ks) (by omega), List.map_map, List.map_snd_zip (by omega)]
        rfl
      refine PySem.W.keyedOut_each (fun p : D × D => toP p.2) ?_ eb
      rw [ekz]
      exact ⟨s'.heap, kA.toList, ok.alike, rfl, er'⟩
end
end Cn

namespace Cn
open PySem PySem.Spec PyProof.Rows L2 PySem.W
/-- sorted(xs) -/
def oSorted (m : Bool) : DOL := fun ds g Q => match ds with
  | [d] => match lstOf g d with
    | some l => SrtOk l ∧ if m then ∀ a, g a = none → Q (.adr a) (gset g a (.lst (sortD l))) else Q (.lst (sortD l)) g
    | none => False
  | _ => False
/-- sorted(xs, key=f) -/
def sortK (m : Bool) (f : Nat) (C : Cal) (d : D) (g : G) (Q : QT) : Prop := match seqOf g d with
  | some l => ∃ ks : List D, ks.length = l.length ∧ SrtOk ks ∧ (∀ (i : Nat) x z, l[i]? = some x → ks[i]? = some z → C f [x] [] (fun _ => none) (fun r _ => r = z) noE) ∧
      if m then ∀ a, g a = none → Q (.adr a) (gset g a (.lst (sortDK ks l))) else Q (.lst (sortDK ks l)) g
  | none => False
def one1 (P : D → Prop) : List D → Prop
  | [d] => P d
  | _ => False
def dSortK (m : Bool) (f : Nat) (ta : DTE) : DTE := fun C ρ g Q E => ta C ρ g (fun d g1 => sortK m f C d g1 Q) E
section
variable {X : Cx} {T : Tab} {C : Cal} {W : WX} {e : Expr} {ta : DTE} {pos : Pos}
theorem cSorted (hu : X.A.units + 64 < cLine) {m : Bool} : CallR X (.builtin "sorted") (LOL T X.K (oSorted m)) := by
  intro pins s σ H xs us Q I rx ⟨ds, g, QD, il, rg, h, c⟩
  unfold oSorted at h
  split at h
  · rename_i d
    obtain ⟨v, rfl, i⟩ := IsL.one il
    split at h
    · rename_i l hl
      obtain ⟨a, ys, rfl, hs, j⟩ := lstOf_rd rg i hl
      rw [Vals.ref1 rx]
      cases m with
      | true => exact sorted_run0 hu I (.inl hs) j h.1 fun zs p jz hp => c.mls hp jz rg (by simpa using h.2)
      | false => exact thn (sorted_run0 hu I (.inl hs) j h.1 fun zs p jz hp => c.lst hp jz rg (by simpa using h.2)) fun _ _ z => frz_ep z
    · exact h.elim
  · exact h.elim
theorem copy_size (h : Heap) (vs : List Value) : (copyHeap h vs).objs.size = h.objs.size + 2 := by
  unfold copyHeap
  rw [size_push', Heap.size_update, size_push']
/-- sorted(src, key=f): the run -/
theorem sortk_run {gm : Option Nat} {k f : Nat} {pins : List (Addr × Obj)} {σ : L2.St} {H : Hp} {s : Shared} {g : G} {d : D} {v : V} {u : Value} {l ks : List D} {Q : VK}
    (F : CalOk gm T X.prog X.w X.K X.mg X.base k (T.fA f) (C f)) (hr : RmX gm T (k + 2) X) (I : Inv X pins σ H s) (rg : RG T X.K g H) (i : Is T X.K H d v) (rv : RelV v u) (hl : seqOf g d = some l) (hkl : ks.length = l.length) (ok : SrtOk ks)
    (hk : ∀ (i : Nat) x z, l[i]? = some x → ks[i]? = some z → C f [x] [] (fun _ => none) (fun r _ => r = z) noE)
    (q : ∀ H' ys p, Ext H H' → IsL T X.K H' (sortDK ks l) ys → H' p = none → Q (.ref p) (upd H' p (.lst ys))) :
    wpAny (model X.prog X.w) X.A (call (.builtin "sorted") [u] [(Str.ofString "key", .ref (T.fA f))]) (EP X pins σ Q) X.xe s := by
  obtain ⟨a0, xs, rfl, hs, il⟩ := seqOf_sq rg i hl
  obtain rfl : u = .ref a0 := rv
  have hx : ∃ its, Vals xs its ∧ its.length ≤ sizeLine ∧ ∀ (B : Around) (Q' : List Value → Shared → Prop) (E' : Value → Shared → Prop), Q' its { s with heap := (s.heap.push (seqObj "list" #[] 0)).update s.heap.objs.size (Obj.mapSeq (· ++ its.toArray)) } → wpAny (model X.prog X.w) B (collect (.ref a0)) Q' E' s := by
    rcases hs with hs | hs
    · obtain ⟨its, r, h1, hz⟩ := I.list hs
      have hz' : its.length ≤ sizeLine := by rw [← r.length]; exact hz
      exact ⟨its, r, hz', fun B Q' E' h => collect_list h1.isList h hz'⟩
    · obtain ⟨its, r, h1, hz⟩ := I.tuple hs
      have hz' : its.length ≤ sizeLine := by rw [← r.length]; exact hz
      exact ⟨its, r, hz', fun B Q' E' h => collect_tup h1 h hz'⟩
  obtain ⟨its, r, hz, hc⟩ := hx
  refine sorted_from hc hz (ksk_s1 _ _) (fun _ => ksk_l1 _ _) fun E' => ?_
  rw [ksk_t1]
  have hcs := copy_size s.heap its
  have ho := copyHeap_at s.heap its
  obtain ⟨a, ha⟩ : ∃ a, a = s.heap.objs.size + 1 := ⟨_, rfl⟩
  rw [← ha] at ho ⊢
  obtain ⟨e1, ho1⟩ : ∃ e1, ((copyHeap s.heap its).update a (Obj.mapSeq fun _ => (#[] : Array Value))).get? a = some (seqObj "list" #[] e1) := ⟨_, get?_update_seq ho fun _ => #[]⟩
  have hkS : (((copyHeap s.heap its).update a (Obj.mapSeq fun _ => (#[] : Array Value))).push (seqObj "tuple" its.toArray 0)).objs.size = s.heap.objs.size + 3 := by rw [size_push', Heap.size_update, hcs]
  unfold ksk_tree
  refine wpAny_bind (listItems_at ho rfl ?_)
  refine wpAny_bind (listUpdate_at ho rfl ?_ (by rw [List.size_toArray]; exact hz) (Nat.zero_le _))
  refine wpAny_bind (seqEpoch_at ho1 rfl ?_)
  refine wpAny_bind (wpAny_newTuple ?_ (by show its.length ≤ _; exact hz))
  refine wpAny_bind (wpAny_newList ?_ (Nat.zero_le _))
  refine wpAny_holding ?_
  have keep : ∀ b o, s.heap.get? b = some o → (sortingHeap (copyHeap s.heap its) a its).get? b = some o := fun b o q => by
    have : b < s.heap.objs.size := Heap.lt_size q
    exact sortingHeap_old (fun z => by rw [z, ha] at this; exact absurd this (Nat.not_lt_of_le (Nat.le_succ _))) (copyHeap_old q)
  have I2 : Inv X pins σ H { s with heap := sortingHeap (copyHeap s.heap its) a its } := I.kept (t' := s.toks) keep
  have na : (sortingHeap (copyHeap s.heap its) a its).get? a = some (seqObj "list" #[] e1) := by
    unfold sortingHeap
    exact Heap.get?_push_of_some _ (Heap.get?_push_of_some _ ho1)
  have nk : (sortingHeap (copyHeap s.heap its) a its).get? (s.heap.objs.size + 3) = some (seqObj "list" #[] 0) := by
    unfold sortingHeap
    rw [← hkS]
    exact Heap.get?_push_size _ rfl
  rw [hkS]
  refine keys_run (s := { s with heap := sortingHeap (copyHeap s.heap its) a its }) (H := H) (pins := pins) (σ := σ) F (fun H' s' I' => ?_) (fun H' s' I' => I'.env0.in1.in1) ?_ il r hkl hk ok hz (by rw [ha]; exact Nat.ne_of_gt (Nat.add_lt_add_left (by decide) _)) ⟨I2, fun _ _ e => e, nk, na, I.fpOk (Nat.le_add_right _ _) (I.hok.fresh (Nat.le_add_right _ _)), I.fpOk (by rw [ha]; exact Nat.le_succ _) (I.hok.fresh (by rw [ha]; exact Nat.le_succ _)), [], .nil, .nil⟩ fun s' H' out c I' ext hD fa eo => ⟨rfl, ?_⟩
  · have z := hr.at_ I'
    exact ⟨z.room.in1.in1, z.gd.same rfl⟩
  · have z := (hr.rm.room.in1.in1).units
    omega
  · obtain ⟨ys, j, r2⟩ := of_each (f := fun p : D × D => p.1) eo
    have jm := j.mono (Cn.Ext.kp ext)
    have hy : ys.length ≤ sizeLine := by
      rw [← jm.length, List.length_map, (List.mergeSort_perm _ _).length_eq, List.length_zip, hkl, Nat.min_self, il.length, r.length]
      exact hz
    have I3 := Inv.take (o := .lst ys) (h' := s'.heap) (t' := s'.toks) I' (fun b ob _ q => q) fa ⟨hy, out, c, r2, hD⟩
    exact ⟨.ref a, _, I3, rfl, q H' ys a ext jm fa.1⟩
theorem de_sortK {gm : Option Nat} {k f : Nat} {m : Bool} {x : Str} {p : Pos} {kp : Pos} (F : CalOk gm T X.prog X.w X.K X.mg X.base k (T.fA f) (C f)) (hr : RmX gm T (k + 2) X) (hg : Gl X x) (hm : X.mg x = none) (hv : bootBuiltins x = some (.builtin "sorted"))
    (hn : x ≠ "__name__") (hdb : (x == ("__debug__" : Str)) = false) (hp : plainArg e = true) (he : PE X e (LE T X.K C W ta)) {ek : Expr} (hk : PE X ek (LE T X.K C W (dC (.fn f)))) :
    PE X (.Call (.Name x p) [e] [⟨some (Str.ofString "key"), ek, kp⟩] pos) (LE T X.K C W (dSortK m f ta)) := by
  have ha : PA X [e] (LA T X.K C W [ta]) := da_cons hp he da_nil
  have hb : DK X T C W [⟨some (Str.ofString "key"), ek, kp⟩] [dC (.fn f)] := dk_cons hk dk_nil
  have rule : CallRK X (.builtin "sorted") [Str.ofString "key"] (fun xs zs H Q => ∃ d g QD, (∃ v, xs = [v] ∧ Is T X.K H d v) ∧ zs = [.ref (T.fA f)] ∧ RG T X.K g H ∧ sortK m f C d g QD ∧ Ct T X.K g H QD Q) := by
    intro pins s σ H xs zs us ws Q I rx rz ⟨d, g, QD, ⟨v, e1, i⟩, e2, rg, h, c⟩
    subst e1 e2
    obtain ⟨u, rfl, rv⟩ := vals1 rx
    obtain ⟨w1, rfl, rw1⟩ := vals1 rz
    obtain rfl : w1 = .ref (T.fA f) := rw1
    unfold sortK at h
    split at h
    · rename_i l hl
      obtain ⟨ks, h1, h2, h3, h4⟩ := h
      have kg : ∀ {H' : Hp}, Ext H H' → Kg g H g H' := fun ext => ⟨Cn.Ext.kp ext, fun b o e n => ⟨ext b o e, n⟩⟩
      have rgE : ∀ {H' : Hp}, Ext H H' → RG T X.K g H' := fun {H'} ext b o e => by
        obtain ⟨z, hz'⟩ := (rg b o e).some
        exact (rg b o e).move (Cn.Ext.kp ext) ((ext b _ hz').trans hz'.symm)
      cases m with
      | true => exact sortk_run F hr I rg i rv hl h1 h2 h3 fun H' ys p ext j hp => (c.mono (kg ext)).mls hp j (rgE ext) (by simpa using h4)
      | false => exact thn (sortk_run F hr I rg i rv hl h1 h2 h3 fun H' ys p ext j hp => (c.mono (kg ext)).lst hp j (rgE ext) (by simpa using h4)) fun _ _ z => frz_ep z
    · exact h.elim
  refine PE.imp (pe_callBK rule hg hm hv ha hb hn hdb (by rw [star_cons hp]; rfl) (by rw [star_cons hp]; rfl) rfl rfl rfl) fun σ H Q ⟨ρ, g, QD, ED, rs, rg, h, c, ce⟩ => ?_
  refine ⟨ρ, g, (fun ds g1 => one1 (fun d => sortK m f C d g1 QD) ds), ED, rs, rg, (by simp only [dArgs]; exact h), ⟨fun vs ds H1 g1 k1 i1 rg1 h1 => ?_⟩, ce⟩
  refine ⟨ρ, g1, (fun es g2 => es = [.fn f] ∧ one1 (fun d => sortK m f C d g2 QD) ds), ED, rs.mono k1.kp, rg1, (by simp only [dArgs]; exact ⟨rfl, h1⟩), ⟨fun zs es H2 g2 k2 i2 rg2 ⟨e2, h2⟩ => ?_⟩, ce.mono k1⟩
  unfold one1 at h2
  split at h2
  · rename_i d _ _
    obtain ⟨v, rfl, iv⟩ := IsL.one i1
    subst e2
    obtain ⟨z, rfl, iz⟩ := IsL.one i2
    simp only [Is] at iz
    subst iz
    exact ⟨_, g2, QD, ⟨v, rfl, iv.mono k2.kp⟩, rfl, rg2, h2, (c.mono k1).mono k2⟩
  · exact h2.elim
end
end Cn

namespace Cn
open PySem PySem.Spec PyProof.Rows L2 PySem.W
/-! ## EQ. == and != of instances, by their own __eq__ -/
structure EqM (K : PySem.W.Frag) (C f : Addr) : Prop where
  eq : findIn K (.ref C) "__eq__" = some (some (.ref f))
  fn : isFn K (.ref f) = true
  ne : findIn K (.ref C) "__ne__" = some (some (.builtin "object.__ne__"))
  ob : mroIn K C (.type "object") = some true
section
variable {M : Model} {prog : Program} {w : World} {A : Around} {E : Value → Shared → Prop} {s : Shared} {K : PySem.W.Frag} {x C f : Addr} {ox : Obj} {od : Option Obj} {b tb : Value}
theorem ifBound_objNe {args : List Value} {Q : Option Value → Shared → Prop} (X : K.In s.heap) (I : InstAt s.heap x ox C od) (hs : findIn K (.ref C) "__ne__" = some (some (.builtin "object.__ne__")))
    (h : wpAny M A (call (.builtin "object.__ne__") (.ref x :: args)) (fun v => Q (some v)) E s) : wpAny M A (callSpecialIfBound? (.ref x) "__ne__" args) Q E s := by
  simp only [callSpecialIfBound?, bindSpecialIfBound?]
  refine wpAny_holding (wpAny_bind (wpAny_bind (wpAny_bind (I.type.here ((looks_findIn X hs).here ?_)))))
  refine wpAny_bind (wpAny_askSetting (wpAny_ite ?_))
  have fin : wpAny M A (call (.builtin "object.__ne__") ([.ref x] ++ args) >>= fun v => pure (some v)) Q E s := wpAny_bind (wpAny_mono h (fun v s' h' => wpAny_pure h') fun _ _ h' => h')
  split
  · exact wpAny_bind (wpAny_of_eq (F.cmp_object.ne.bind _) (wpAny_pure (by exact fin)))
  · exact wpAny_tryCatch (wpAny_bind (wpAny_of_eq (F.cmp_object.ne.bind _) (wpAny_pure (by exact fin))))
theorem objNe_entry {Q : Fin → Shared → Prop} (hu : A.units < cLine) (X : K.In s.heap) (I : InstAt s.heap x ox C od) (m : EqM K C f)
    (h : wpAny M A (call (.ref f) [.ref x, b]) (fun v s' => ∃ r, v = .bool r ∧ Q (.done (.ret (.bool (!r)))) s') E s) : wpAny M A (Builtin.«object.__ne__» ⟨[.ref x, b], []⟩) Q E s := by
  unfold Builtin.«object.__ne__»
  refine wpAny_bind (wpAny_pure ?_)
  refine wpAny_bind (wpAny_cRoomFor hu ?_)
  refine wpAny_bind (ifBound_K X I m.eq m.fn (wpAny_mono h (fun v s' z => ?_) fun _ _ e => e))
  obtain ⟨r, rfl, z⟩ := z
  refine wpAny_bind (wpAny_truthy_bool ?_)
  exact wpAny_pure z
theorem cmp_one {op : CmpOp} {Q : Value → Shared → Prop} (hu : A.units < cLine) (X : K.In s.heap) (I : InstAt s.heap x ox C od) (hb : Looks (model prog w) s.heap (typeOf b) tb) (hn : notFirst K C tb = true)
    (one : wpAny (model prog w) A (tryCompare (.ref x) (cmpInfo op).2.1 b) (fun r s' => ∃ v, r = some v ∧ Q v s') E s) : wpAny (model prog w) A (richCompare op (.ref x) b) Q E s := by
  unfold richCompare
  simp only [oneThing_ref]
  refine wpAny_holding (wpAny_bind (wpAny_cRoomFor hu ?_))
  refine wpAny_bind (I.type.here (wpAny_bind (hb.here ?_)))
  split
  · rename_i q
    have e : subIn K tb (.ref C) = some false := by
      rcases Bool.or_eq_true_iff.mp hn with e | e
      · rw [beq_iff_eq.mp e] at q; simp at q
      · exact beq_iff_eq.mp e
    refine wpAny_bind ((looks_subIn X e).here ?_)
    simp only [Bool.false_eq_true, if_false]
    refine wpAny_bind (wpAny_mono one (fun r s' z => ?_) fun _ _ e => e)
    obtain ⟨v, rfl, hq⟩ := z
    exact wpAny_pure hq
  · refine wpAny_bind (wpAny_pure ?_)
    simp only [Bool.false_eq_true, if_false]
    refine wpAny_bind (wpAny_mono one (fun r s' z => ?_) fun _ _ e => e)
    obtain ⟨v, rfl, hq⟩ := z
    exact wpAny_pure hq
theorem rc_eq {Q : Value → Shared → Prop} (hu : A.units < cLine) (X : K.In s.heap) (I : InstAt s.heap x ox C od) (hb : Looks (model prog w) s.heap (typeOf b) tb) (hn : notFirst K C tb = true) (m : EqM K C f)
    (h : wpAny (model prog w) A (call (.ref f) [.ref x, b]) (fun v s' => ∃ r, v = .bool r ∧ Q (.bool r) s') E s) : wpAny (model prog w) A (richCompare .Eq (.ref x) b) Q E s := by
  refine cmp_one hu X I hb hn ?_
  unfold tryCompare
  refine wpAny_bind (ifBound_K X I m.eq m.fn (wpAny_mono h (fun v s' hv => ?_) fun _ _ e => e))
  obtain ⟨r, rfl, q⟩ := hv
  exact wpAny_pure ⟨_, rfl, q⟩
theorem rc_ne {Q : Value → Shared → Prop} (hu : A.units + 1 < cLine) (X : K.In s.heap) (I : InstAt s.heap x ox C od) (hb : Looks (model prog w) s.heap (typeOf b) tb) (hn : notFirst K C tb = true) (m : EqM K C f)
    (h : wpAny (model prog w) A.in1 (call (.ref f) [.ref x, b]) (fun v s' => ∃ r, v = .bool r ∧ Q (.bool (!r)) s') E s) : wpAny (model prog w) A (richCompare .NotEq (.ref x) b) Q E s := by
  refine cmp_one (Nat.lt_of_succ_lt hu) X I hb hn ?_
  unfold tryCompare
  refine wpAny_bind (ifBound_objNe X I m.ne ?_)
  refine wpAny_call (codeAny_call_builtin F.cmp_object.ne.plain F.cmpEntry_ne (check_slot F.cmpKind_ne F.cmpSplit_ne (I.type.andThen (looks_mroIn X m.ob)) (F.cmpArgs_ne _ _) (objNe_entry hu X I m (wpAny_mono h (fun v s' z => ?_) fun _ _ e => e))))
  obtain ⟨r, rfl, q⟩ := z
  exact ⟨r, rfl, wpAny_pure ⟨_, rfl, q⟩⟩
end
end Cn

namespace Cn
open PySem PySem.Spec PyProof.Rows L2
/-! ## U2. Two rows walked at once, rows numbered -/
def zipD (l m : List D) : List D := (l.zip m).map fun p => .tup [p.1, p.2]
def numD : Nat → List D → List D
  | _, [] => []
  | i, d :: l => .tup [.int (i : Nat), d] :: numD (i + 1) l
theorem zipD_len {l m : List D} : (zipD l m).length = min l.length m.length := by simp [zipD]
theorem zipD_at {l m : List D} {i : Nat} {d : D} (h : (zipD l m)[i]? = some d) : ∃ x y, l[i]? = some x ∧ m[i]? = some y ∧ d = .tup [x, y] := by
  unfold zipD at h
  rw [List.getElem?_map] at h
  obtain ⟨p, hp, rfl⟩ := Option.map_eq_some_iff.mp h
  rw [List.getElem?_zip_eq_some] at hp
  exact ⟨p.1, p.2, hp.1, hp.2, rfl⟩
theorem numD_len : ∀ {l : List D} {i : Nat}, (numD i l).length = l.length
  | [], _ => rfl
  | d :: l, i => by rw [numD, List.length_cons, List.length_cons, numD_len]
theorem numD_at : ∀ {l : List D} {k i : Nat} {d : D}, (numD k l)[i]? = some d → ∃ x, l[i]? = some x ∧ d = .tup [.int ((k + i : Nat) : Int), x]
  | [], k, i, d, h => by simp [numD] at h
  | x :: l, k, 0, d, h => by
    simp [numD] at h
    exact ⟨x, rfl, h.symm⟩
  | x :: l, k, i + 1, d, h => by
    simp only [numD, List.getElem?_cons_succ] at h
    obtain ⟨y, h1, h2⟩ := numD_at h
    refine ⟨y, h1, ?_⟩
    rw [h2]
    congr 4
    omega
section
variable {T : Tab} {K : PySem.W.Frag} {H : Hp} {g : G}
theorem pair_is {p : Addr} {d e : D} {x y : V} (h : H p = none) (i : Is T K H d x) (j : Is T K H e y) : Is T K (upd H p (.tup [x, y])) (.tup [d, e]) (.ref p) := by
  simp only [Is]
  exact ⟨p, [x, y], rfl, .inl (.inl (upd_same)), .cons (i.mono (Kp.new h)) (.cons (j.mono (Kp.new h)) .nil)⟩
theorem src_zipL {a b : Addr} {l m : List D} {ok : G → Prop} (hq : ∀ g' H', Kg g H g' H' → RG T K g' H' → ok g' → ∃ xs ys, SqL K H' a xs ∧ SqL K H' b ys ∧ IsL T K H' l xs ∧ IsL T K H' m ys) : Src T K (Itz K a b) (zipD l m) ok g H where
  go := fun i g' H' k r o hi => by
    obtain ⟨xs, ys, s, s', j, j'⟩ := hq g' H' k r o
    rw [zipD_len] at hi
    have e1 := j.length
    have e2 := j'.length
    exact ⟨xs, ys, xs[i]'(by omega), ys[i]'(by omega), s, s', by simp, by simp⟩
  stop := fun g' H' k r o => by
    obtain ⟨xs, ys, s, s', j, j'⟩ := hq g' H' k r o
    have e1 := j.length
    have e2 := j'.length
    refine ⟨xs, ys, s, s', ?_⟩
    rw [zipD_len]
    omega
  yld := fun i g' H' x H2 k r o y d hd => by
    obtain ⟨xs, ys, s, s', j, j'⟩ := hq g' H' k r o
    obtain ⟨p, u, v, rfl, hp, rfl, f1, f2⟩ := y
    obtain ⟨d1, d2, h1, h2, rfl⟩ := zipD_at hd
    obtain ⟨u', q1, i1⟩ := j.get h1
    obtain ⟨v', q2, i2⟩ := j'.get h2
    rw [f1 xs s] at q1
    rw [f2 ys s'] at q2
    cases q1
    cases q2
    exact ⟨Kg.new hp, r.beside hp, pair_is hp i1 i2⟩
theorem src_zipT {a b : Addr} {l m : List D} {xs ys : List V} {ok : G → Prop} (s0 : SqT K H a xs) (j0 : IsL T K H l xs) (t0 : SqT K H b ys) (k0 : IsL T K H m ys) : Src T K (RZ.ItzT K a b) (zipD l m) ok g H where
  go := fun i g' H' k r o hi => by
    rw [zipD_len] at hi
    have e1 := j0.length
    have e2 := k0.length
    exact ⟨xs, ys, xs[i]'(by omega), ys[i]'(by omega), SqT.keep k.kp s0, SqT.keep k.kp t0, by simp, by simp⟩
  stop := fun g' H' k r o => by
    have e1 := j0.length
    have e2 := k0.length
    refine ⟨xs, ys, SqT.keep k.kp s0, SqT.keep k.kp t0, ?_⟩
    rw [zipD_len]
    omega
  yld := fun i g' H' x H2 k r o y d hd => by
    obtain ⟨p, u, v, rfl, hp, rfl, f1, f2⟩ := y
    obtain ⟨d1, d2, h1, h2, rfl⟩ := zipD_at hd
    obtain ⟨u', q1, i1⟩ := j0.get h1
    obtain ⟨v', q2, i2⟩ := k0.get h2
    rw [f1 xs (SqT.keep k.kp s0)] at q1
    rw [f2 ys (SqT.keep k.kp t0)] at q2
    cases q1
    cases q2
    exact ⟨Kg.new hp, r.beside hp, pair_is hp (i1.mono k.kp) (i2.mono k.kp)⟩
theorem src_enum {a : Addr} {l : List D} {ok : G → Prop} (hq : ∀ g' H', Kg g H g' H' → RG T K g' H' → ok g' → ∃ xs, SqL K H' a xs ∧ IsL T K H' l xs) : Src T K (Ite K a) (numD 0 l) ok g H where
  go := fun i g' H' k r o hi => by
    obtain ⟨xs, s, j⟩ := hq g' H' k r o
    rw [numD_len] at hi
    have e1 := j.length
    exact ⟨xs, xs[i]'(by omega), s, by simp⟩
  stop := fun g' H' k r o => by
    obtain ⟨xs, s, j⟩ := hq g' H' k r o
    have e1 := j.length
    refine ⟨xs, s, ?_⟩
    rw [numD_len]
    omega
  yld := fun i g' H' x H2 k r o y d hd => by
    obtain ⟨xs, s, j⟩ := hq g' H' k r o
    obtain ⟨p, u, rfl, hp, rfl, f1⟩ := y
    obtain ⟨d1, h1, rfl⟩ := numD_at hd
    obtain ⟨u', q1, i1⟩ := j.get h1
    rw [f1 xs s] at q1
    cases q1
    refine ⟨Kg.new hp, r.beside hp, pair_is hp ?_ i1⟩
    simp only [Is]
    congr 1
    omega
end
def sZip (ta tb : DTE) : DSrc := fun C ρ g Q E => ta C ρ g (fun d g1 => tb C ρ g1 (fun e g2 => match d, e with
  | .tup l, .tup m => Q (zipD l m) yes g2
  | d, e => match lstOf g2 d, lstOf g2 e with
    | some l, some m => Q (zipD l m) (fun g => lstOf g d = some l ∧ lstOf g e = some m) g2
    | _, _ => False) E) E
def sEnum (ta : DTE) : DSrc := fun C ρ g Q E => ta C ρ g (fun d g1 => match lstOf g1 d with
    | some l => Q (numD 0 l) (fun g => lstOf g d = some l) g1
    | _ => False) E
section
variable {X : Cx} {T : Tab} {C : Cal} {W : WX} {e e2 : Expr} {elts : List Expr} {kk : Nat} {ta tb : DTE} {pos p tpos : Pos}
theorem di_zip (hg : Gl X "zip") (hm : X.mg "zip" = none) (h1 : plainArg e = true) (h2 : plainArg e2 = true) (ha : PE X e (LE T X.K C W ta)) (hb : PE X e2 (LE T X.K C W tb)) :
    PI X (.Tuple elts kk tpos) (.Call (.Name "zip" p) [e, e2] [] pos) (LI T X.K C W (sZip ta tb)) := by
  refine PI.imp (RZ.pi_zipA hg hm (pa_cons ha (pa_cons hb pa_nil (star_cons h2)) (star_cons h1)) (star_cons h1) (by rw [star_cons h2]; rfl)) fun σ H Rr ⟨ρ, g, QD, ED, rs, rg, h, c, ce⟩ => ?_
  refine ⟨ρ, g, _, ED, rs, rg, h, ⟨fun v d H1 g1 k1 i1 rg1 h1 => ?_⟩, ce⟩
  refine ⟨ρ, g1, _, ED, rs.mono k1.kp, rg1, h1, ⟨fun w e H2 g2 k2 i2 rg2 h2 => ?_⟩, ce.mono k1⟩
  have i1' := i1.mono k2.kp
  split at h2
  · simp only [Is] at i1' i2
    obtain ⟨a, xs, rfl, s, j⟩ := i1'
    obtain ⟨b, ys, rfl, s', j'⟩ := i2
    exact ⟨a, b, xs, ys, rfl, .inr ⟨s, s', c _ _ _ _ _ (k1.trans k2) rg2 (src_zipT s j s' j') trivial h2⟩⟩
  · split at h2
    · rename_i l m e1 e2
      obtain ⟨a, xs, rfl, s, j⟩ := lstOf_rd rg2 i1' e1
      obtain ⟨b, ys, rfl, s', j'⟩ := lstOf_rd rg2 i2 e2
      refine ⟨a, b, xs, ys, rfl, .inl ⟨Rd.sq s, Rd.sq s', c _ _ _ _ _ (k1.trans k2) rg2 (src_zipL fun g' H' k r o => ?_) ⟨e1, e2⟩ h2⟩⟩
      obtain ⟨a', xs', z, s, j⟩ := lstOf_rd r (i1'.mono k.kp) o.1
      obtain ⟨b', ys', z', s', j'⟩ := lstOf_rd r (i2.mono k.kp) o.2
      cases z
      cases z'
      exact ⟨xs', ys', Rd.sq s, Rd.sq s', j, j'⟩
    · exact h2.elim
theorem di_enum (hg : Gl X "enumerate") (hm : X.mg "enumerate" = none) (h1 : plainArg e = true) (ha : PE X e (LE T X.K C W ta)) :
    PI X (.Tuple elts kk tpos) (.Call (.Name "enumerate" p) [e] [] pos) (LI T X.K C W (sEnum ta)) := by
  refine PI.imp (pi_enum hg hm (pa_cons ha pa_nil (star_cons h1)) (star_cons h1)) fun σ H Rr ⟨ρ, g, QD, ED, rs, rg, h, c, ce⟩ => ?_
  refine ⟨ρ, g, _, ED, rs, rg, h, ⟨fun v d H1 g1 k1 i1 rg1 h1 => ?_⟩, ce⟩
  split at h1
  · rename_i l e1
    obtain ⟨a, xs, rfl, s, j⟩ := lstOf_rd rg1 i1 e1
    refine ⟨a, xs, rfl, Rd.sq s, c _ _ _ _ _ k1 rg1 (src_enum fun g' H' k r o => ?_) e1 h1⟩
    obtain ⟨a', xs', z, s, j⟩ := lstOf_rd r (i1.mono k.kp) o
    cases z
    exact ⟨xs', Rd.sq s, j⟩
  · exact h1.elim
end
end Cn

namespace Cn
open PySem PySem.Spec PyProof.Rows L2 PySem.W
section
variable {X : Cx} {T : Tab} {pins : List (Addr × Obj)} {σ : L2.St} {H : Hp} {s : Shared} {A : Around}
/-- a def called below, that owns nothing: what it tells, the abstract heap grown -/
theorem fn_calls {gm : Option Nat} {k : Nat} {fa : Addr} {sp : DSp} {ds : List D} {z : D} {vs : List V} {us : List Value} {E : Value → Shared → Prop} (F : CalOk gm T X.prog X.w X.K X.mg X.base k fa sp) (hsp : sp ds [] (fun _ => none) (fun r _ => r = z) noE) (hR : Rm gm T X.K k A s H)
    (hE : Env0 X.prog X.w X.K X.mg X.base A X.stack s H) (i : IsL T X.K H ds vs) (rv : Vals vs us) (I : Inv X pins σ H s) {Q : Value → Shared → Prop} (q : ∀ v' u' H' s', Inv X pins σ H' s' → Ext H H' → Is T X.K H' z v' → RelV v' u' → Q u' s') : wpAny (model X.prog X.w) A (call (.ref fa) us) Q E s := by
  have hq : LSp T X.K sp [] vs [] H (fun v H' => Is T X.K H' z v ∧ Ext H H') (fun _ _ _ => False) :=
    ⟨ds, [], fun _ => none, _, _, i, .nil, (fun b o e => by cases e), hsp, ⟨fun v d H' g' k i' _ e1 => by
      subst e1
      exact ⟨i', fun b o e => (k.fr b o e rfl).1⟩⟩, CtE.no⟩
  refine wpAny_call (codeAny_mono (F A X.stack s H us [] vs [] [] _ _ hR hE rv .nil hq) fun r s' h => ?_)
  cases r with
  | error e =>
    obtain ⟨_, _, _, _, _, _, _, _, _, _, _, _, z⟩ := h
    exact z.elim
  | ok fl =>
    cases fl with
    | ret u =>
      obtain ⟨v, H', I', rv, iv, ex⟩ := I.after h
      exact q v u H' s' I' ex iv rv
    | next => exact False.elim h
    | brk => exact False.elim h
    | cont => exact False.elim h
end
abbrev EqT : Type := Nat → Option Nat
def eqK (et : EqT) (neg : Bool) (C : Cal) (x y : D) (g : G) (Q : QT) : Prop := match x with
  | .ins c l => match y with
    | .ins c' l' => c = c' ∧ (match et c with
      | some f => ∃ b, C f [.ins c l, .ins c' l'] [] (fun _ => none) (fun r _ => r = .bl b) noE ∧ Q (.bl (if neg then !b else b)) g
      | none => False)
    | _ => False
  | x => oEq neg x y g Q
section
variable {X : Cx} {T : Tab} {C : Cal} {W : WX} {et : EqT}
theorem own_run {gm : Option Nat} {k : Nat} {neg : Bool} {op : CmpOp} (hop : op = if neg then CmpOp.NotEq else CmpOp.Eq) (F : ∀ f, CalOk gm T X.prog X.w X.K X.mg X.base k (T.fA f) (C f)) (hr : RmX gm T (k + 2) X) (he : ∀ c f, T.ok c = true → et c = some f → EqM X.K (T.cA c) (T.fA f))
    {pins : List (Addr × Obj)} {σ : L2.St} {H : Hp} {s : Shared} {Q : VK} {c c' : Nat} {l l' : List D} {x y : V} {v u : Value} {g : G} {QD : QT} (I : Inv X pins σ H s) (rx : RelV x v) (ry : RelV y u) (ix : Is T X.K H (.ins c l) x) (iy : Is T X.K H (.ins c' l') y) (rg : RG T X.K g H)
    (h : eqK et neg C (.ins c l) (.ins c' l') g QD) (cc : Ct T X.K g H QD Q) : wpAny (model X.prog X.w) X.A (richCompare op v u) (EP X pins σ Q) X.xe s := by
  unfold eqK at h
  dsimp only at h
  obtain ⟨e, h⟩ := h
  subst e
  split at h
  · rename_i f hf
    obtain ⟨b, h1, h2⟩ := h
    have ix' := ix
    have iy' := iy
    simp only [Is] at ix' iy'
    obtain ⟨a, oa, dx, fs, xs, ok, rfl, ea, _⟩ := ix'
    obtain ⟨a', oa', dx', fs', xs', ok', rfl, ea', _⟩ := iy'
    cases rx
    cases ry
    obtain ⟨mA, O, _⟩ := ins_rd I.hok (.inr ⟨oa, ea⟩)
    obtain ⟨mB, O', _⟩ := ins_rd I.hok (.inr ⟨oa', ea'⟩)
    obtain ⟨od, J, _⟩ := O.look
    obtain ⟨od', J', _⟩ := O'.look
    have m := he c f ok hf
    have z := hr.at_ I
    have kg : ∀ {H' : Hp}, Ext H H' → Kg g H g H' := fun ext => ⟨Cn.Ext.kp ext, fun b o e n => ⟨ext b o e, n⟩⟩
    have rgE : ∀ {H' : Hp}, Ext H H' → RG T X.K g H' := fun {H'} ext b o e => by
      obtain ⟨z, hz'⟩ := (rg b o e).some
      exact (rg b o e).move (Cn.Ext.kp ext) ((ext b _ hz').trans hz'.symm)
    cases neg with
    | false =>
      subst hop
      refine rc_eq z.room.units0 I.kIn J J'.type (by simp [notFirst]) m (fn_calls (F f) h1 ⟨z.room.mono (by omega), z.gd⟩ I.env0 (.cons ix (.cons iy .nil)) (.cons rfl (.cons rfl .nil)) I fun v' u' H' s' I' ext i' r' => ?_)
      simp only [Is] at i'
      subst i'
      obtain rfl : u' = .bool b := r'
      exact ⟨b, rfl, .bl b, H', I', rfl, (cc.mono (kg ext)).is (d := .bl b) (by simp only [Is]) (rgE ext) (by simpa using h2)⟩
    | true =>
      subst hop
      refine rc_ne (by have := z.room.units; omega) I.kIn J J'.type (by simp [notFirst]) m (fn_calls (F f) h1 ⟨(z.room.mono (by omega : k + 1 ≤ k + 2)).in1, z.gd.same rfl⟩ I.env0.in1 (.cons ix (.cons iy .nil)) (.cons rfl (.cons rfl .nil)) I fun v' u' H' s' I' ext i' r' => ?_)
      simp only [Is] at i'
      subst i'
      obtain rfl : u' = .bool b := r'
      exact ⟨b, rfl, .bl (!b), H', I', rfl, (cc.mono (kg ext)).is (d := .bl (!b)) (by simp only [Is]) (rgE ext) (by simpa using h2)⟩
  · exact h.elim
theorem xEqO {gm : Option Nat} {k : Nat} (F : ∀ f, CalOk gm T X.prog X.w X.K X.mg X.base k (T.fA f) (C f)) (hr : RmX gm T (k + 2) X) (he : ∀ c f, T.ok c = true → et c = some f → EqM X.K (T.cA c) (T.fA f)) : OpR X (compareOp .Eq) (LO2 T X.K (eqK et false C)) := by
  intro pins s σ H x y v u Q I rx ry ⟨dx, dy, g, QD, ix, iy, rg, h, c⟩
  cases dx with
  | ins c1 l => 
    cases dy with
    | ins c2 l' => exact own_run (neg := false) rfl F hr he I rx ry ix iy rg h c
    | _ => exact h.elim
  | _ => exact xEq hr.rm.room.units pins s σ H x y v u Q I rx ry ⟨_, dy, g, QD, ix, iy, rg, h, c⟩
theorem xNeO {gm : Option Nat} {k : Nat} (F : ∀ f, CalOk gm T X.prog X.w X.K X.mg X.base k (T.fA f) (C f)) (hr : RmX gm T (k + 2) X) (he : ∀ c f, T.ok c = true → et c = some f → EqM X.K (T.cA c) (T.fA f)) : OpR X (compareOp .NotEq) (LO2 T X.K (eqK et true C)) := by
  intro pins s σ H x y v u Q I rx ry ⟨dx, dy, g, QD, ix, iy, rg, h, c⟩
  cases dx with
  | ins c1 l => 
    cases dy with
    | ins c2 l' => exact own_run (neg := true) rfl F hr he I rx ry ix iy rg h c
    | _ => exact h.elim
  | _ => exact xNe hr.rm.room.units pins s σ H x y v u Q I rx ry ⟨_, dy, g, QD, ix, iy, rg, h, c⟩
end
end Cn

namespace Cn
open PySem PySem.Spec PySem.Calls PyProof.Rows L2 PySem.W Builtin
/-! ## OA. str(), format, len(), bool() and truth of instances, by their own __str__ and __len__ -/
structure StrM (K : PySem.W.Frag) (C f : Addr) : Prop where
  st : findIn K (.ref C) "__str__" = some (some (.ref f))
  fn : isFn K (.ref f) = true
  fm : findIn K (.ref C) "__format__" = some (some (.builtin "object.__format__"))
  ob : mroIn K C (.type "object") = some true
structure LenM (K : PySem.W.Frag) (C f : Addr) : Prop where
  ln : findIn K (.ref C) "__len__" = some (some (.ref f))
  fn : isFn K (.ref f) = true
  bo : findIn K (.ref C) "__bool__" = some none
section
variable {prog : Program} {w : World} {A : Around} {E : Value → Shared → Prop} {s : Shared} {K : PySem.W.Frag} {x C f : Addr} {ox : Obj} {od : Option Obj}
theorem len_body {Q : Value → Shared → Prop} (X : K.In s.heap) (I : InstAt s.heap x ox C od) (m : LenM K C f) (h : wpAny (model prog w) A (call (.ref f) [.ref x]) (W.LenBack Q) E s) :
    wpAny (model prog w) A (Builtin.«len» ⟨[.ref x], []⟩) (fun fin s' => ∃ r, fin = .done (.ret r) ∧ Q r s') E s := by
  unfold Builtin.«len»
  refine wpAny_bind (m := oneArg "len" _) (wpAny_pure ?_)
  refine wpAny_bind (m := callSpecial? (.ref x) (Str.ofString "__len__")) (special_fn X I m.ln (beq_iff_eq.mp m.fn) (wpAny_mono h (fun r s' hr => ?_) fun _ _ y => y))
  cases r <;> first | exact hr.elim | skip
  rename_i n u
  obtain ⟨⟨h0, h1⟩, hq⟩ := hr
  refine wpAny_bind (wpAny_holding (wpAny_pure ?_))
  refine wpAny_bind (wpAny_letGo ?_)
  show wpAny _ _ (if n < 0 then _ else _) _ _ _
  rw [if_neg (by omega)]
  show wpAny _ _ (if n ≥ 2 ^ 63 then _ else _) _ _ _
  rw [if_neg (by omega)]
  exact wpAny_bind (wpAny_mkInt (wpAny_pure ⟨_, rfl, hq⟩))
theorem len_own {Q : Value → Shared → Prop} (X : K.In s.heap) (I : InstAt s.heap x ox C od) (m : LenM K C f) (h : wpAny (model prog w) A.in1 (call (.ref f) [.ref x]) (W.LenBack Q) E s) :
    wpAny (model prog w) A (call (.builtin "len") [.ref x]) Q E s :=
  Calls.call_function_entry kind_len plain_len entry_len (args_len1 _) (len_body X I m h)
def NzBack (Q : Bool → Shared → Prop) (v : Value) (s' : Shared) : Prop := ∃ n t, v = .int n t ∧ Q (n != 0) s'
theorem truthy_own {Q : Bool → Shared → Prop} (X : K.In s.heap) (I : InstAt s.heap x ox C od) (m : LenM K C f) (h : wpAny (model prog w) A.in1 (call (.ref f) [.ref x]) (W.LenBack (NzBack Q)) E s) :
    wpAny (model prog w) A (truthy (.ref x)) Q E s := by
  unfold truthy
  refine wpAny_bind (m := callSpecial? (.ref x) (Str.ofString "__bool__")) (wpAny_bind (wpAny_bind (I.type.here ((looks_findIn X m.bo).here (wpAny_pure ?_)))))
  refine wpAny_bind (wpAny_bind (I.type.here ((looks_findIn X m.ln).here ?_)))
  show wpAny _ _ (if (some (Value.ref f)).isNone = true then _ else _) _ _ _
  rw [if_neg (by simp)]
  refine wpAny_bind (wpAny_runValue (codeAny_builtin entry_len ?_))
  rw [Around.under_plainId plain_len _]
  refine wpAny_mono (len_body X I m h) (fun fin s' ⟨r, e, n, t, e2, hq⟩ => ?_) fun _ _ e => e
  subst e e2
  exact wpAny_pure hq
theorem bool_own {Q : Value → Shared → Prop} (X : K.In s.heap) (I : InstAt s.heap x ox C od) (m : LenM K C f) (h : wpAny (model prog w) A.in1.in1.in1 (call (.ref f) [.ref x]) (W.LenBack (NzBack fun b s' => Q (.bool b) s')) E s) :
    wpAny (model prog w) A (call (.type "bool") [.ref x]) Q E s := by
  refine callType_codes (T := "bool") (Bi := Builtin.«object.__init__») (Q₁ := fun r s₁ => ∃ y, r = .bool y ∧ Q r s₁) PySem.F.called_bool (PySem.F.typeCall_bool_1 _) PySem.F.entry_object_init ?_ ?_
  · refine codeAny_of_tree ?_
    show wpAny _ A.in1.in1 (do checkBuiltinCall "bool.__new__" ⟨[.type "bool", .ref x], []⟩; again (.builtin "bool.__new__" ⟨[.type "bool", .ref x], []⟩)) _ _ s
    refine wpAny_bind (wpAny_of_eq (PySem.F.newCall_bool_1 _) (wpAny_pure ⟨plainId_quiet (by decide +kernel) _, codeAny_builtin PySem.F.entry_bool_new ?_⟩))
    rw [Around.under_plainId (by decide +kernel) _]
    unfold Builtin.«bool.__new__»
    refine wpAny_bind (m := isType (.type "bool")) (wpAny_pure ?_)
    refine wpAny_bind (wpAny_of_eq PySem.F.conv_sub_bool ?_)
    rw [if_neg (by simp)]
    refine wpAny_bind (m := someArgs "bool" 0 1 _) (wpAny_pure ?_)
    refine wpAny_bind (wpAny_mono (truthy_own X I m (wpAny_mono h (fun r s' hr => ?_) fun _ _ y => y)) (fun b s' hr => wpAny_pure (show (∃ y, Value.bool b = .bool y ∧ Q (.bool b) s') from hr)) fun _ _ y => y)
    cases r <;> first | exact hr.elim | skip
    obtain ⟨hb, n, t, e, hq⟩ := hr
    exact ⟨hb, n, t, e, _, rfl, hq⟩
  · rintro obj s₁ ⟨y, rfl, hq⟩
    exact ⟨PySem.typeIs_bool _ _, PySem.F.args_object_init_2 _ _, object_init_meets PySem.F.called_bool.init.lookup PySem.F.called_bool.made (by decide) prog w A.in1 _ s₁ ⟨PySem.typeIs_bool _ _, rfl, hq⟩⟩
end
end Cn

namespace Cn
open PySem PySem.Spec PyProof.Rows L2 PySem.W
def strK (st : EqT) (C : Cal) (c : Nat) (l : List D) (g : G) (Q : QT) : Prop := match st c with
  | some f => ∃ s : List Nat, C f [.ins c l] [] (fun _ => none) (fun r _ => r = .str s) noE ∧ Q (.str s) g
  | none => False
def lenK (ln : EqT) (C : Cal) (c : Nat) (l : List D) (Q : Nat → Prop) : Prop := match ln c with
  | some f => ∃ n : Nat, n < 2 ^ 63 ∧ C f [.ins c l] [] (fun _ => none) (fun r _ => r = .int n) noE ∧ Q n
  | none => False
def strO (st : EqT) (C : Cal) : DOL := fun ds g Q => match ds with
  | [.ins c l] => strK st C c l g Q
  | ds => oStr ds g Q
def lenO (ln : EqT) (C : Cal) : DOL := fun ds g Q => match ds with
  | [.ins c l] => lenK ln C c l fun n => Q (.int n) g
  | ds => oLen ds g Q
def truO (ln : EqT) (C : Cal) (d : D) (g : G) (Q : Bool → Prop) : Prop := match d with
  | .ins c l => lenK ln C c l fun n => Q ((n : Int) != 0)
  | d => match truthD g d with
    | some b => Q b
    | none => False
def bolO (ln : EqT) (C : Cal) : DOL := fun ds g Q => match ds with
  | [.ins c l] => lenK ln C c l fun n => Q (.bl ((n : Int) != 0)) g
  | _ => False
def dOpsC (o : Cal → DOL) (ts : List DTE) : DTE := fun C => dOps (o C) ts C
def dTruO (ln : EqT) (t : DTE) : DTT := fun C ρ g Q E => t C ρ g (fun d g1 => truO ln C d g1 fun b => Q b g1) E
def dNotVO (ln : EqT) (t : DTE) : DTE := fun C ρ g Q E => t C ρ g (fun d g1 => truO ln C d g1 fun b => Q (.bl (!b)) g1) E
def dFmtO (st : EqT) (te : DTE) : DTE := fun C ρ g Q E => te C ρ g (fun d g1 => match d with
  | .ins c l => strK st C c l g1 Q
  | .str s => s.length ≤ sizeLine ∧ Q (.str s) g1
  | .int i => i.natAbs.log2 < 1920 ∧ Q (.str (intS i)) g1
  | _ => False) E
section
variable {X : Cx} {T : Tab} {C : Cal} {W : WX} {st ln : EqT} {gm : Option Nat} {k : Nat} {e a : Expr} {te ta : DTE} {pos : Pos}
theorem ins_at {pins : List (Addr × Obj)} {σ : L2.St} {H : Hp} {s : Shared} {c : Nat} {l : List D} {x : V} {v : Value} (I : Inv X pins σ H s) (ix : Is T X.K H (.ins c l) x) (rx : RelV x v) : T.ok c = true ∧ ∃ a ox od, v = .ref a ∧ InstAt s.heap a ox (T.cA c) od := by
  simp only [Is] at ix
  obtain ⟨a, oa, dx, fs, xs, ok, rfl, ea, _⟩ := ix
  cases rx
  obtain ⟨mA, O, _⟩ := ins_rd I.hok (.inr ⟨oa, ea⟩)
  obtain ⟨od, J, _⟩ := O.look
  exact ⟨ok, a, _, od, rfl, J⟩
theorem kgE {H H' : Hp} {g : G} (ext : Ext H H') : Kg g H g H' := ⟨Cn.Ext.kp ext, fun b o e n => ⟨ext b o e, n⟩⟩
theorem rgE {K : PySem.W.Frag} {H H' : Hp} {g : G} (rg : RG T K g H) (ext : Ext H H') : RG T K g H' := fun b o e => by
  obtain ⟨z, hz'⟩ := (rg b o e).some
  exact (rg b o e).move (Cn.Ext.kp ext) ((ext b _ hz').trans hz'.symm)
theorem room3 {A : Around} (r : Room (k + 1) A) : Room k A.in1.in1.in1 := ⟨r.hd, by have := r.dp; show A.depth + 3 * k + 5 < _; omega, by have := r.un; show A.units + 1 + 1 + 1 + 16 * k + 200 < _; omega⟩
variable (F : ∀ f, CalOk gm T X.prog X.w X.K X.mg X.base k (T.fA f) (C f)) (hr : RmX gm T (k + 2) X)
include F hr
/-- what a call of an own __str__ tells -/
theorem str_run {pins : List (Addr × Obj)} {σ : L2.St} {H : Hp} {s : Shared} {c : Nat} {l : List D} {x : V} {b : Addr} {g : G} {QD : QT} {Q : VK} {A : Around} {f : Nat} {t : List Nat} {E : Value → Shared → Prop} (hR : Room k A) (hgd : A.guards = X.A.guards) (hE : Env0 X.prog X.w X.K X.mg X.base A X.stack s H) (I : Inv X pins σ H s) (ix : Is T X.K H (.ins c l) x) (rx : RelV x (.ref b)) (rg : RG T X.K g H)
    (h1 : C f [.ins c l] [] (fun _ => none) (fun r _ => r = .str t) noE) (h2 : QD (.str t) g) (cc : Ct T X.K g H QD Q) : wpAny (model X.prog X.w) A (call (.ref (T.fA f)) [.ref b]) (StrBack (EP X pins σ Q)) E s := by
  have z := hr.at_ I
  refine fn_calls (F f) h1 ⟨hR, z.gd.same hgd⟩ hE (.cons ix .nil) (.cons rx .nil) I fun v' u' H' s' I' ext i' r' => ?_
  simp only [Is] at i'
  subst i'
  obtain ⟨tk, rfl⟩ := r'
  exact ⟨.str (S t), H', I', ⟨tk, rfl⟩, (cc.mono (kgE ext)).is (d := .str t) (by simp only [Is]) (rgE rg ext) h2⟩
theorem len_run {pins : List (Addr × Obj)} {σ : L2.St} {H : Hp} {s : Shared} {c : Nat} {l : List D} {x : V} {b : Addr} {g : G} {A : Around} {f n : Nat} {E : Value → Shared → Prop} {P : Value → Shared → Prop} (hn : n < 2 ^ 63) (hR : Room k A) (hgd : A.guards = X.A.guards) (hE : Env0 X.prog X.w X.K X.mg X.base A X.stack s H) (I : Inv X pins σ H s) (ix : Is T X.K H (.ins c l) x) (rx : RelV x (.ref b)) (rg : RG T X.K g H)
    (h1 : C f [.ins c l] [] (fun _ => none) (fun r _ => r = .int n) noE) (h2 : ∀ tk H' s', Inv X pins σ H' s' → Ext H H' → P (.int n tk) s') : wpAny (model X.prog X.w) A (call (.ref (T.fA f)) [.ref b]) (PySem.W.LenBack P) E s := by
  have z := hr.at_ I
  refine fn_calls (F f) h1 ⟨hR, z.gd.same hgd⟩ hE (.cons ix .nil) (.cons rx .nil) I fun v' u' H' s' I' ext i' r' => ?_
  simp only [Is] at i'
  subst i'
  obtain ⟨tk, rfl⟩ := r'
  exact ⟨⟨Int.natCast_nonneg n, by omega⟩, h2 _ H' _ (I'.tok _) ext⟩
theorem cStrO (hs : ∀ c f, T.ok c = true → st c = some f → StrM X.K (T.cA c) (T.fA f)) : CallR X (.type "str") (LOL T X.K (strO st C)) := by
  intro pins s σ H xs us Q I rx ⟨ds, g, QD, il, rg, h, c⟩
  unfold strO at h
  split at h
  · rename_i c1 l
    obtain ⟨v, rfl, i⟩ := IsL.one il
    obtain ⟨u, rfl, rv⟩ := vals1 rx
    unfold strK at h
    split at h
    · rename_i f hf
      obtain ⟨t, h1, h2⟩ := h
      obtain ⟨ok, b, ox, od, rfl, J⟩ := ins_at I i rv
      have m := hs _ _ ok hf
      have z := hr.at_ I
      exact kso_call (by have := z.room.in1.in1.units; omega) I.kIn J m.st m.fn (str_run F hr z.room.in1.in1 rfl I.env0.in1.in1 I i rv rg h1 h2 c)
    · exact h.elim
  · exact cStr pins s σ H _ _ Q I rx ⟨_, g, QD, il, rg, h, c⟩
theorem cLenO (hs : ∀ c f, T.ok c = true → ln c = some f → LenM X.K (T.cA c) (T.fA f)) : CallR X (.builtin "len") (LOL T X.K (lenO ln C)) := by
  intro pins s σ H xs us Q I rx ⟨ds, g, QD, il, rg, h, c⟩
  unfold lenO at h
  split at h
  · rename_i c1 l
    obtain ⟨v, rfl, i⟩ := IsL.one il
    obtain ⟨u, rfl, rv⟩ := vals1 rx
    unfold lenK at h
    split at h
    · rename_i f hf
      obtain ⟨n, h0, h1, h2⟩ := h
      obtain ⟨ok, b, ox, od, rfl, J⟩ := ins_at I i rv
      have z := hr.at_ I
      exact len_own I.kIn J (hs _ _ ok hf) (len_run F hr h0 (z.room.mono (by omega : k + 1 ≤ k + 2)).in1 rfl I.env0.in1 I i rv rg h1 fun tk H' s' I' ext => ⟨.int n, H', I', ⟨tk, rfl⟩, (c.mono (kgE ext)).is (d := .int n) (by simp only [Is]) (rgE rg ext) h2⟩)
    · exact h.elim
  · exact cLen pins s σ H _ _ Q I rx ⟨_, g, QD, il, rg, h, c⟩
theorem cBolO (hs : ∀ c f, T.ok c = true → ln c = some f → LenM X.K (T.cA c) (T.fA f)) : CallR X (.type "bool") (LOL T X.K (bolO ln C)) := by
  intro pins s σ H xs us Q I rx ⟨ds, g, QD, il, rg, h, c⟩
  unfold bolO at h
  split at h
  · rename_i c1 l
    obtain ⟨v, rfl, i⟩ := IsL.one il
    obtain ⟨u, rfl, rv⟩ := vals1 rx
    unfold lenK at h
    split at h
    · rename_i f hf
      obtain ⟨n, h0, h1, h2⟩ := h
      obtain ⟨ok, b, ox, od, rfl, J⟩ := ins_at I i rv
      have z := hr.at_ I
      exact bool_own I.kIn J (hs _ _ ok hf) (len_run F hr h0 (room3 (z.room.mono (by omega : k + 1 ≤ k + 2))) rfl I.env0.in1.in1.in1 I i rv rg h1 fun tk H' s' I' ext => ⟨n, tk, rfl, .bl _, H', I', rfl, (c.mono (kgE ext)).is (d := .bl _) (by simp only [Is]) (rgE rg ext) h2⟩)
    · exact h.elim
  · exact h.elim
/-- truth, own classes too -/
def LTo (T : Tab) (K : PySem.W.Frag) (ln : EqT) (C : Cal) (x : V) (H : Hp) (Q : Bool → Hp → Prop) : Prop := ∃ d g QB, Is T K H d x ∧ RG T K g H ∧ truO ln C d g QB ∧ ∀ b H', Ext H H' → QB b → Q b H'
theorem tru_own (hs : ∀ c f, T.ok c = true → ln c = some f → LenM X.K (T.cA c) (T.fA f)) : TruR X (LTo T X.K ln C) := by
  intro pins s σ H x v Q I rx ⟨d, g, QB, i, rg, h, c⟩
  unfold truO at h
  split at h
  · unfold lenK at h
    split at h
    · rename_i f hf
      obtain ⟨n, h0, h1, h2⟩ := h
      obtain ⟨ok, b, ox, od, rfl, J⟩ := ins_at I i rx
      have z := hr.at_ I
      exact truthy_own I.kIn J (hs _ _ ok hf) (len_run F hr h0 (z.room.mono (by omega : k + 1 ≤ k + 2)).in1 rfl I.env0.in1 I i rx rg h1 fun tk H' s' I' ext => ⟨n, tk, rfl, H', I', c _ _ ext h2⟩)
    · exact h.elim
  · split at h
    · rename_i b e
      exact tru_ok pins s σ H x v Q I rx ⟨b, truth_of rg i e, c b H (fun _ _ e => e) h⟩
    · exact h.elim
theorem dt_truO (hs : ∀ c f, T.ok c = true → ln c = some f → LenM X.K (T.cA c) (T.fA f)) (hp : plainT e = true) (h : PE X e (LE T X.K C W te)) : PT X e (LT T X.K C W (dTruO ln te)) := by
  refine PT.imp (pt_truthR h (tru_own F hr hs) (isTrue_shape hp)) fun σ H Q ⟨ρ, g, QD, ED, rs, rg, h, c, ce⟩ => ?_
  refine ⟨ρ, g, _, ED, rs, rg, h, ⟨fun v d H1 g1 k1 i1 rg1 h1 => ?_⟩, ce⟩
  exact ⟨d, g1, _, i1, rg1, h1, fun b H' ext q => c.go _ _ _ (k1.trans (kgE ext)) (rgE rg1 ext) q⟩
theorem de_notVO (hs : ∀ c f, T.ok c = true → ln c = some f → LenM X.K (T.cA c) (T.fA f)) (h : PE X a (LE T X.K C W ta)) : PE X (.UnaryOp .Not a pos) (LE T X.K C W (dNotVO ln ta)) := by
  refine ⟨fun pins s σ H Q I ⟨ρ, g, QD, ED, rs, rg, hh, c, ce⟩ => ?_⟩
  refine UnaryOp_ (thn (h.run pins s σ H (fun x H1 => LTo T X.K ln C x H1 fun b H2 => Q (.bl (!b)) H2) I ⟨ρ, g, _, ED, rs, rg, hh, ⟨fun v d H1 g1 k1 i1 rg1 h1 => ?_⟩, ce⟩) fun v s1 ⟨x, H1, I1, r1, q1⟩ => ?_)
  · exact ⟨d, g1, _, i1, rg1, h1, fun b H' ext q => c.go _ (.bl (!b)) _ _ (k1.trans (kgE ext)) (by simp only [Is]) (rgE rg1 ext) q⟩
  · exact not_of (wpAny_mono (tru_own F hr hs pins s1 σ H1 x v _ I1 r1 q1) (fun b s2 ⟨H2, I2, q2⟩ => ⟨.bl (!b), H2, I2, rfl, q2⟩) fun _ _ e => e)
theorem de_fmtO (hs : ∀ c f, T.ok c = true → st c = some f → StrM X.K (T.cA c) (T.fA f)) (he : PE X e (LE T X.K C W te)) : PE X (.FormattedValue e (-1) none pos) (LE T X.K C W (dFmtO st te)) := by
  refine ⟨fun pins s σ H Q I ⟨ρ, g, QD, ED, rs, rg, h, c, ce⟩ => ?_⟩
  refine wpAny_FormattedValue_plain (thn (he.run pins s σ H (fun v H1 => ∃ d g1, Kg g H g1 H1 ∧ Is T X.K H1 d v ∧ RG T X.K g1 H1 ∧ (match d with
    | .ins c l => strK st C c l g1 QD
    | .str s => s.length ≤ sizeLine ∧ QD (.str s) g1
    | .int i => i.natAbs.log2 < 1920 ∧ QD (.str (intS i)) g1
    | _ => False)) I ⟨ρ, g, _, ED, rs, rg, h, ⟨fun v d H1 g1 k1 i1 rg1 h1 => ⟨d, g1, k1, i1, rg1, h1⟩⟩, ce⟩) fun v s1 hv => ?_)
  obtain ⟨x, H1, I1, r1, d, g1, k1, i1, rg1, h1⟩ := hv
  split at h1
  · unfold strK at h1
    split at h1
    · rename_i f hf
      obtain ⟨t, h1, h2⟩ := h1
      obtain ⟨ok, b, ox, od, rfl, J⟩ := ins_at I1 i1 r1
      have m := hs _ _ ok hf
      have z := hr.at_ I1
      have I2 : Inv X pins σ H1 { s1 with toks := s1.toks + 1 } := I1.tok _
      exact kfo_fieldS (by have := (z.room.mono (by omega : k + 1 ≤ k + 2)).in1.units; omega) I1.kIn J m.fm m.ob m.st m.fn (str_run F hr (z.room.mono (by omega : k + 1 ≤ k + 2)).in1 rfl I2.env0.in1 I2 i1 r1 rg1 h1 h2 (c.mono k1))
    · exact h1.elim
  · simp only [Is] at i1
    subst i1
    obtain ⟨t, rfl⟩ := r1
    exact wpAny_formatField_str ⟨.str (S _), H1, I1, ⟨t, rfl⟩, (c.mono k1).is (d := .str _) (by simp only [Is]) rg1 h1.2⟩ ⟨.str (S _), H1, I1.tok _, ⟨_, rfl⟩, (c.mono k1).is (d := .str _) (by simp only [Is]) rg1 h1.2⟩ (by rw [S_len]; exact h1.1)
  · simp only [Is] at i1
    subst i1
    obtain ⟨t, rfl⟩ := r1
    exact wpAny_formatField_int h1.1 ⟨.str (toString _), H1, I1.tok _, ⟨_, rfl⟩, (c.mono k1).is (d := .str _) (by simp only [Is]; rw [S_int]) rg1 h1.2⟩
  · exact h1.elim
end
end Cn

namespace Cn
open PySem PySem.Spec PyProof.Rows L2
/-! ## HC. Defs called while an exception is handled -/
/-- the def at a keeps the promise sp, called from an except suite -/
def HCal (T : Tab) (P : Program) (w : World) (K : PySem.W.Frag) (mg : Str → Option Value) (base : Heap) (k : Nat) (a : Addr) (sp : DSp) : Prop :=
  ∀ (A : Around) (outer : List Env) (s : Shared) (H : Hp) (us ws : List Value) (vs zs : List V) (ks : List Nat) (Q : VK) (E : XK), L2H.RoomH k A → Env0 P w K mg base A outer s H → Vals vs us → Vals zs ws →
    LSp T K sp ks vs zs H Q E → codeAny (model P w) A (.call (.ref a) ⟨us, (ks.map nm).zip ws⟩) (CR (L2.CX P w) outer P w H s Q E) s
theorem HCal.mono {T : Tab} {P : Program} {w : World} {K : PySem.W.Frag} {mg : Str → Option Value} {base : Heap} {j k : Nat} {a : Addr} {sp : DSp} (c : HCal T P w K mg base j a sp) (h : j ≤ k) : HCal T P w K mg base k a sp :=
  fun A outer s H us ws vs zs ks Q E r => c A outer s H us ws vs zs ks Q E (r.mono h)
section
variable {X : Cx} {T : Tab} {C : Cal} {W : WX} {k f : Nat} {x : Str} {es : List Expr} {ts tks : List DTE} {ks : List Nat} {kws : List Keyword} {p pos : Pos}
theorem run_h (F : HCal T X.prog X.w X.K X.mg X.base k (T.fA f) (C f)) (hr : L2H.RoomH k X.A) (tk : Takes X W) : RunC X T C W f := fun pins σ H s Q us ws vs zs ks I r rz h => by
  refine wpAny_call (codeAny_mono (F X.A X.stack s H us ws vs zs ks Q (WE W σ) hr I.env0 r rz h) fun r s' hq => ?_)
  cases r with
  | error e => exact passAt tk σ pins H s e s' I hq
  | ok fl =>
    cases fl with
    | ret u => exact I.after hq
    | next => exact False.elim hq
    | brk => exact False.elim hq
    | cont => exact False.elim hq
theorem de_callG (F : RunC X T C W f) (hg : Gl X x) (hm : X.mg x = some (.ref (T.fA f))) (hk : PySem.W.keepIn X.K (.ref (T.fA f)) = true) (hdb : (x == ("__debug__" : Str)) = false)
    (hl : ts.length = es.length) (hp : es.all plainArg = true) (hn : kwNames kws ks) (ha : PA X es (LA T X.K C W ts)) (hb : DK X T C W kws tks) : PE X (.Call (.Name x p) es kws pos) (LE T X.K C W (dCall f ts ks tks)) := by
  refine ⟨fun pins s σ H Q I ⟨ρ, g, QD, ED, rs, rg, h, c, ce⟩ => ?_⟩
  refine wpAny_Call_Name_kw (ld_glob I hg hm ?_ hdb)
  refine call_with (first := []) hk hl hp hn ha hb I rs rg h ce fun us ws vs zs ds es' H' g' s' k' I' r rz i iz rg' q => ?_
  exact F _ _ _ _ _ us ws vs zs ks I' r rz ⟨ds, es', g', QD, ED, i, iz, rg', q, c.mono k', ce.mono k'⟩
theorem takes_no : Takes X (fun _ _ _ _ => False) := fun _ _ x => by
  obtain ⟨_, _, _, _, _, _, _, _, _, _, _, _, _, _, _, _, z⟩ := x
  exact z.elim
end
end Cn

namespace Cn
open PySem PySem.Spec PyProof.Rows L2

/-! ## Y. From the text to the readings: expressions -/
def eqC : List Nat → List Nat → Bool
  | [], [] => true
  | a :: as, b :: bs => (Nat.beq a b).and (eqC as bs)
  | _, _ => false
theorem eqC_iff : ∀ {a b : List Nat}, eqC a b = true ↔ a = b
  | [], [] => by simp [eqC]
  | [], b :: bs => by simp [eqC]
  | a :: as, [] => by simp [eqC]
  | a :: as, b :: bs => by simp [eqC, eqC_iff, Nat.beq_eq]
def eqS (a b : Str) : Bool := eqC a.cps.toList b.cps.toList
theorem eqS_iff {a b : Str} : eqS a b = true ↔ a = b := by
  unfold eqS
  refine ⟨fun h => ?_, fun h => by rw [h]; exact eqC_iff.mpr rfl⟩
  cases a; cases b
  exact congrArg Str.mk (Array.toList_inj.mp (eqC_iff.mp h))
def lkS {α : Type} (x : Str) : List (Str × α) → Option α
  | [] => none
  | p :: r => match eqS x p.1 with
    | true => some p.2
    | false => lkS x r
theorem lkS_eq {α : Type} {x : Str} : ∀ {l : List (Str × α)}, lkS x l = l.lookup x
  | [] => rfl
  | (y, a) :: r => by
    unfold lkS
    by_cases h : x = y
    · have h1 : eqS x y = true := eqS_iff.mpr h
      simp only [h1, List.lookup, beq_iff_eq.mpr h]
    · have h1 : eqS x y = false := by cases e : eqS x y with
        | true => exact absurd (eqS_iff.mp e) h
        | false => rfl
      simp only [h1, List.lookup, beq_eq_false_iff_ne.mpr h]
      exact lkS_eq
def ixS (x : Str) : List Str → Nat → Option Nat
  | [], _ => none
  | y :: r, i => match eqS x y with
    | true => some i
    | false => ixS x r (i + 1)
theorem ixS_ok {x : Str} : ∀ {l : List Str} {i j : Nat}, ixS x l i = some j → ∃ d, j = i + d ∧ l[d]? = some x
  | [], i, j, h => by cases h
  | y :: r, i, j, h => by
    unfold ixS at h
    cases e : eqS x y with
    | true => rw [e] at h; cases h; exact ⟨0, rfl, by rw [eqS_iff.mp e]; rfl⟩
    | false =>
      rw [e] at h
      obtain ⟨d, h1, h2⟩ := ixS_ok h
      exact ⟨d + 1, by omega, by simpa using h2⟩
theorem ixS_at {x : Str} {l : List Str} {j : Nat} (h : ixS x l 0 = some j) : l[j]? = some x := by
  obtain ⟨d, rfl, q⟩ := ixS_ok h
  simpa using q
def nmS : List Str := nmL.map Str.ofString
def nmIx (x : Str) : Option Nat := ixS x nmS 0
theorem nmIx_ok {x : Str} {f : Nat} (h : nmIx x = some f) : nm f = x := by
  have q := ixS_at h
  unfold nmS at q
  rw [List.getElem?_map] at q
  unfold nm
  cases e : nmL[f]? with
  | none => rw [e] at q; cases q
  | some s => rw [e] at q; simpa using q
def kwIx : List Keyword → Option (List Nat)
  | [] => some []
  | k :: r => match k.arg with
    | none => none
    | some x => match nmIx x with
      | none => none
      | some i => match kwIx r with
        | none => none
        | some l => some (i :: l)
theorem kwIx_ok : ∀ {kws : List Keyword} {ks : List Nat}, kwIx kws = some ks → kwNames kws ks
  | [], ks, h => by cases h; rfl
  | k :: r, ks, h => by
    unfold kwIx at h
    split at h
    · cases h
    · rename_i x e
      split at h
      · cases h
      · rename_i i hi
        split at h
        · cases h
        · rename_i l hl
          cases h
          have := kwIx_ok hl
          unfold kwNames at this ⊢
          simp only [List.map_cons, e, nmIx_ok hi, this]

/-- what a text's top has left, by name; where a new list may change; the defs that stand there -/
structure Sig where
  fns : List (Str × Nat)
  clss : List (Str × Nat)
  mks : List (Nat × (Nat × Bool))
  blts : List Str
  cons : List (Str × D)
  muts : List (Nat × Nat)
  mt : MT
  gm : Option Nat := none
  w : List Nat := []
  kR : Nat := 0
  eqs : List (Nat × Nat) := []
  xcls : List (Str × Nat) := []
  rzs : List Nat := []
  sts : List (Nat × Nat) := []
  lns : List (Nat × Nat) := []
  hots : List Nat := []
  hms : List Nat := []
def Sig.et (Γ : Sig) : EqT := fun c => Γ.eqs.lookup c
def Sig.st (Γ : Sig) : EqT := fun c => Γ.sts.lookup c
def Sig.ln (Γ : Sig) : EqT := fun c => Γ.lns.lookup c
def mutAt (Γ : Sig) (p : Pos) : Bool := Γ.muts.any fun q => (Nat.beq q.1 p.line).and (Nat.beq q.2 p.col)
def memS (x : Str) : List Str → Bool
  | [] => false
  | y :: r => (eqS x y).or (memS x r)
theorem memS_ok {x : Str} : ∀ {l : List Str}, memS x l = true → x ∈ l
  | [], h => by cases h
  | y :: r, h => by
    unfold memS at h
    rcases (Bool.or_eq_true_iff.mp h) with h | h
    · rw [eqS_iff.mp h]; exact List.mem_cons_self
    · exact List.mem_cons_of_mem _ (memS_ok h)
def dbg : Str := "__debug__"
def cld : Str := "__classdict__"
def nme : Str := "__name__"

/-- a block's scope, and its own part -/
structure Sc where
  sc : Scope
  own : Scope
structure GoodE (T : Tab) (Γ : Sig) (C : Cal) (N : List Str) (k : Nat) (X : Cx) (sc : Sc) (W : WX) : Prop where
  rm2 : RmX Γ.gm T (k + 2) X
  cal : ∀ f, CalOk Γ.gm T X.prog X.w X.K X.mg X.base k (T.fA f) (C f)
  calm : X.calm = true
  hN : X.N = N
  nd : N.Nodup
  hsc : X.env.scope = sc.sc
  kind : sc.sc.kind = .function
  cell : ∀ x, sc.own.names.lookup x = some .cell → X.fn x = true
  tk : Takes X W
  KC : ClsOk T X.K
  mth : ∀ c m f, T.ok c = true → Γ.mt c m = some f → Meth X.K (T.cA c) (nm m) (T.fA f)
  fns : ∀ x f, Γ.fns.lookup x = some f → X.mg x = some (.ref (T.fA f)) ∧ PySem.W.keepIn X.K (.ref (T.fA f)) = true
  clss : ∀ x c, Γ.clss.lookup x = some c → X.mg x = some (.ref (T.cA c)) ∧ T.ok c = true
  mks : ∀ c q, Γ.mks.lookup c = some q → T.ok c = true ∧ Mk X.K (T.cA c) (T.fA q.1)
  blts : ∀ x ∈ Γ.blts, X.mg x = none
  cons : ∀ x d, Γ.cons.lookup x = some d → ∃ v u, X.mg x = some u ∧ RelV v u ∧ ∀ H, Is T X.K H d v
  hk : Γ.kR + 32 ≤ k
  rp : OwnRp Γ.w T X.prog X.w X.K X.mg X.base Γ.kR
  eqs : ∀ c f, T.ok c = true → Γ.et c = some f → EqM X.K (T.cA c) (T.fA f)
  xcl : ∀ x c, Γ.xcls.lookup x = some c → X.mg x = some (.ref (T.xA c)) ∧ T.xok c = true
  sts : ∀ c f, T.ok c = true → Γ.st c = some f → StrM X.K (T.cA c) (T.fA f)
  lns : ∀ c f, T.ok c = true → Γ.ln c = some f → LenM X.K (T.cA c) (T.fA f)
  hcs : ∀ f, memN f Γ.hots = true → HCal T X.prog X.w X.K X.mg X.base k (T.fA f) (C f)
  hmo : ∀ m c f, memN m Γ.hms = true → Γ.mt c m = some f → memN f Γ.hots = true
/-- the part of it that holds while an exception is handled, too -/
structure GoodB (T : Tab) (Γ : Sig) (N : List Str) (X : Cx) (sc : Sc) : Prop where
  hN : X.N = N
  nd : N.Nodup
  hsc : X.env.scope = sc.sc
  kind : sc.sc.kind = .function
  cell : ∀ x, sc.own.names.lookup x = some .cell → X.fn x = true
  KC : ClsOk T X.K
  fns : ∀ x f, Γ.fns.lookup x = some f → X.mg x = some (.ref (T.fA f)) ∧ PySem.W.keepIn X.K (.ref (T.fA f)) = true
  clss : ∀ x c, Γ.clss.lookup x = some c → X.mg x = some (.ref (T.cA c)) ∧ T.ok c = true
  blts : ∀ x ∈ Γ.blts, X.mg x = none
  cons : ∀ x d, Γ.cons.lookup x = some d → ∃ v u, X.mg x = some u ∧ RelV v u ∧ ∀ H, Is T X.K H d v
  xcl : ∀ x c, Γ.xcls.lookup x = some c → X.mg x = some (.ref (T.xA c)) ∧ T.xok c = true
/-- what a suite asks: the same, room, calls there -/
structure GoodH (T : Tab) (Γ : Sig) (C : Cal) (N : List Str) (k : Nat) (X : Cx) (sc : Sc) (W : WX) : Prop where
  B : GoodB T Γ N X sc
  tk : Takes X W
  rh : L2H.RoomH k X.A
  mth : ∀ c m f, T.ok c = true → Γ.mt c m = some f → Meth X.K (T.cA c) (nm m) (T.fA f)
  hcs : ∀ f, memN f Γ.hots = true → HCal T X.prog X.w X.K X.mg X.base k (T.fA f) (C f)
  hmo : ∀ m c f, memN m Γ.hms = true → Γ.mt c m = some f → memN f Γ.hots = true
theorem GoodE.toB {X : Cx} {T : Tab} {Γ : Sig} {C : Cal} {N : List Str} {k : Nat} {sc : Sc} {W : WX} (G : GoodE T Γ C N k X sc W) : GoodB T Γ N X sc := ⟨G.hN, G.nd, G.hsc, G.kind, G.cell, G.KC, G.fns, G.clss, G.blts, G.cons, G.xcl⟩
section
variable {X : Cx} {T : Tab} {Γ : Sig} {C : Cal} {N : List Str} {k : Nat} {sc : Sc} {W : WX}
theorem GoodE.toH (G : GoodE T Γ C N k X sc W) : GoodH T Γ C N k X sc W := ⟨G.toB, G.tk, ⟨by have := G.rm2.rm.room.dp; omega, by have := G.rm2.rm.room.un; omega⟩, G.mth, G.hcs, G.hmo⟩
theorem GoodE.rm (G : GoodE T Γ C N k X sc W) : RmX Γ.gm T (k + 1) X := G.rm2.mono (Nat.le_succ _)
theorem GoodE.rk (G : GoodE T Γ C N k X sc W) : RmX Γ.gm T k X := G.rm.mono (Nat.le_succ k)
end
/-- a constant -/
def cConst : Const → DTE
  | .int i => dC (.int i)
  | .str s => dC (.str s.cps.toList)
  | .bool b => dC (.bl b)
  | .none => dC .non
  | _ => dStop
def isGl (sc : Sc) (x : Str) : Bool := match lkS x sc.sc.names with
  | some .globalImplicit => !eqS x dbg
  | _ => false
def isVs (sc : Sc) (x : Str) : Bool := match lkS x sc.sc.names with
  | some .local => !eqS x dbg && !eqS x cld
  | some .cell => !eqS x dbg && !eqS x cld
  | some .free => !eqS x dbg && !eqS x cld
  | _ => false
def isLoc (sc : Sc) (x : Str) : Bool := match lkS x sc.sc.names with
  | some .local => true
  | some .cell => match lkS x sc.own.names with
    | some .cell => true
    | _ => false
  | _ => false
def tyOf (x : Str) : Option Nat := ixS x [("int" : Str), ("bool" : Str), ("str" : Str), ("tuple" : Str), ("list" : Str), ("dict" : Str)] 0
def xtyOf (x : Str) : Option Nat := ixS x [("ValueError" : Str), ("KeyError" : Str), ("IndexError" : Str), ("ZeroDivisionError" : Str)] 0
def cName (Γ : Sig) (N : List Str) (sc : Sc) (x : Str) : DTE :=
  match isVs sc x with
  | true => match ixS x N 0 with
    | some i => dVar i
    | none => dStop
  | false => match isGl sc x with
    | true => match lkS x Γ.fns with
      | some f => dC (.fn f)
      | none => match lkS x Γ.clss with
        | some c => dC (.cls c)
        | none => match lkS x Γ.cons with
          | some d => dC d
          | none => match lkS x Γ.xcls with
            | some c => dC (.xcl c)
            | none => match memS x Γ.blts, tyOf x, xtyOf x with
              | true, some n, _ => dC (.ty n)
              | true, none, some n => dC (.xty n)
              | _, _, _ => dStop
    | false => dStop
section
variable {X : Cx} {T : Tab} {Γ : Sig} {C : Cal} {N : List Str} {k : Nat} {sc : Sc} {W : WX} {pos : Pos} {x : Str} {e : Expr}
theorem cConst_ok {c : Const} {j : Nat} : PE X (.Constant c j pos) (LE T X.K C W (cConst c)) := by
  unfold cConst
  split
  · exact de_c pe_int fun H => by simp only [Is]
  · exact de_c pe_str fun H => by simp only [Is, S_list]
  · exact de_c pe_bl fun H => by simp only [Is]
  · exact de_c pe_non fun H => by simp only [Is]
  · exact de_stop
theorem eqS_ne {a b : Str} (h : (!eqS a b) = true) : (a == b) = false := by
  cases e : eqS a b with
  | true => rw [e] at h; cases h
  | false => exact beq_eq_false_iff_ne.mpr fun z => by rw [eqS_iff.mpr z] at e; cases e
theorem isGl_okB (G : GoodB T Γ N X sc) (h : isGl sc x = true) : Gl X x ∧ (x == ("__debug__" : Str)) = false := by
  unfold isGl at h
  split at h
  · rename_i e
    rw [lkS_eq] at e
    exact ⟨by unfold Gl Env.kindOf; rw [G.hsc]; exact e, eqS_ne h⟩
  · cases h
theorem isGl_ok (G : GoodE T Γ C N k X sc W) (h : isGl sc x = true) : Gl X x ∧ (x == ("__debug__" : Str)) = false := isGl_okB G.toB h
theorem isVs_okB (G : GoodB T Γ N X sc) (h : isVs sc x = true) : Vis X.env.scope x ∧ (x == ("__debug__" : Str)) = false ∧ (x == ("__classdict__" : Str)) = false := by
  unfold isVs at h
  rw [G.hsc]
  split at h <;> first | (cases h; done) | (rename_i e; rw [lkS_eq] at e; obtain ⟨h1, h2⟩ := Bool.and_eq_true_iff.mp h)
  · exact ⟨.inl e, eqS_ne h1, eqS_ne h2⟩
  · exact ⟨.inr (.inl e), eqS_ne h1, eqS_ne h2⟩
  · exact ⟨.inr (.inr e), eqS_ne h1, eqS_ne h2⟩
theorem isVs_ok (G : GoodE T Γ C N k X sc W) (h : isVs sc x = true) : Vis X.env.scope x ∧ (x == ("__debug__" : Str)) = false ∧ (x == ("__classdict__" : Str)) = false := isVs_okB G.toB h
theorem isLoc_okB (G : GoodB T Γ N X sc) (h : isLoc sc x = true) : Loc X.env.scope x ∧ (X.fn x = true ∨ X.env.scope.names.lookup x = some .local) := by
  unfold isLoc at h
  rw [G.hsc]
  split at h <;> first | (cases h; done) | (rename_i e; rw [lkS_eq] at e)
  · exact ⟨.inl e, .inr e⟩
  · split at h <;> first | (cases h; done) | (rename_i e2; rw [lkS_eq] at e2)
    exact ⟨.inr e, .inl (G.cell x e2)⟩
theorem isLoc_ok (G : GoodE T Γ C N k X sc W) (h : isLoc sc x = true) : Loc X.env.scope x ∧ (X.fn x = true ∨ X.env.scope.names.lookup x = some .local) := isLoc_okB G.toB h
theorem pe_glob {v : V} {u : Value} (hg : Gl X x) (hm : X.mg x = some u) (r : RelV v u) (hd : (x == ("__debug__" : Str)) = false) : PE X (.Name x pos) (tC v) := ⟨fun _ s σ H _ I h => ld_glob I hg hm ⟨v, H, I, r, h⟩ hd⟩
theorem tyOf_ok {n : Nat} (h : tyOf x = some n) : bootBuiltins x = some (.type (tyN n)) ∧ x ≠ "__name__" ∧ (x == ("__debug__" : Str)) = false := by
  have q := ixS_at h
  match n, q with
  | 0, q => simp at q; subst q; exact ⟨boot_int, by decide, by decide⟩
  | 1, q => simp at q; subst q; exact ⟨boot_bool, by decide, by decide⟩
  | 2, q => simp at q; subst q; exact ⟨boot_str, by decide, by decide⟩
  | 3, q => simp at q; subst q; exact ⟨boot_tuple, by decide, by decide⟩
  | 4, q => simp at q; subst q; exact ⟨boot_list, by decide, by decide⟩
  | 5, q => simp at q; subst q; exact ⟨boot_dict, by decide, by decide⟩
  | n + 6, q => simp at q
theorem xtyOf_ok {n : Nat} (h : xtyOf x = some n) : bootBuiltins x = some (.type (xtyN n)) ∧ x ≠ "__name__" ∧ (x == ("__debug__" : Str)) = false := by
  have q := ixS_at h
  match n, q with
  | 0, q => simp at q; subst q; exact ⟨boot_ValueError, by decide, by decide⟩
  | 1, q => simp at q; subst q; exact ⟨boot_KeyError, by decide, by decide⟩
  | 2, q => simp at q; subst q; exact ⟨boot_IndexError, by decide, by decide⟩
  | 3, q => simp at q; subst q; exact ⟨boot_ZeroDivisionError, by decide, by decide⟩
  | n + 4, q => simp at q
theorem cName_okB (G : GoodB T Γ N X sc) : PE X (.Name x pos) (LE T X.K C W (cName Γ N sc x)) := by
  unfold cName
  split
  · rename_i hv
    obtain ⟨v1, v2, v3⟩ := isVs_okB G hv
    split
    · rename_i i hi
      exact de_var (by rw [G.hN]; exact ixS_at hi) v1 v2 v3
    · exact de_stop
  · split
    · rename_i hv
      obtain ⟨g1, g2⟩ := isGl_okB G hv
      split
      · rename_i f hf
        rw [lkS_eq] at hf
        exact de_c (pe_glob (v := .ref (T.fA f)) g1 (G.fns x f hf).1 rfl g2) fun H => by simp only [Is]
      · split
        · rename_i c hc
          rw [lkS_eq] at hc
          exact de_c (pe_glob (v := .ref (T.cA c)) g1 (G.clss x c hc).1 rfl g2) fun H => by simp only [Is, (G.clss x c hc).2, and_self]
        · split
          · rename_i d hd
            rw [lkS_eq] at hd
            obtain ⟨v, u, h1, h2, h3⟩ := G.cons x d hd
            exact de_c (pe_glob g1 h1 h2 g2) h3
          · split
            · rename_i c hc
              rw [lkS_eq] at hc
              exact de_c (pe_glob (v := .ref (T.xA c)) g1 (G.xcl x c hc).1 rfl g2) fun H => by simp only [Is, (G.xcl x c hc).2, and_self]
            · split
              · rename_i n hb hn
                obtain ⟨t1, t2, t3⟩ := tyOf_ok hn
                exact de_c (pe_bltn (v := .ty (tyN n)) g1 (G.blts x (memS_ok hb)) t1 rfl t2 t3) fun H => by simp only [Is]
              · rename_i n hb _ hn
                obtain ⟨t1, t2, t3⟩ := xtyOf_ok hn
                exact de_c (pe_bltn (v := .ty (xtyN n)) g1 (G.blts x (memS_ok hb)) t1 rfl t2 t3) fun H => by simp only [Is]
              · exact de_stop
    · exact de_stop
theorem cName_ok (G : GoodE T Γ C N k X sc W) : PE X (.Name x pos) (LE T X.K C W (cName Γ N sc x)) := cName_okB G.toB
end
end Cn

namespace Cn
open PySem PySem.Spec PyProof.Rows L2 PySem.W
/-! ## ED. == and != of trees with instances anywhere, by their own __eq__ -/
section
variable {prog : Program} {w : World} {A : Around} {E : Value → Shared → Prop} {s : Shared} {K : PySem.W.Frag} {x C f : Addr} {ox : Obj} {od : Option Obj} {a : Value}
/-- a thing of a built-in kind on the left, an instance on the right -/
theorem rc_back {Ta ida : String} {Q : Value → Shared → Prop} (ha : s.TypeIs a Ta) (hu : A.units < cLine) (X : K.In s.heap) (I : InstAt s.heap x ox C od) (hs : subIn K (.ref C) (.type Ta) = some false) (h1 : Slot Ta (cmpInfo .Eq).2.1 ida)
    (hc1 : ∀ Q' : Value → Shared → Prop, Q' .notImplemented s → wpAny (model prog w) A (call (.builtin ida) [a, .ref x]) Q' E s) (m : EqM K C f)
    (h : wpAny (model prog w) A (call (.ref f) [.ref x, a]) (fun v s' => ∃ r, v = .bool r ∧ Q (.bool r) s') E s) : wpAny (model prog w) A (richCompare .Eq a (.ref x)) Q E s := by
  have hi : cmpInfo CmpOp.Eq = (("==", "__eq__", "__eq__") : String × Str × Str) := rfl
  rw [hi] at h1
  simp only [richCompare, hi, ha.oneThing_none]
  refine wpAny_holding ?_
  refine wpAny_bind (wpAny_cRoomFor hu ?_)
  refine wpAny_bind (wpAny_typeOf ha (wpAny_bind (I.type.here ?_)))
  have hne : (Value.type Ta != Value.ref C) = true := by simp
  simp only [hne, if_true]
  refine wpAny_bind ((looks_subIn X hs).here ?_)
  simp only [Bool.false_eq_true, if_false, Bool.not_false, if_true]
  refine wpAny_bind (m := tryCompare a _ (.ref x)) (wpAny_tryCompare_declines ha h1 (hc1 _ ⟨rfl, ?_⟩))
  refine wpAny_bind (m := tryCompare (.ref x) _ a) ?_
  unfold tryCompare
  refine wpAny_bind (ifBound_K X I m.eq m.fn (wpAny_mono h (fun v s' hv => ?_) fun _ _ e => e))
  obtain ⟨r, rfl, q⟩ := hv
  exact wpAny_pure (wpAny_pure q)
theorem rn_back {Ta ida : String} {Q : Value → Shared → Prop} (ha : s.TypeIs a Ta) (hu : A.units + 1 < cLine) (X : K.In s.heap) (I : InstAt s.heap x ox C od) (hs : subIn K (.ref C) (.type Ta) = some false) (h1 : Slot Ta (cmpInfo .NotEq).2.1 ida)
    (hc1 : ∀ Q' : Value → Shared → Prop, Q' .notImplemented s → wpAny (model prog w) A (call (.builtin ida) [a, .ref x]) Q' E s) (m : EqM K C f)
    (h : wpAny (model prog w) A.in1 (call (.ref f) [.ref x, a]) (fun v s' => ∃ r, v = .bool r ∧ Q (.bool (!r)) s') E s) : wpAny (model prog w) A (richCompare .NotEq a (.ref x)) Q E s := by
  have hi : cmpInfo CmpOp.NotEq = (("!=", "__ne__", "__ne__") : String × Str × Str) := rfl
  rw [hi] at h1
  simp only [richCompare, hi, ha.oneThing_none]
  refine wpAny_holding ?_
  refine wpAny_bind (wpAny_cRoomFor (Nat.lt_of_succ_lt hu) ?_)
  refine wpAny_bind (wpAny_typeOf ha (wpAny_bind (I.type.here ?_)))
  have hne : (Value.type Ta != Value.ref C) = true := by simp
  simp only [hne, if_true]
  refine wpAny_bind ((looks_subIn X hs).here ?_)
  simp only [Bool.false_eq_true, if_false, Bool.not_false, if_true]
  refine wpAny_bind (m := tryCompare a _ (.ref x)) (wpAny_tryCompare_declines ha h1 (hc1 _ ⟨rfl, ?_⟩))
  refine wpAny_bind (m := tryCompare (.ref x) _ a) ?_
  unfold tryCompare
  refine wpAny_bind (ifBound_objNe X I m.ne ?_)
  refine wpAny_call (codeAny_call_builtin F.cmp_object.ne.plain F.cmpEntry_ne (check_slot F.cmpKind_ne F.cmpSplit_ne (I.type.andThen (looks_mroIn X m.ob)) (F.cmpArgs_ne _ _) (objNe_entry (by show A.units + 1 < cLine; exact hu) X I m (wpAny_mono h (fun v s' z => ?_) fun _ _ e => e))))
  obtain ⟨r, rfl, q⟩ := z
  exact ⟨r, rfl, wpAny_pure (wpAny_pure q)⟩
end
end Cn
namespace Cn
open PySem PySem.Spec PyProof.Rows L2 PySem.W PySem.SeqAt
open AutoSeq1 (wpAny_loadPart')
/-! ### what a built-in kind answers to a thing that is none of it -/
abbrev NoPrim (o : Obj) : Prop := ∀ p, o.data ≠ .prim p

theorem asInt_none {M : Model} {A : Around} {E : Value → Shared → Prop} {s : Shared} {x : Addr} {o : Obj} {Q : Option Int → Shared → Prop} (hl : s.heap.get? x = some o) (hp : NoPrim o) (q : Q none s) : wpAny M A (asInt? (.ref x)) Q E s := by
  unfold asInt?
  refine wpAny_bind (wpAny_load hl ?_)
  obtain ⟨cls, dct, data, slots⟩ := o
  cases data <;> first | exact absurd rfl (hp _) | exact wpAny_pure q
theorem asStr_none {M : Model} {A : Around} {E : Value → Shared → Prop} {s : Shared} {x : Addr} {o : Obj} {Q : Option Str → Shared → Prop} (hl : s.heap.get? x = some o) (hp : NoPrim o) (q : Q none s) : wpAny M A (asStr? (.ref x)) Q E s := by
  unfold asStr?
  refine wpAny_bind (wpAny_load hl ?_)
  obtain ⟨cls, dct, data, slots⟩ := o
  cases data <;> first | exact absurd rfl (hp _) | exact wpAny_pure q
theorem dcl_none_eq (x : Addr) : Gives (Builtin.«NoneType.__eq__» ⟨[.none, .ref x], []⟩) (.val .notImplemented) := .of_eq rfl
theorem dcl_int_eq (b : Int) (u : Tok) (x : Addr) (o : Obj) (hp : NoPrim o) : Meets (Builtin.«int.__eq__» ⟨[.int b u, .ref x], []⟩) (fun _ R s => s.heap.get? x = some o ∧ R (.ok (.ret .notImplemented)) s) :=
  .of_wp fun prog w A R s h => by
    obtain ⟨hl, h⟩ := h
    show wpAny _ _ (slotArgs "__eq__" 1 ⟨[.int b u, .ref x], []⟩ >>= _) _ _ _
    refine wpAny_bind (wpAny_pure ?_)
    show wpAny _ _ (Builtin.Int.intOfSelf (.int b u) >>= _) _ _ _
    refine wpAny_bind (m := Builtin.Int.intOfSelf (.int b u)) (wpAny_pure ?_)
    show wpAny _ _ (asInt? (.ref x) >>= _) _ _ _
    refine wpAny_bind (asInt_none hl hp ?_)
    refine wpAny_bind (wpAny_rule ?_)
    exact wpAny_pure ⟨_, rfl, h⟩
theorem dcl_bool_eq (b : Bool) (x : Addr) (o : Obj) (hp : NoPrim o) : Meets (Builtin.«int.__eq__» ⟨[.bool b, .ref x], []⟩) (fun _ R s => s.heap.get? x = some o ∧ R (.ok (.ret .notImplemented)) s) :=
  .of_wp fun prog w A R s h => by
    obtain ⟨hl, h⟩ := h
    show wpAny _ _ (slotArgs "__eq__" 1 ⟨[.bool b, .ref x], []⟩ >>= _) _ _ _
    refine wpAny_bind (wpAny_pure ?_)
    show wpAny _ _ (Builtin.Int.intOfSelf (.bool b) >>= _) _ _ _
    refine wpAny_bind (m := Builtin.Int.intOfSelf (.bool b)) (wpAny_pure ?_)
    show wpAny _ _ (asInt? (.ref x) >>= _) _ _ _
    refine wpAny_bind (asInt_none hl hp ?_)
    refine wpAny_bind (wpAny_rule ?_)
    exact wpAny_pure ⟨_, rfl, h⟩
theorem dcl_str_eq (b : Str) (u : Tok) (x : Addr) (o : Obj) (hp : NoPrim o) : Meets (Builtin.«str.__eq__» ⟨[.str b u, .ref x], []⟩) (fun _ R s => s.heap.get? x = some o ∧ R (.ok (.ret .notImplemented)) s) :=
  .of_wp fun prog w A R s h => by
    obtain ⟨hl, h⟩ := h
    show wpAny _ _ (Builtin.Str.strSlot "__eq__" 1 ⟨[.str b u, .ref x], []⟩ >>= _) _ _ _
    refine wpAny_bind (m := Builtin.Str.strSlot "__eq__" 1 ⟨[.str b u, .ref x], []⟩) (wpAny_pure ?_)
    show wpAny _ _ (asStr? (.ref x) >>= _) _ _ _
    refine wpAny_bind (asStr_none hl hp ?_)
    refine wpAny_bind (wpAny_rule ?_)
    exact wpAny_pure ⟨_, rfl, h⟩
theorem dcl_tuple_eq (l x : Addr) : Meets (Builtin.«tuple.__eq__» ⟨[.ref l, .ref x], []⟩) (fun _ R s => (∀ M : Model, Looks M s.heap (isInstance (.ref x) (.type "tuple")) false) ∧ R (.ok (.ret .notImplemented)) s) :=
  .of_wp fun prog w A R s h => by
    obtain ⟨hl, h⟩ := h
    show wpAny _ _ (slotArgs "__eq__" 1 ⟨[.ref l, .ref x], []⟩ >>= _) _ _ _
    refine wpAny_bind (wpAny_pure ?_)
    show wpAny _ _ (isInstance (.ref x) (.type "tuple") >>= _) _ _ _
    refine wpAny_bind ((hl _).here ?_)
    exact wpAny_pure ⟨_, rfl, h⟩
theorem dcl_list_eq (l x : Addr) : Meets (Builtin.«list.__eq__» ⟨[.ref l, .ref x], []⟩) (fun _ R s => (∀ M : Model, Looks M s.heap (isInstance (.ref x) (.type "list")) false) ∧ R (.ok (.ret .notImplemented)) s) :=
  .of_wp fun prog w A R s h => by
    obtain ⟨hl, h⟩ := h
    show wpAny _ _ (slotArgs "__eq__" 1 ⟨[.ref l, .ref x], []⟩ >>= _) _ _ _
    refine wpAny_bind (wpAny_pure ?_)
    show wpAny _ _ (isInstance (.ref x) (.type "list") >>= _) _ _ _
    refine wpAny_bind ((hl _).here ?_)
    exact wpAny_pure ⟨_, rfl, h⟩
theorem dcl_dict_eq (l : Addr) (x : Value) : Meets (Builtin.«dict.__eq__» ⟨[.ref l, x], []⟩) (fun _ R s => (∀ M : Model, Looks M s.heap (isInstance x (.type "dict")) false) ∧ R (.ok (.ret .notImplemented)) s) :=
  .of_wp fun prog w A R s h => by
    obtain ⟨hl, h⟩ := h
    show wpAny _ _ (Builtin.Dict.dictSlotArgs "__eq__" ⟨[.ref l, x], []⟩ >>= _) _ _ _
    refine wpAny_bind (m := Builtin.Dict.dictSlotArgs "__eq__" ⟨[.ref l, x], []⟩) (wpAny_pure ?_)
    show wpAny _ _ (isInstance x (.type "dict") >>= _) _ _ _
    refine wpAny_bind ((hl _).here ?_)
    refine wpAny_bind (wpAny_rule ?_)
    exact wpAny_pure ⟨_, rfl, h⟩
theorem dcl_none_ne (x : Addr) : Gives (Builtin.«NoneType.__ne__» ⟨[.none, .ref x], []⟩) (.val .notImplemented) := .of_eq rfl
theorem dcl_int_ne (b : Int) (u : Tok) (x : Addr) (o : Obj) (hp : NoPrim o) : Meets (Builtin.«int.__ne__» ⟨[.int b u, .ref x], []⟩) (fun _ R s => s.heap.get? x = some o ∧ R (.ok (.ret .notImplemented)) s) :=
  .of_wp fun prog w A R s h => by
    obtain ⟨hl, h⟩ := h
    show wpAny _ _ (slotArgs "__ne__" 1 ⟨[.int b u, .ref x], []⟩ >>= _) _ _ _
    refine wpAny_bind (wpAny_pure ?_)
    show wpAny _ _ (Builtin.Int.intOfSelf (.int b u) >>= _) _ _ _
    refine wpAny_bind (m := Builtin.Int.intOfSelf (.int b u)) (wpAny_pure ?_)
    show wpAny _ _ (asInt? (.ref x) >>= _) _ _ _
    refine wpAny_bind (asInt_none hl hp ?_)
    refine wpAny_bind (wpAny_rule ?_)
    exact wpAny_pure ⟨_, rfl, h⟩
theorem dcl_bool_ne (b : Bool) (x : Addr) (o : Obj) (hp : NoPrim o) : Meets (Builtin.«int.__ne__» ⟨[.bool b, .ref x], []⟩) (fun _ R s => s.heap.get? x = some o ∧ R (.ok (.ret .notImplemented)) s) :=
  .of_wp fun prog w A R s h => by
    obtain ⟨hl, h⟩ := h
    show wpAny _ _ (slotArgs "__ne__" 1 ⟨[.bool b, .ref x], []⟩ >>= _) _ _ _
    refine wpAny_bind (wpAny_pure ?_)
    show wpAny _ _ (Builtin.Int.intOfSelf (.bool b) >>= _) _ _ _
    refine wpAny_bind (m := Builtin.Int.intOfSelf (.bool b)) (wpAny_pure ?_)
    show wpAny _ _ (asInt? (.ref x) >>= _) _ _ _
    refine wpAny_bind (asInt_none hl hp ?_)
    refine wpAny_bind (wpAny_rule ?_)
    exact wpAny_pure ⟨_, rfl, h⟩
theorem dcl_str_ne (b : Str) (u : Tok) (x : Addr) (o : Obj) (hp : NoPrim o) : Meets (Builtin.«str.__ne__» ⟨[.str b u, .ref x], []⟩) (fun _ R s => s.heap.get? x = some o ∧ R (.ok (.ret .notImplemented)) s) :=
  .of_wp fun prog w A R s h => by
    obtain ⟨hl, h⟩ := h
    show wpAny _ _ (Builtin.Str.strSlot "__ne__" 1 ⟨[.str b u, .ref x], []⟩ >>= _) _ _ _
    refine wpAny_bind (m := Builtin.Str.strSlot "__ne__" 1 ⟨[.str b u, .ref x], []⟩) (wpAny_pure ?_)
    show wpAny _ _ (asStr? (.ref x) >>= _) _ _ _
    refine wpAny_bind (asStr_none hl hp ?_)
    refine wpAny_bind (wpAny_rule ?_)
    exact wpAny_pure ⟨_, rfl, h⟩
theorem dcl_tuple_ne (l x : Addr) : Meets (Builtin.«tuple.__ne__» ⟨[.ref l, .ref x], []⟩) (fun _ R s => (∀ M : Model, Looks M s.heap (isInstance (.ref x) (.type "tuple")) false) ∧ R (.ok (.ret .notImplemented)) s) :=
  .of_wp fun prog w A R s h => by
    obtain ⟨hl, h⟩ := h
    show wpAny _ _ (slotArgs "__ne__" 1 ⟨[.ref l, .ref x], []⟩ >>= _) _ _ _
    refine wpAny_bind (wpAny_pure ?_)
    show wpAny _ _ (isInstance (.ref x) (.type "tuple") >>= _) _ _ _
    refine wpAny_bind ((hl _).here ?_)
    exact wpAny_pure ⟨_, rfl, h⟩
theorem dcl_list_ne (l x : Addr) : Meets (Builtin.«list.__ne__» ⟨[.ref l, .ref x], []⟩) (fun _ R s => (∀ M : Model, Looks M s.heap (isInstance (.ref x) (.type "list")) false) ∧ R (.ok (.ret .notImplemented)) s) :=
  .of_wp fun prog w A R s h => by
    obtain ⟨hl, h⟩ := h
    show wpAny _ _ (slotArgs "__ne__" 1 ⟨[.ref l, .ref x], []⟩ >>= _) _ _ _
    refine wpAny_bind (wpAny_pure ?_)
    show wpAny _ _ (isInstance (.ref x) (.type "list") >>= _) _ _ _
    refine wpAny_bind ((hl _).here ?_)
    exact wpAny_pure ⟨_, rfl, h⟩
theorem dcl_dict_ne (l : Addr) (x : Value) : Meets (Builtin.«dict.__ne__» ⟨[.ref l, x], []⟩) (fun _ R s => (∀ M : Model, Looks M s.heap (isInstance x (.type "dict")) false) ∧ R (.ok (.ret .notImplemented)) s) :=
  .of_wp fun prog w A R s h => by
    obtain ⟨hl, h⟩ := h
    show wpAny _ _ (Builtin.Dict.dictSlotArgs "__ne__" ⟨[.ref l, x], []⟩ >>= _) _ _ _
    refine wpAny_bind (m := Builtin.Dict.dictSlotArgs "__ne__" ⟨[.ref l, x], []⟩) (wpAny_pure ?_)
    show wpAny _ _ (isInstance x (.type "dict") >>= _) _ _ _
    refine wpAny_bind ((hl _).here ?_)
    refine wpAny_bind (wpAny_rule ?_)
    exact wpAny_pure ⟨_, rfl, h⟩
/-- a value of a built-in kind: == and != decline what is none of it -/
structure LeftK (prog : Program) (w : World) (s : Shared) (a : Value) (T ide idn : String) : Prop where
  ty : s.TypeIs a T
  eq : Slot T (cmpInfo .Eq).2.1 ide
  eqr : Slot T (cmpInfo .Eq).2.2 ide
  ne : Slot T (cmpInfo .NotEq).2.1 idn
  ner : Slot T (cmpInfo .NotEq).2.2 idn
  deq : ∀ (x : Addr) (o : Obj), s.heap.get? x = some o → NoPrim o → (∀ M : Model, Looks M s.heap (isInstance (.ref x) (.type T)) false) → ∀ (A : Around) (E : Value → Shared → Prop) (Q : Value → Shared → Prop), Q .notImplemented s → wpAny (model prog w) A (call (.builtin ide) [a, .ref x]) Q E s
  dne : ∀ (x : Addr) (o : Obj), s.heap.get? x = some o → NoPrim o → (∀ M : Model, Looks M s.heap (isInstance (.ref x) (.type T)) false) → ∀ (A : Around) (E : Value → Shared → Prop) (Q : Value → Shared → Prop), Q .notImplemented s → wpAny (model prog w) A (call (.builtin idn) [a, .ref x]) Q E s
section
variable {prog : Program} {w : World} {s : Shared}
theorem leftK_none : LeftK prog w s .none "NoneType" "NoneType.__eq__" "NoneType.__ne__" where
  ty := rfl
  eq := F.slot_NoneType_eq
  eqr := F.slot_NoneType_eq_refl
  ne := F.slot_NoneType_ne
  ner := F.slot_NoneType_ne_refl
  deq := fun x o _ _ _ A E Q q => call_gives F.slot_NoneType_eq rfl F.entry_NoneType_eq (F.args_NoneType_eq_2 _ _) (dcl_none_eq x) q
  dne := fun x o _ _ _ A E Q q => call_gives F.slot_NoneType_ne rfl F.entry_NoneType_ne (F.args_NoneType_ne_2 _ _) (dcl_none_ne x) q
theorem leftK_bool {b : Bool} : LeftK prog w s (.bool b) "bool" "int.__eq__" "int.__ne__" where
  ty := rfl
  eq := F.slot_bool_eq
  eqr := F.slot_bool_eq_refl
  ne := F.slot_bool_ne
  ner := F.slot_bool_ne_refl
  deq := fun x o ho hp _ A E Q q => call_meets (T := "bool") F.slot_bool_eq rfl F.entry_int_eq (F.args_int_eq_2 _ _) (dcl_bool_eq b x o hp) ⟨ho, q⟩
  dne := fun x o ho hp _ A E Q q => call_meets (T := "bool") F.slot_bool_ne rfl F.entry_int_ne (F.args_int_ne_2 _ _) (dcl_bool_ne b x o hp) ⟨ho, q⟩
theorem leftK_int {b : Int} {u : Tok} : LeftK prog w s (.int b u) "int" "int.__eq__" "int.__ne__" where
  ty := PySem.typeIs_int s b u
  eq := F.slot_int_eq
  eqr := F.slot_int_eq_refl
  ne := F.slot_int_ne
  ner := F.slot_int_ne_refl
  deq := fun x o ho hp _ A E Q q => call_meets F.slot_int_eq (PySem.typeIs_int s b u) F.entry_int_eq (F.args_int_eq_2 _ _) (dcl_int_eq b u x o hp) ⟨ho, q⟩
  dne := fun x o ho hp _ A E Q q => call_meets F.slot_int_ne (PySem.typeIs_int s b u) F.entry_int_ne (F.args_int_ne_2 _ _) (dcl_int_ne b u x o hp) ⟨ho, q⟩
theorem leftK_str {b : Str} {u : Tok} : LeftK prog w s (.str b u) "str" "str.__eq__" "str.__ne__" where
  ty := PySem.typeIs_str s b u
  eq := F.slot_str_eq
  eqr := F.slot_str_eq_refl
  ne := F.slot_str_ne
  ner := F.slot_str_ne_refl
  deq := fun x o ho hp _ A E Q q => call_meets F.slot_str_eq (PySem.typeIs_str s b u) F.entry_str_eq (F.args_str_eq_2 _ _) (dcl_str_eq b u x o hp) ⟨ho, q⟩
  dne := fun x o ho hp _ A E Q q => call_meets F.slot_str_ne (PySem.typeIs_str s b u) F.entry_str_ne (F.args_str_ne_2 _ _) (dcl_str_ne b u x o hp) ⟨ho, q⟩
theorem leftK_tuple {l : Addr} {ol : Obj} (hl : s.heap.get? l = some ol) (hc : ol.cls = .type "tuple") : LeftK prog w s (.ref l) "tuple" "tuple.__eq__" "tuple.__ne__" where
  ty := ⟨_, hl, hc⟩
  eq := F.slot_tuple_eq
  eqr := F.slot_tuple_eq_refl
  ne := F.slot_tuple_ne
  ner := F.slot_tuple_ne_refl
  deq := fun x o _ _ hi A E Q q => call_meets F.slot_tuple_eq ⟨_, hl, hc⟩ F.entry_tuple_eq (F.args_tuple_eq_2 _ _) (dcl_tuple_eq l x) ⟨hi, q⟩
  dne := fun x o _ _ hi A E Q q => call_meets F.slot_tuple_ne ⟨_, hl, hc⟩ F.entry_tuple_ne (F.args_tuple_ne_2 _ _) (dcl_tuple_ne l x) ⟨hi, q⟩
theorem leftK_list {l : Addr} {ol : Obj} (hl : s.heap.get? l = some ol) (hc : ol.cls = .type "list") : LeftK prog w s (.ref l) "list" "list.__eq__" "list.__ne__" where
  ty := ⟨_, hl, hc⟩
  eq := F.slot_list_eq
  eqr := F.slot_list_eq_refl
  ne := F.slot_list_ne
  ner := F.slot_list_ne_refl
  deq := fun x o _ _ hi A E Q q => call_meets F.slot_list_eq ⟨_, hl, hc⟩ F.entry_list_eq (F.args_list_eq_2 _ _) (dcl_list_eq l x) ⟨hi, q⟩
  dne := fun x o _ _ hi A E Q q => call_meets F.slot_list_ne ⟨_, hl, hc⟩ F.entry_list_ne (F.args_list_ne_2 _ _) (dcl_list_ne l x) ⟨hi, q⟩
theorem dict_deq {l : Addr} {ol : Obj} {b : Value} (hl : s.heap.get? l = some ol) (hc : ol.cls = .type "dict") (hi : ∀ M : Model, Looks M s.heap (isInstance b (.type "dict")) false) {A : Around} {E Q : Value → Shared → Prop} (q : Q .notImplemented s) : wpAny (model prog w) A (call (.builtin "dict.__eq__") [.ref l, b]) Q E s :=
  call_meets F.slot_dict_eq ⟨_, hl, hc⟩ F.entry_dict_eq (F.args_dict_eq_2 _ _) (dcl_dict_eq l b) ⟨hi, q⟩
theorem dict_dne {l : Addr} {ol : Obj} {b : Value} (hl : s.heap.get? l = some ol) (hc : ol.cls = .type "dict") (hi : ∀ M : Model, Looks M s.heap (isInstance b (.type "dict")) false) {A : Around} {E Q : Value → Shared → Prop} (q : Q .notImplemented s) : wpAny (model prog w) A (call (.builtin "dict.__ne__") [.ref l, b]) Q E s :=
  call_meets F.slot_dict_ne ⟨_, hl, hc⟩ F.entry_dict_ne (F.args_dict_ne_2 _ _) (dcl_dict_ne l b) ⟨hi, q⟩
theorem leftK_dict {l : Addr} {ol : Obj} (hl : s.heap.get? l = some ol) (hc : ol.cls = .type "dict") : LeftK prog w s (.ref l) "dict" "dict.__eq__" "dict.__ne__" where
  ty := ⟨_, hl, hc⟩
  eq := F.slot_dict_eq
  eqr := F.slot_dict_eq_refl
  ne := F.slot_dict_ne
  ner := F.slot_dict_ne_refl
  deq := fun x o _ _ hi A E Q q => dict_deq hl hc hi q
  dne := fun x o _ _ hi A E Q q => dict_dne hl hc hi q
end
end Cn

namespace Cn
open PySem PySem.SeqAt
open AutoSeq1 (wpAny_loadPart')
open MeetsSeq MeetsSeq2 MeetsSeq3 SeqRoads2
open GQ (FinOf)
/-! ### tuples and lists item by item, what their items tell known -/
section
variable {prog : Program} {w : World} {A : Around} {R : Result → Shared → Prop}
theorem tup_eqJ (l b : Addr) (items items2 : Array Value) (n n2 : Nat) (dd dd2 : Option Addr) (sl sl2 : Array (Option Value)) (e : Nat → Bool) (I : Nat → Shared → Prop)
    (turn : ∀ i (h1 : i < items.size) (h2 : i < items2.size) s, I i s → wpAny (model prog w) A.in1 (eqBool items[i] items2[i]) (fun r s' => r = e i ∧ I (i + 1) s') (fun e s' => R (.error e) s') s)
    (f0 : ∀ i s, i < min items.size items2.size → e i = false → I (i + 1) s → R (.ok (.ret (.bool false))) s)
    (f1 : ∀ s, (∀ i, i < min items.size items2.size → e i = true) → I (min items.size items2.size) s → R (.ok (.ret (.bool (items.size == items2.size)))) s) {s : Shared} (hl1 : s.heap.get? l = some { cls := .type "tuple", dict := dd, data := .seq items n, slots := sl }) (hb1 : s.heap.get? b = some { cls := .type "tuple", dict := dd2, data := .seq items2 n2, slots := sl2 }) (h : I 0 s) :
    wpAny (model prog w) A.in1 (Builtin.«tuple.__eq__» ⟨[.ref l, .ref b], []⟩) (FinOf prog w A R) (fun e s' => R (.error e) s') s := by
  have f2 := AutoSeq1.sub_tuple_tuple
  have hZ : (items.toList.zip items2.toList).length = min items.size items2.size := by simp
  have h0 := h
  obtain ⟨hp, g, d, tk, os⟩ := s
  wp_walk using wpAny_loadPart' hl1, wpAny_loadPart' hb1, wpAny_forIn_list _ (fun rest b s' => b.1 = none ∧ ∃ i, rest = (items.toList.zip items2.toList).drop i ∧ i ≤ min items.size items2.size ∧ (∀ k, k < i → e k = true) ∧ I i s') _
  case turn =>
    rintro ⟨y, x⟩ rest b s' ⟨hb', i, hz, hi, ha, hI⟩
    have hlt : i < (items.toList.zip items2.toList).length := by
      rcases Nat.lt_or_ge i (items.toList.zip items2.toList).length with h' | h'
      · exact h'
      · rw [List.drop_of_length_le h'] at hz; cases hz
    have hm : i < min items.size items2.size := hZ ▸ hlt
    have h1 : i < items.size := Nat.lt_of_lt_of_le hm (Nat.min_le_left _ _)
    have h2 : i < items2.size := Nat.lt_of_lt_of_le hm (Nat.min_le_right _ _)
    rw [List.drop_eq_getElem_cons hlt] at hz
    injection hz with hyx hrest
    have hy : y = items[i] := by have := congrArg Prod.fst hyx; simpa using this
    have hx : x = items2[i] := by have := congrArg Prod.snd hyx; simpa using this
    subst hy hx
    refine wpAny_bind (wpAny_mono (turn i h1 h2 s' hI) (fun r s2 q2 => ?_) fun _ _ x => x)
    obtain ⟨hr, q2⟩ := q2
    subst hr
    cases he : e i with
    | true =>
      wp_walk
      refine ⟨rfl, i + 1, hrest, hm, fun k hk => ?_, q2⟩
      rcases Nat.lt_succ_iff_lt_or_eq.mp hk with hk | hk
      · exact ha k hk
      · rw [hk]; exact he
    | false =>
      have hR := f0 i s2 hm he q2
      wp_walk
      first | exact hR | simpa using hR
  case fin =>
    rintro ⟨b1, b2⟩ s' ⟨hb', i, hz, hi, ha, hI⟩
    simp only at hb'
    subst hb'
    have hge : min items.size items2.size ≤ i := by
      rcases Nat.lt_or_ge i (items.toList.zip items2.toList).length with h' | h'
      · rw [List.drop_eq_getElem_cons h'] at hz; cases hz
      · exact hZ ▸ h'
    have hi' : i = min items.size items2.size := by omega
    subst hi'
    have hR := f1 s' ha hI
    wp_walk
    simpa [Builtin.Tuple.tupleCompareSizes, bne] using hR
  case h =>
    exact ⟨rfl, 0, rfl, Nat.zero_le _, fun k hk => absurd hk (Nat.not_lt_zero _), h0⟩
/-- at each turn the two lists are read anew -/
theorem lst_eqJ (l b : Addr) (N : Nat) (e : Nat → Bool) (I : Nat → Shared → Prop)
    (hl : ∀ i s, I i s → ∃ (items items2 : Array Value) (n n2 : Nat), s.heap.get? l = some { cls := .type "list", data := .seq items n } ∧ s.heap.get? b = some { cls := .type "list", data := .seq items2 n2 } ∧ items.size = N ∧ items2.size = N ∧
      ∀ (h1 : i < items.size) (h2 : i < items2.size), wpAny (model prog w) A.in1 (eqBool items[i] items2[i]) (fun r s' => r = e i ∧ I (i + 1) s') (fun e s' => R (.error e) s') s)
    (f0 : ∀ i s, i < N → e i = false → I (i + 1) s → R (.ok (.ret (.bool false))) s) (f1 : ∀ s, (∀ i, i < N → e i = true) → I N s → R (.ok (.ret (.bool true))) s) (k : Nat) :
    ∀ i : Nat, N - i = k → i ≤ N → (∀ k, k < i → e k = true) → ∀ s, I i s →
      wpAny (model prog w) A.in1 (Builtin.«list.__eq__.loop» ⟨[.ref l, .ref b, rawInt i, rawInt 2], []⟩) (FinOf prog w A R) (fun e s' => R (.error e) s') s := by
  induction k with
  | zero =>
    intro i hk hi ha s h
    obtain ⟨items, items2, n, n2, hl1, hb1, hs1, hs2, _⟩ := hl _ _ h
    have hi' : i = N := by omega
    have hR := f1 s (hi' ▸ ha) (hi' ▸ h)
    obtain ⟨hp, g, d, tk, os⟩ := s
    wp_walk using wpAny_loadPart' hl1, wpAny_loadPart' hb1
    have hi1 : items[((i : Nat) : Int).toNat]? = none := by simp; omega
    have hi2 : items2[((i : Nat) : Int).toNat]? = none := by simp; omega
    rw [hi1, hi2]
    wp_walk using wpAny_loadPart' hl1, wpAny_loadPart' hb1
    show R (.ok (.ret (.bool (items.size == items2.size)))) _
    rw [hs1, hs2]
    simpa using hR
  | succ k ih =>
    intro i hk hi ha s h
    obtain ⟨items, items2, n, n2, hl1, hb1, hs1, hs2, turn⟩ := hl _ _ h
    have hlt : i < items.size := by omega
    have hlt2 : i < items2.size := by omega
    have ht := turn hlt hlt2
    obtain ⟨hp, g, d, tk, os⟩ := s
    wp_walk using wpAny_loadPart' hl1, wpAny_loadPart' hb1
    have hi1 : items[((i : Nat) : Int).toNat]? = some items[i] := by simp [hlt]
    have hi2 : items2[((i : Nat) : Int).toNat]? = some items2[i] := by simp [hlt2]
    have hc : ((i : Int) + 1) = ((i + 1 : Nat) : Int) := by omega
    rw [hi1, hi2]
    refine wpAny_bind (wpAny_mono ht (fun r s2 h2 => ?_) fun _ _ x => x)
    obtain ⟨hr, h2⟩ := h2
    subst hr
    cases he : e i with
    | true =>
      have hrec := ih (i + 1) (by omega) (by omega) (fun k hk => (Nat.lt_succ_iff_lt_or_eq.mp hk).elim (ha k) fun z => by rw [z]; exact he) s2 h2
      obtain ⟨hp2, g2, d2, tk2, os2⟩ := s2
      wp_walk
      rw [hc]
      exact ⟨plainId_quiet plain_eq_loop _, codeAny_builtin entry_eq_loop (by
        rw [Around.under_plainId plain_eq_loop _]
        exact hrec)⟩
    | false =>
      have hR := f0 i s2 (by omega) he h2
      obtain ⟨items', items2', n', n2', hl', hb', hs', hs2', _⟩ := hl _ _ h2
      obtain ⟨hp2, g2, d2, tk2, os2⟩ := s2
      wp_walk using wpAny_loadPart' hl', wpAny_loadPart' hb'
      have hi1' : items'[((i : Nat) : Int).toNat]? = some items'[i] := by simp [hs', ← hs1, hlt]
      have hi2' : items2'[((i : Nat) : Int).toNat]? = some items2'[i] := by simp [hs2', ← hs1, hlt]
      rw [hi1', hi2']
      wp_walk
      first | exact hR | simpa using hR
theorem list_eqJ (l b : Addr) (N : Nat) (e : Nat → Bool) (I : Nat → Shared → Prop)
    (hl : ∀ i s, I i s → ∃ (items items2 : Array Value) (n n2 : Nat), s.heap.get? l = some { cls := .type "list", data := .seq items n } ∧ s.heap.get? b = some { cls := .type "list", data := .seq items2 n2 } ∧ items.size = N ∧ items2.size = N ∧
      ∀ (h1 : i < items.size) (h2 : i < items2.size), wpAny (model prog w) A.in1 (eqBool items[i] items2[i]) (fun r s' => r = e i ∧ I (i + 1) s') (fun e s' => R (.error e) s') s)
    (f0 : ∀ i s, i < N → e i = false → I (i + 1) s → R (.ok (.ret (.bool false))) s) (f1 : ∀ s, (∀ i, i < N → e i = true) → I N s → R (.ok (.ret (.bool true))) s) {s : Shared} (h : I 0 s) :
    wpAny (model prog w) A.in1 (Builtin.«list.__eq__» ⟨[.ref l, .ref b], []⟩) (FinOf prog w A R) (fun e s' => R (.error e) s') s := by
  obtain ⟨items, items2, n, n2, hl1, hb1, hs1, hs2, _⟩ := hl _ _ h
  have hrec := lst_eqJ (A := A) (R := R) l b N e I hl f0 f1 _ 0 rfl (Nat.zero_le _) (fun k hk => absurd hk (Nat.not_lt_zero _)) s h
  obtain ⟨hp, g, d, tk, os⟩ := s
  have f3 := AutoSeq1.sub_list_list
  have hne : ¬ (items.size != items2.size) = true := by simp [hs1, hs2]
  wp_walk using wpAny_loadPart' hl1, wpAny_loadPart' hb1
  exact ⟨plainId_quiet plain_eq_loop _, codeAny_builtin entry_eq_loop (by
    rw [Around.under_plainId plain_eq_loop _]
    exact hrec)⟩
theorem tup_neJ (l b : Addr) (items items2 : Array Value) (n n2 : Nat) (dd dd2 : Option Addr) (sl sl2 : Array (Option Value)) (e : Nat → Bool) (I : Nat → Shared → Prop)
    (turn : ∀ i (h1 : i < items.size) (h2 : i < items2.size) s, I i s → wpAny (model prog w) A.in1 (eqBool items[i] items2[i]) (fun r s' => r = e i ∧ I (i + 1) s') (fun e s' => R (.error e) s') s)
    (f0 : ∀ i s, i < min items.size items2.size → e i = false → I (i + 1) s → R (.ok (.ret (.bool true))) s)
    (f1 : ∀ s, (∀ i, i < min items.size items2.size → e i = true) → I (min items.size items2.size) s → R (.ok (.ret (.bool (!(items.size == items2.size))))) s) {s : Shared} (hl1 : s.heap.get? l = some { cls := .type "tuple", dict := dd, data := .seq items n, slots := sl }) (hb1 : s.heap.get? b = some { cls := .type "tuple", dict := dd2, data := .seq items2 n2, slots := sl2 }) (h : I 0 s) :
    wpAny (model prog w) A.in1 (Builtin.«tuple.__ne__» ⟨[.ref l, .ref b], []⟩) (FinOf prog w A R) (fun e s' => R (.error e) s') s := by
  have f2 := AutoSeq1.sub_tuple_tuple
  have hZ : (items.toList.zip items2.toList).length = min items.size items2.size := by simp
  have h0 := h
  obtain ⟨hp, g, d, tk, os⟩ := s
  wp_walk using wpAny_loadPart' hl1, wpAny_loadPart' hb1, wpAny_forIn_list _ (fun rest b s' => b.1 = none ∧ ∃ i, rest = (items.toList.zip items2.toList).drop i ∧ i ≤ min items.size items2.size ∧ (∀ k, k < i → e k = true) ∧ I i s') _
  case turn =>
    rintro ⟨y, x⟩ rest b s' ⟨hb', i, hz, hi, ha, hI⟩
    have hlt : i < (items.toList.zip items2.toList).length := by
      rcases Nat.lt_or_ge i (items.toList.zip items2.toList).length with h' | h'
      · exact h'
      · rw [List.drop_of_length_le h'] at hz; cases hz
    have hm : i < min items.size items2.size := hZ ▸ hlt
    have h1 : i < items.size := Nat.lt_of_lt_of_le hm (Nat.min_le_left _ _)
    have h2 : i < items2.size := Nat.lt_of_lt_of_le hm (Nat.min_le_right _ _)
    rw [List.drop_eq_getElem_cons hlt] at hz
    injection hz with hyx hrest
    have hy : y = items[i] := by have := congrArg Prod.fst hyx; simpa using this
    have hx : x = items2[i] := by have := congrArg Prod.snd hyx; simpa using this
    subst hy hx
    refine wpAny_bind (wpAny_mono (turn i h1 h2 s' hI) (fun r s2 q2 => ?_) fun _ _ x => x)
    obtain ⟨hr, q2⟩ := q2
    subst hr
    cases he : e i with
    | true =>
      wp_walk
      refine ⟨rfl, i + 1, hrest, hm, fun k hk => ?_, q2⟩
      rcases Nat.lt_succ_iff_lt_or_eq.mp hk with hk | hk
      · exact ha k hk
      · rw [hk]; exact he
    | false =>
      have hR := f0 i s2 hm he q2
      wp_walk
      first | exact hR | simpa using hR
  case fin =>
    rintro ⟨b1, b2⟩ s' ⟨hb', i, hz, hi, ha, hI⟩
    simp only at hb'
    subst hb'
    have hge : min items.size items2.size ≤ i := by
      rcases Nat.lt_or_ge i (items.toList.zip items2.toList).length with h' | h'
      · rw [List.drop_eq_getElem_cons h'] at hz; cases hz
      · exact hZ ▸ h'
    have hi' : i = min items.size items2.size := by omega
    subst hi'
    have hR := f1 s' ha hI
    wp_walk
    simpa [Builtin.Tuple.tupleCompareSizes, bne] using hR
  case h =>
    exact ⟨rfl, 0, rfl, Nat.zero_le _, fun k hk => absurd hk (Nat.not_lt_zero _), h0⟩
/-- at each turn the two lists are read anew -/
theorem lst_neJ (l b : Addr) (N : Nat) (e : Nat → Bool) (I : Nat → Shared → Prop)
    (hl : ∀ i s, I i s → ∃ (items items2 : Array Value) (n n2 : Nat), s.heap.get? l = some { cls := .type "list", data := .seq items n } ∧ s.heap.get? b = some { cls := .type "list", data := .seq items2 n2 } ∧ items.size = N ∧ items2.size = N ∧
      ∀ (h1 : i < items.size) (h2 : i < items2.size), wpAny (model prog w) A.in1 (eqBool items[i] items2[i]) (fun r s' => r = e i ∧ I (i + 1) s') (fun e s' => R (.error e) s') s)
    (f0 : ∀ i s, i < N → e i = false → I (i + 1) s → R (.ok (.ret (.bool true))) s) (f1 : ∀ s, (∀ i, i < N → e i = true) → I N s → R (.ok (.ret (.bool false))) s) (k : Nat) :
    ∀ i : Nat, N - i = k → i ≤ N → (∀ k, k < i → e k = true) → ∀ s, I i s →
      wpAny (model prog w) A.in1 (Builtin.«list.__eq__.loop» ⟨[.ref l, .ref b, rawInt i, rawInt 3], []⟩) (FinOf prog w A R) (fun e s' => R (.error e) s') s := by
  induction k with
  | zero =>
    intro i hk hi ha s h
    obtain ⟨items, items2, n, n2, hl1, hb1, hs1, hs2, _⟩ := hl _ _ h
    have hi' : i = N := by omega
    have hR := f1 s (hi' ▸ ha) (hi' ▸ h)
    obtain ⟨hp, g, d, tk, os⟩ := s
    wp_walk using wpAny_loadPart' hl1, wpAny_loadPart' hb1
    have hi1 : items[((i : Nat) : Int).toNat]? = none := by simp; omega
    have hi2 : items2[((i : Nat) : Int).toNat]? = none := by simp; omega
    rw [hi1, hi2]
    wp_walk using wpAny_loadPart' hl1, wpAny_loadPart' hb1
    show R (.ok (.ret (.bool (items.size != items2.size)))) _
    rw [hs1, hs2]
    simpa using hR
  | succ k ih =>
    intro i hk hi ha s h
    obtain ⟨items, items2, n, n2, hl1, hb1, hs1, hs2, turn⟩ := hl _ _ h
    have hlt : i < items.size := by omega
    have hlt2 : i < items2.size := by omega
    have ht := turn hlt hlt2
    obtain ⟨hp, g, d, tk, os⟩ := s
    wp_walk using wpAny_loadPart' hl1, wpAny_loadPart' hb1
    have hi1 : items[((i : Nat) : Int).toNat]? = some items[i] := by simp [hlt]
    have hi2 : items2[((i : Nat) : Int).toNat]? = some items2[i] := by simp [hlt2]
    have hc : ((i : Int) + 1) = ((i + 1 : Nat) : Int) := by omega
    rw [hi1, hi2]
    refine wpAny_bind (wpAny_mono ht (fun r s2 h2 => ?_) fun _ _ x => x)
    obtain ⟨hr, h2⟩ := h2
    subst hr
    cases he : e i with
    | true =>
      have hrec := ih (i + 1) (by omega) (by omega) (fun k hk => (Nat.lt_succ_iff_lt_or_eq.mp hk).elim (ha k) fun z => by rw [z]; exact he) s2 h2
      obtain ⟨hp2, g2, d2, tk2, os2⟩ := s2
      wp_walk
      rw [hc]
      exact ⟨plainId_quiet plain_eq_loop _, codeAny_builtin entry_eq_loop (by
        rw [Around.under_plainId plain_eq_loop _]
        exact hrec)⟩
    | false =>
      have hR := f0 i s2 (by omega) he h2
      obtain ⟨items', items2', n', n2', hl', hb', hs', hs2', _⟩ := hl _ _ h2
      obtain ⟨hp2, g2, d2, tk2, os2⟩ := s2
      wp_walk using wpAny_loadPart' hl', wpAny_loadPart' hb'
      have hi1' : items'[((i : Nat) : Int).toNat]? = some items'[i] := by simp [hs', ← hs1, hlt]
      have hi2' : items2'[((i : Nat) : Int).toNat]? = some items2'[i] := by simp [hs2', ← hs1, hlt]
      rw [hi1', hi2']
      wp_walk
      first | exact hR | simpa using hR
theorem list_neJ (l b : Addr) (N : Nat) (e : Nat → Bool) (I : Nat → Shared → Prop)
    (hl : ∀ i s, I i s → ∃ (items items2 : Array Value) (n n2 : Nat), s.heap.get? l = some { cls := .type "list", data := .seq items n } ∧ s.heap.get? b = some { cls := .type "list", data := .seq items2 n2 } ∧ items.size = N ∧ items2.size = N ∧
      ∀ (h1 : i < items.size) (h2 : i < items2.size), wpAny (model prog w) A.in1 (eqBool items[i] items2[i]) (fun r s' => r = e i ∧ I (i + 1) s') (fun e s' => R (.error e) s') s)
    (f0 : ∀ i s, i < N → e i = false → I (i + 1) s → R (.ok (.ret (.bool true))) s) (f1 : ∀ s, (∀ i, i < N → e i = true) → I N s → R (.ok (.ret (.bool false))) s) {s : Shared} (h : I 0 s) :
    wpAny (model prog w) A.in1 (Builtin.«list.__ne__» ⟨[.ref l, .ref b], []⟩) (FinOf prog w A R) (fun e s' => R (.error e) s') s := by
  obtain ⟨items, items2, n, n2, hl1, hb1, hs1, hs2, _⟩ := hl _ _ h
  have hrec := lst_neJ (A := A) (R := R) l b N e I hl f0 f1 _ 0 rfl (Nat.zero_le _) (fun k hk => absurd hk (Nat.not_lt_zero _)) s h
  obtain ⟨hp, g, d, tk, os⟩ := s
  have f3 := AutoSeq1.sub_list_list
  have hne : ¬ (items.size != items2.size) = true := by simp [hs1, hs2]
  wp_walk using wpAny_loadPart' hl1, wpAny_loadPart' hb1
  exact ⟨plainId_quiet plain_eq_loop _, codeAny_builtin entry_eq_loop (by
    rw [Around.under_plainId plain_eq_loop _]
    exact hrec)⟩
end
end Cn

namespace Cn
open PySem PySem.Spec PyProof.Rows L2 PySem.W
/-! ### the demand upon the own defs -/
mutual
/-- trees that may be compared; q: dicts may stand in them -/
def eqk (q : Bool) : Nat → D → Bool
  | _, .non => true
  | _, .bl _ => true
  | _, .int _ => true
  | _, .str s => s.all (· < 0x110000)
  | n + 1, .tup l => eqkL q n l
  | n + 1, .lst l => eqkL q n l
  | n + 1, .ins _ l => eqkL false n l
  | _, .dct _ _ => q
  | _, _ => false
def eqkL (q : Bool) : Nat → List D → Bool
  | _, [] => true
  | n, d :: l => eqk q n d && eqkL q n l
end
def own (et : EqT) (C : Cal) (c : Nat) (l : List D) (y : D) : Prop := ∃ f, et c = some f ∧ C f [.ins c l, y] [] (fun _ => none) (fun r _ => r = .bl (eqD (.ins c l) y)) noE
mutual
def dem (et : EqT) (C : Cal) : D → D → Prop
  | .ins c l, y => own et C c l y
  | .tup a, .ins c l => own et C c l (.tup a)
  | .lst a, .ins c l => own et C c l (.lst a)
  | .dct a b, .ins c l => own et C c l (.dct a b)
  | .non, .ins c l => own et C c l .non
  | .bl b, .ins c l => own et C c l (.bl b)
  | .int b, .ins c l => own et C c l (.int b)
  | .str b, .ins c l => own et C c l (.str b)
  | .tup a, .tup b => demL et C a b
  | .lst a, .lst b => demL et C a b
  | .dct _ _, .dct _ _ => False
  | _, _ => True
def demL (et : EqT) (C : Cal) : List D → List D → Prop
  | x :: a, y :: b => dem et C x y ∧ demL et C a b
  | _, _ => True
end
theorem demL_at {et : EqT} {C : Cal} : ∀ {a b : List D} {i : Nat} {x y : D}, demL et C a b → a[i]? = some x → b[i]? = some y → dem et C x y
  | [], _, _, _, _, _, h, _ => by simp at h
  | _ :: _, [], _, _, _, _, _, h => by simp at h
  | x :: a, y :: b, i, x', y', h, h1, h2 => by
    simp only [demL] at h
    cases i with
    | zero => simp at h1 h2; subst h1 h2; exact h.1
    | succ i => exact demL_at h.2 (by simpa using h1) (by simpa using h2)
theorem eqkL_at {q : Bool} {n : Nat} : ∀ {a : List D} {i : Nat} {x : D}, eqkL q n a = true → a[i]? = some x → eqk q n x = true
  | [], _, _, _, h => by simp at h
  | x :: a, i, y, h, h1 => by
    simp only [eqkL, Bool.and_eq_true] at h
    cases i with
    | zero => simp at h1; subst h1; exact h.1
    | succ i => exact eqkL_at h.2 (by simpa using h1)
theorem eqL_all : ∀ (a b : List D), eqL a b = true ↔ a.length = b.length ∧ ∀ (i : Nat) (x y : D), a[i]? = some x → b[i]? = some y → eqD x y = true
  | [], [] => by simp [eqL]
  | [], _ :: _ => by simp [eqL]
  | _ :: _, [] => by simp [eqL]
  | x :: a, y :: b => by
    simp only [eqL, Bool.and_eq_true, eqL_all a b, List.length_cons]
    constructor
    · rintro ⟨h1, h2, h3⟩
      refine ⟨by omega, fun i x' y' e1 e2 => ?_⟩
      cases i with
      | zero => simp at e1 e2; subst e1 e2; exact h1
      | succ i => exact h3 i x' y' (by simpa using e1) (by simpa using e2)
    · rintro ⟨h1, h2⟩
      exact ⟨h2 0 x y rfl rfl, by omega, fun i x' y' e1 e2 => h2 (i + 1) x' y' (by simpa using e1) (by simpa using e2)⟩
theorem eqD_ins {x : D} {c : Nat} {l : List D} (h : ∀ c' l', x ≠ .ins c' l') : eqD x (.ins c l) = false := by
  cases x <;> simp [eqD] <;> exact absurd rfl (h _ _)
theorem eqD_ins2 {y : D} {c : Nat} {l : List D} (h : ∀ c' l', y ≠ .ins c' l') : eqD (.ins c l) y = false := by
  cases y <;> simp [eqD] <;> exact absurd rfl (h _ _)
section
variable {T : Tab} {K : PySem.W.Frag}
theorem kitS {t c : Value} (h : PySem.W.kitOne K t c = some false) : subIn K t c = some false := by
  unfold PySem.W.kitOne at h
  split at h
  · cases h
  · unfold PySem.W.kitCls at h
    split at h
    · split at h
      · exact h
      · cases h
    · split at h
      · exact h
      · cases h
    · cases h
theorem not_first {c d : Nat} (KC : ClsOk T K) (hc : T.ok c = true) (hd : T.ok d = true) : notFirst K (T.cA c) (.ref (T.cA d)) = true := by
  unfold notFirst
  by_cases h : T.cA d = T.cA c
  · rw [h]; simp
  · have hne : (d == c) = false := by
      cases z : (d == c) with
      | false => rfl
      | true => exact absurd (congrArg T.cA (beq_iff_eq.mp z)) h
    have := KC.kitC d c hd hc
    rw [hne] at this
    rw [kitS this]
    simp
theorem not_firstT {c : Nat} {t : String} (KC : ClsOk T K) (hc : T.ok c = true) {n : Nat} (hn : n < 7) (e : tyN n = t) : notFirst K (T.cA c) (.type t) = true ∧ subIn K (.ref (T.cA c)) (.type t) = some false := by
  subst e
  refine ⟨?_, kitS (KC.kitA c n hc hn)⟩
  unfold notFirst
  rw [kitS (KC.kitB c n hc hn)]
  simp
end
/-- below the running body -/
structure Bl (X : Cx) (j : Nat) (A : Around) : Prop where
  dp : A.depth = X.A.depth
  un : A.units ≤ X.A.units + j
  hd : A.handled = X.A.handled
  fr : A.frames = X.A.frames
  gd : A.guards = X.A.guards
theorem Bl.in1 {X : Cx} {j : Nat} {A : Around} (b : Bl X j A) : Bl X (j + 1) A.in1 := ⟨b.dp, by have := b.un; show A.units + 1 ≤ _; omega, b.hd, b.fr, b.gd⟩
theorem Bl.refl {X : Cx} : Bl X 0 X.A := ⟨rfl, Nat.le_refl _, rfl, rfl, rfl⟩
section
variable {X : Cx} {T : Tab} {C : Cal} {et : EqT} {gm : Option Nat} {k j : Nat} {A : Around} {pins : List (Addr × Obj)} {σ : L2.St} {H : Hp} {s : Shared}
theorem Bl.rm (b : Bl X j A) (hj : j ≤ 30) (hr : RmX gm T (k + 2) X) (I : Inv X pins σ H s) : Rm gm T X.K k A s H ∧ Env0 X.prog X.w X.K X.mg X.base A X.stack s H ∧ A.units + 170 < cLine := by
  have z := hr.at_ I
  have e := I.env0
  have r := z.room
  have h1 := r.hd; have h2 := r.dp; have h3 := r.un; have h4 := b.un
  exact ⟨⟨⟨b.hd.trans h1, by rw [b.dp]; omega, by omega⟩, z.gd.same b.gd⟩, ⟨by rw [b.fr]; exact e.frames, e.mod, e.bs, e.bsz, e.funs, e.frf, e.hok, e.bare⟩, by omega⟩
/-- what a rich comparison tells -/
def RcD (X : Cx) (T : Tab) (A : Around) (neg : Bool) (dx dy : D) : Prop := ∀ ⦃pins : List (Addr × Obj)⦄ ⦃σ : L2.St⦄ ⦃H : Hp⦄ ⦃s : Shared⦄ ⦃v u : V⦄ ⦃a b : Value⦄, Inv X pins σ H s → Is T X.K H dx v → Is T X.K H dy u → RelV v a → RelV u b →
  ∀ (E Q : Value → Shared → Prop), (∀ H' s', Inv X pins σ H' s' → Ext H H' → Q (.bool (if neg then !eqD dx dy else eqD dx dy)) s') → wpAny (model X.prog X.w) A (richCompare (if neg then .NotEq else .Eq) a b) Q E s
/-- the same thing is equal to itself -/
theorem val_kind {q : Bool} {n : Nat} {d : D} {v : V} {a : Value} (hk : eqk q n d = true) (i : Is T X.K H d v) (r : RelV v a) : (∀ f t, a ≠ .float f t) := by
  intro f t e
  subst e
  cases d <;> simp only [Is] at i <;> first | (simp [eqk] at hk; done) | skip
  all_goals first
    | (subst i; first | (obtain ⟨_, e⟩ := r; cases e; done) | (cases r; done))
    | (obtain ⟨_, _, e, _⟩ := i; subst e; cases r; done)
    | (obtain ⟨_, _, _, e, _⟩ := i; subst e; cases r; done)
    | (obtain ⟨_, _, _, _, _, _, e, _⟩ := i; subst e; cases r; done)
end
end Cn

namespace Cn
open PySem PySem.Spec PyProof.Rows L2 PySem.W
section
variable {X : Cx} {T : Tab} {C : Cal} {et : EqT} {gm : Option Nat} {k j : Nat} {A : Around} {pins : List (Addr × Obj)} {σ : L2.St} {H : Hp} {s : Shared}
def kc (T : Tab) : D → Value
  | .tup _ => .type "tuple"
  | .lst _ => .type "list"
  | .dct _ _ => .type "dict"
  | .ins c _ => .ref (T.cA c)
  | _ => .none
def boxed : D → Bool
  | .tup _ => true
  | .lst _ => true
  | .dct _ _ => true
  | .ins _ _ => true
  | _ => false
theorem objD {d : D} {v : V} {a : Value} (I : Inv X pins σ H s) (i : Is T X.K H d v) (r : RelV v a) (hb : boxed d = true) : ∃ (ad : Addr) (o : Obj), v = .ref ad ∧ a = .ref ad ∧ s.heap.get? ad = some o ∧ o.cls = kc T d ∧ NoPrim o := by
  cases d with
  | tup l =>
    simp only [Is] at i
    obtain ⟨ad, xs, rfl, h, _⟩ := i
    cases r
    obtain ⟨its, _, ⟨o, h1, h2, n, h3⟩, _⟩ := I.tuple h
    exact ⟨ad, o, rfl, rfl, h1, h2, fun p e => by rw [h3] at e; cases e⟩
  | lst l =>
    simp only [Is] at i
    obtain ⟨ad, xs, rfl, ⟨ob, h⟩, _⟩ := i
    cases r
    obtain ⟨z, its, n, _, e⟩ := (show ObjOk X.prog X.w H s.heap ad (.lst xs) from (I.hok ad _ h).2)
    exact ⟨ad, _, rfl, rfl, e, rfl, fun p e => by cases e⟩
  | dct ks vs =>
    simp only [Is] at i
    obtain ⟨ad, ob, kvs, rfl, h, _⟩ := i
    cases r
    obtain ⟨z, hs, xs, hp, o, es, ep, h1, h2, h3, _⟩ := (show ObjOk X.prog X.w H s.heap ad (.dK kvs) from (I.hok ad _ h).2)
    exact ⟨ad, o, rfl, rfl, h1, h2.1, fun p e => by rw [h3] at e; cases e⟩
  | ins c l =>
    simp only [Is] at i
    obtain ⟨ad, ob, dx, fs, xs, ok, rfl, h, _⟩ := i
    cases r
    obtain ⟨mA, O, _⟩ := ins_rd I.hok (.inr ⟨ob, h⟩)
    exact ⟨ad, _, rfl, rfl, O.obj, rfl, fun p e => by cases e⟩
  | _ => cases hb
theorem relV_inj {v u : V} {a : Value} (r : RelV v a) (r' : RelV u a) : v = u := by
  cases v <;> simp only [L2.RelV] at r <;> (first | subst r | obtain ⟨t, rfl⟩ := r) <;> cases u <;> simp_all [L2.RelV]
theorem same_kind {dx dy : D} {v : V} {a : Value} (KC : ClsOk T X.K) (I : Inv X pins σ H s) (ix : Is T X.K H dx v) (iy : Is T X.K H dy v) (r : RelV v a) (hx : boxed dx = true) (hy : boxed dy = true) : kc T dx = kc T dy := by
  obtain ⟨ad, o, e1, e2, h1, h2, _⟩ := objD I ix r hx
  obtain ⟨ad', o', e1', e2', h1', h2', _⟩ := objD I iy r hy
  rw [e2] at e2'
  cases e2'
  rw [h1] at h1'
  cases h1'
  exact h2.symm.trans h2'

theorem sc_val {q : Bool} {n : Nat} {d : D} {v : V} {a : Value} (hk : eqk q n d = true) (hb : boxed d = false) (i : Is T X.K H d v) (r : RelV v a) : ∀ ad, a ≠ .ref ad := by
  intro ad e
  subst e
  cases d <;> first | (cases hb; done) | (simp [eqk] at hk; done) | skip
  all_goals
    simp only [Is] at i
    subst i
    simp [L2.RelV] at r
theorem sc_eqD {q : Bool} {n m : Nat} {dx dy : D} {v : V} (hx : eqk q n dx = true) (hy : eqk q m dy = true) (bx : boxed dx = false) (by_ : boxed dy = false) (ix : Is T X.K H dx v) (iy : Is T X.K H dy v) : eqD dx dy = true := by
  cases dx <;> first | (cases bx; done) | (simp [eqk] at hx; done) | skip
  all_goals cases dy <;> first | (cases by_; done) | (simp [eqk] at hy; done) | skip
  all_goals
    simp only [Is] at ix iy
    subst ix
    first | (cases iy; done) | skip
  · rfl
  · cases iy; simp [eqD]
  · cases iy; simp [eqD]
  · have := S_inj (V.str.inj iy); subst this; simp [eqD]
theorem vals_ex : ∀ {xs : List V}, (∀ x ∈ xs, ∃ u, RelV x u) → ∃ us, Vals xs us
  | [], _ => ⟨[], .nil⟩
  | x :: xs, h => by
    obtain ⟨u, hu⟩ := h x List.mem_cons_self
    obtain ⟨us, hus⟩ := vals_ex fun y hy => h y (List.mem_cons_of_mem _ hy)
    exact ⟨u :: us, .cons hu hus⟩
theorem sameL {n : Nat} {q : Bool} (KC : ClsOk T X.K) (ih : ∀ (q : Bool) (dx dy : D) (v : V) (a : Value), (q = true → dem et C dx dy) → Is T X.K H dx v → Is T X.K H dy v → RelV v a → eqk q n dx = true → eqk q n dy = true → eqD dx dy = true) {l m : List D} {xs : List V} {us : List Value} (il : IsL T X.K H l xs) (im : IsL T X.K H m xs) (rv : Vals xs us)
    (hd : q = true → demL et C l m) (hl : eqkL q n l = true) (hm : eqkL q n m = true) : eqL l m = true := by
  rw [eqL_all]
  refine ⟨by rw [il.length, im.length], fun i x y e1 e2 => ?_⟩
  obtain ⟨v, h1, i1⟩ := il.get e1
  obtain ⟨v', h2, i2⟩ := im.get e2
  rw [h1] at h2
  cases h2
  obtain ⟨u, _, ru⟩ := rv.get h1
  exact ih q x y v u (fun z => demL_at (hd z) e1 e2) i1 i2 ru (eqkL_at hl e1) (eqkL_at hm e2)
/-- one thing is equal to itself -/
theorem same_eqD (KC : ClsOk T X.K) (I : Inv X pins σ H s) : ∀ (n : Nat) (q : Bool) (dx dy : D) (v : V) (a : Value), (q = true → dem et C dx dy) → Is T X.K H dx v → Is T X.K H dy v → RelV v a → eqk q n dx = true → eqk q n dy = true → eqD dx dy = true := by
  intro n
  induction n with
  | zero =>
    intro q dx dy v a hd ix iy r hx hy
    cases bx : boxed dx with
    | false =>
      cases by_ : boxed dy with
      | false => exact sc_eqD hx hy bx by_ ix iy
      | true =>
        obtain ⟨ad, _, _, e, _⟩ := objD I iy r by_
        exact absurd e (sc_val hx bx ix r ad)
    | true =>
      cases by_ : boxed dy with
      | false =>
        obtain ⟨ad, _, _, e, _⟩ := objD I ix r bx
        exact absurd e (sc_val hy by_ iy r ad)
      | true =>
        have hk := same_kind KC I ix iy r bx by_
        cases dx <;> first | (cases bx; done) | (simp [eqk] at hx; done) | skip
        cases dy <;> first | (cases by_; done) | (simp [eqk] at hy; done) | skip
        simp only [eqk] at hx
        have := hd hx
        simp only [dem] at this
  | succ n ih =>
    intro q dx dy v a hd ix iy r hx hy
    cases bx : boxed dx with
    | false =>
      cases by_ : boxed dy with
      | false => exact sc_eqD hx hy bx by_ ix iy
      | true =>
        obtain ⟨ad, _, _, e, _⟩ := objD I iy r by_
        exact absurd e (sc_val hx bx ix r ad)
    | true =>
      cases by_ : boxed dy with
      | false =>
        obtain ⟨ad, _, _, e, _⟩ := objD I ix r bx
        exact absurd e (sc_val hy by_ iy r ad)
      | true =>
        have hk := same_kind KC I ix iy r bx by_
        cases dx <;> first | (cases bx; done) | skip
        all_goals cases dy <;> first | (cases by_; done) | (simp [kc] at hk; done) | skip
        · rename_i l m
          simp only [Is] at ix iy
          obtain ⟨ad, xs, rfl, h1, il⟩ := ix
          obtain ⟨ad', ys, e, h2, im⟩ := iy
          cases e
          obtain rfl := I.tuple_inj h1 h2
          obtain ⟨its, rv, _⟩ := I.tuple h1
          simp only [eqk] at hx hy
          exact sameL KC ih il im rv (fun z => by have := hd z; simpa only [dem] using this) hx hy
        · rename_i l m
          simp only [Is] at ix iy
          obtain ⟨ad, xs, rfl, ⟨o, h1⟩, il⟩ := ix
          obtain ⟨ad', ys, e, ⟨o', h2⟩, im⟩ := iy
          cases e
          rw [h1] at h2
          cases h2
          obtain ⟨z, its, _, rv, _⟩ := (show ObjOk X.prog X.w H s.heap ad (.lst xs) from (I.hok ad _ h1).2)
          simp only [eqk] at hx hy
          exact sameL KC ih il im rv (fun z => by have := hd z; simpa only [dem] using this) hx hy
        · simp only [eqk] at hx
          have := hd hx
          simp only [dem] at this
        · rename_i c l c' m
          simp only [Is] at ix iy
          obtain ⟨ad, o, dx, fs, xs, ok, rfl, h1, h3, h4, il⟩ := ix
          obtain ⟨ad', o', dx', fs', ys, ok', e, h2, h3', h4', im⟩ := iy
          cases e
          rw [h1] at h2
          simp only [kc, Value.ref.injEq] at hk
          obtain rfl := cA_inj KC ok ok' hk
          cases h2
          rw [h3] at h3'
          have hxs : xs = ys := by
            have := h3'
            exact (List.map_inj_right (fun _ _ h => Option.some.inj h)).mp this
          subst hxs
          obtain ⟨mA, O, rf⟩ := ins_rd I.hok (.inr ⟨o, h1⟩)
          have rv : ∃ us, Vals xs us := vals_ex fun x hx => by
            have hm : some x ∈ xs.map some := List.mem_map_of_mem hx
            rw [← h3] at hm
            obtain ⟨f, _, e⟩ := List.mem_map.mp hm
            obtain ⟨u, _, ru⟩ := RelO.some_of (v := x) (o := mA (nm f)) (by rw [← e]; exact rf _)
            exact ⟨u, ru⟩
          obtain ⟨us, rv⟩ := rv
          simp only [eqk] at hx hy
          simp only [eqD, beq_self_eq_true, Bool.true_and]
          exact sameL (q := false) KC ih il im rv (fun z => by cases z) hx hy
end
end Cn

namespace Cn
open PySem PySem.Spec PyProof.Rows L2 PySem.W PySem.SeqAt
section
variable {X : Cx} {T : Tab} {C : Cal} {et : EqT} {gm : Option Nat} {k j : Nat} {A : Around} {pins : List (Addr × Obj)} {σ : L2.St} {H : Hp} {s : Shared}
theorem val_cases {q : Bool} {n : Nat} {d : D} {v : V} {a : Value} (hk : eqk q n d = true) (i : Is T X.K H d v) (r : RelV v a) (I : Inv X pins σ H s) : a = .none ∨ (∃ b, a = .bool b) ∨ (∃ i t, a = .int i t) ∨ (∃ x t, a = .str x t) ∨ ∃ ad, a = .ref ad := by
  cases bx : boxed d with
  | true =>
    obtain ⟨ad, _, _, e, _⟩ := objD I i r bx
    exact .inr (.inr (.inr (.inr ⟨ad, e⟩)))
  | false =>
    cases d <;> first | (cases bx; done) | (simp [eqk] at hk; done) | skip
    all_goals
      simp only [Is] at i
      subst i
    · exact .inl r
    · exact .inr (.inl ⟨_, r⟩)
    · obtain ⟨t, e⟩ := r
      exact .inr (.inr (.inl ⟨_, t, e⟩))
    · obtain ⟨t, e⟩ := r
      exact .inr (.inr (.inr (.inl ⟨_, t, e⟩)))
theorem eqb_of {q : Bool} {n : Nat} {dx dy : D} {v u : V} {a b : Value} (KC : ClsOk T X.K) (h : RcD X T A false dx dy) (hd : q = true → dem et C dx dy) (hx : eqk q n dx = true) (hy : eqk q n dy = true) (I : Inv X pins σ H s) (ix : Is T X.K H dx v) (iy : Is T X.K H dy u) (rx : RelV v a) (ry : RelV u b) {E : Value → Shared → Prop} :
    wpAny (model X.prog X.w) A (eqBool a b) (fun r s' => r = eqD dx dy ∧ ∃ H', Inv X pins σ H' s' ∧ Ext H H') E s := by
  have hs : a = b → eqD dx dy = true := fun e => by
    subst e
    have := relV_inj rx ry
    subst this
    exact same_eqD KC I n q dx dy v a hd ix iy rx hx hy
  have hr := h I ix iy rx ry E (fun v s' => ∃ r, v = .bool r ∧ r = eqD dx dy ∧ ∃ H', Inv X pins σ H' s' ∧ Ext H H') fun H' s' I' e => ⟨_, rfl, rfl, H', I', e⟩
  simp only [Bool.false_eq_true, if_false] at hr
  have fin : wpAny (model X.prog X.w) A (truthOfDropped =<< richCompare .Eq a b) (fun r s' => r = eqD dx dy ∧ ∃ H', Inv X pins σ H' s' ∧ Ext H H') E s := by
    refine wpAny_bind (wpAny_mono hr (fun v s' hv => ?_) fun _ _ x => x)
    obtain ⟨r, rfl, e, z⟩ := hv
    exact wpAny_truthy_bool ⟨e, z⟩
  unfold eqBool
  refine wpAny_holding ?_
  refine wpAny_ite_split (fun hab => ?_) (fun _ => ?_)
  · exact wpAny_bind (wpAny_rule (wpAny_pure ⟨(hs (eq_of_beq hab)).symm, H, I, Ext.rfl'⟩))
  · rcases val_cases hx ix rx I with rfl | ⟨_, rfl⟩ | ⟨_, _, rfl⟩ | ⟨_, _, rfl⟩ | ⟨_, rfl⟩ <;> exact fin
theorem own_callE {f c : Nat} {l : List D} {y : D} {v u : V} {a b : Value} {r : Bool} (F : ∀ f, CalOk gm T X.prog X.w X.K X.mg X.base k (T.fA f) (C f)) (hr : RmX gm T (k + 2) X) (hb : Bl X j A) (hj : j ≤ 30) (h : C f [.ins c l, y] [] (fun _ => none) (fun z _ => z = .bl r) noE)
    (I : Inv X pins σ H s) (ix : Is T X.K H (.ins c l) v) (iy : Is T X.K H y u) (rx : RelV v a) (ry : RelV u b) {E Q : Value → Shared → Prop} (q : ∀ H' s', Inv X pins σ H' s' → Ext H H' → Q (.bool r) s') : wpAny (model X.prog X.w) A (call (.ref (T.fA f)) [a, b]) Q E s := by
  obtain ⟨z1, z2, _⟩ := hb.rm hj hr I
  refine fn_calls (F f) h z1 z2 (.cons ix (.cons iy .nil)) (.cons rx (.cons ry .nil)) I fun v' u' H' s' I' ext i' r' => ?_
  simp only [Is] at i'
  subst i'
  obtain rfl : u' = .bool r := r'
  exact q H' s' I' ext
/-- its type -/
theorem ty_of {q : Bool} {n c : Nat} {d : D} {v : V} {a : Value} (KC : ClsOk T X.K) (hc : T.ok c = true) (hk : eqk q n d = true) (I : Inv X pins σ H s) (i : Is T X.K H d v) (r : RelV v a) : ∃ tb, (∀ M : Model, Looks M s.heap (typeOf a) tb) ∧ notFirst X.K (T.cA c) tb = true := by
  cases bx : boxed d with
  | true =>
    obtain ⟨ad, o, _, rfl, h1, h2, _⟩ := objD I i r bx
    refine ⟨o.cls, fun M A Q E s' k q => ?_, ?_⟩
    · exact wpAny_bind (wpAny_load (k _ _ h1) (wpAny_pure q))
    · rw [h2]
      cases d <;> first | (cases bx; done) | skip
      · exact (not_firstT KC hc (n := 3) (by omega) rfl).1
      · exact (not_firstT KC hc (n := 4) (by omega) rfl).1
      · exact (not_firstT KC hc (n := 5) (by omega) rfl).1
      · simp only [Is] at i
        obtain ⟨_, _, _, _, _, ok, _⟩ := i
        exact not_first KC hc ok
  | false =>
    cases d <;> first | (cases bx; done) | (simp [eqk] at hk; done) | skip
    all_goals
      simp only [Is] at i
      subst i
    · subst r
      exact ⟨_, fun M => Looks.of_pure rfl, (not_firstT KC hc (n := 6) (by omega) rfl).1⟩
    · subst r
      exact ⟨_, fun M => Looks.of_pure rfl, (not_firstT KC hc (n := 1) (by omega) rfl).1⟩
    · obtain ⟨t, rfl⟩ := r
      exact ⟨_, fun M => Looks.of_pure rfl, (not_firstT KC hc (n := 0) (by omega) rfl).1⟩
    · obtain ⟨t, rfl⟩ := r
      exact ⟨_, fun M => Looks.of_pure rfl, (not_firstT KC hc (n := 2) (by omega) rfl).1⟩
/-- a thing of a built-in kind, on the left -/
theorem leftK_of {q : Bool} {n : Nat} {d : D} {v : V} {a : Value} (hk : eqk q n d = true) (hn : ∀ c l, d ≠ .ins c l) (I : Inv X pins σ H s) (i : Is T X.K H d v) (r : RelV v a) : ∃ m ide idn, m < 7 ∧ LeftK X.prog X.w s a (tyN m) ide idn ∧ ((∀ c' l', d ≠ .dct c' l') → m ≠ 5) ∧ ((∃ c' l', d = .dct c' l') → m = 5 ∧ ide = "dict.__eq__" ∧ idn = "dict.__ne__") := by
  cases bx : boxed d with
  | true =>
    obtain ⟨ad, o, _, rfl, h1, h2, _⟩ := objD I i r bx
    cases d <;> first | (cases bx; done) | skip
    · exact ⟨3, _, _, by omega, leftK_tuple h1 h2, fun _ => by omega, fun ⟨_, _, e⟩ => by cases e⟩
    · exact ⟨4, _, _, by omega, leftK_list h1 h2, fun _ => by omega, fun ⟨_, _, e⟩ => by cases e⟩
    · exact ⟨5, _, _, by omega, leftK_dict h1 h2, fun e => absurd rfl (e _ _), fun _ => ⟨rfl, rfl, rfl⟩⟩
    · exact absurd rfl (hn _ _)
  | false =>
    cases d <;> first | (cases bx; done) | (simp [eqk] at hk; done) | skip
    all_goals
      simp only [Is] at i
      subst i
    · subst r
      exact ⟨6, _, _, by omega, leftK_none, fun _ => by omega, fun ⟨_, _, e⟩ => by cases e⟩
    · subst r
      exact ⟨1, _, _, by omega, leftK_bool, fun _ => by omega, fun ⟨_, _, e⟩ => by cases e⟩
    · obtain ⟨t, rfl⟩ := r
      exact ⟨0, _, _, by omega, leftK_int, fun _ => by omega, fun ⟨_, _, e⟩ => by cases e⟩
    · obtain ⟨t, rfl⟩ := r
      exact ⟨2, _, _, by omega, leftK_str, fun _ => by omega, fun ⟨_, _, e⟩ => by cases e⟩

/-- an instance on the left -/
theorem rc_own {q : Bool} {n c : Nat} {l : List D} {y : D} {neg : Bool} (KC : ClsOk T X.K) (F : ∀ f, CalOk gm T X.prog X.w X.K X.mg X.base k (T.fA f) (C f)) (hr : RmX gm T (k + 2) X) (he : ∀ c f, T.ok c = true → et c = some f → EqM X.K (T.cA c) (T.fA f)) (hb : Bl X j A) (hj : j ≤ 29) (hy : eqk q n y = true) (h : own et C c l y) : RcD X T A neg (.ins c l) y := by
  intro pins σ H s v u a b I ix iy rx ry E Q qq
  obtain ⟨f, hf, h1⟩ := h
  have ix' := ix
  simp only [Is] at ix'
  obtain ⟨ad, oa, dx, fs, xs, ok, rfl, ea, _⟩ := ix'
  cases rx
  obtain ⟨mA, O, _⟩ := ins_rd I.hok (.inr ⟨oa, ea⟩)
  obtain ⟨od, J, _⟩ := O.look
  obtain ⟨tb, lb, nf⟩ := ty_of KC ok hy I iy ry
  have m := he c f ok hf
  obtain ⟨_, _, hu⟩ := hb.rm (by omega : j ≤ 30) hr I
  cases neg with
  | false =>
    simp only [Bool.false_eq_true, if_false] at qq ⊢
    exact rc_eq (by omega) I.kIn J (lb _) nf m (own_callE F hr hb (by omega) h1 I ix iy rfl ry fun H' s' I' e => ⟨_, rfl, qq H' s' I' e⟩)
  | true =>
    simp only [if_true] at qq ⊢
    exact rc_ne (by omega) I.kIn J (lb _) nf m (own_callE F hr hb.in1 (by omega) h1 I ix iy rfl ry fun H' s' I' e => ⟨_, rfl, qq H' s' I' e⟩)
/-- an instance on the right -/
theorem rc_own2 {q : Bool} {n c : Nat} {l : List D} {x : D} {neg : Bool} (KC : ClsOk T X.K) (F : ∀ f, CalOk gm T X.prog X.w X.K X.mg X.base k (T.fA f) (C f)) (hr : RmX gm T (k + 2) X) (he : ∀ c f, T.ok c = true → et c = some f → EqM X.K (T.cA c) (T.fA f)) (hb : Bl X j A) (hj : j ≤ 29) (hx : eqk q n x = true) (hn : ∀ c l, x ≠ .ins c l) (h : own et C c l x) : RcD X T A neg x (.ins c l) := by
  intro pins σ H s v u a b I ix iy rx ry E Q qq
  obtain ⟨f, hf, h1⟩ := h
  have iy' := iy
  simp only [Is] at iy'
  obtain ⟨ad, oa, dx, fs, xs, ok, rfl, ea, _⟩ := iy'
  cases ry
  obtain ⟨mA, O, _⟩ := ins_rd I.hok (.inr ⟨oa, ea⟩)
  obtain ⟨od, J, _⟩ := O.look
  have m := he c f ok hf
  obtain ⟨_, _, hu⟩ := hb.rm (by omega : j ≤ 30) hr I
  obtain ⟨t, ide, idn, ht, LK, _⟩ := leftK_of hx hn I ix rx
  have hs := (not_firstT KC ok ht rfl).2
  have li : ∀ M : Model, Looks M s.heap (isInstance (.ref ad) (.type (tyN t))) false := fun M => J.type.andThen (looks_subIn I.kIn hs)
  rw [eqD_ins2 hn] at h1
  rw [eqD_ins hn] at qq
  cases neg with
  | false =>
    simp only [Bool.false_eq_true, if_false] at qq ⊢
    exact rc_back LK.ty (by omega) I.kIn J hs LK.eq (fun Q' hq => LK.deq ad _ O.obj (fun p e => by cases e) li A E Q' hq) m (own_callE F hr hb (by omega) h1 I iy ix rfl rx fun H' s' I' e => ⟨_, rfl, qq H' s' I' e⟩)
  | true =>
    simp only [if_true] at qq ⊢
    exact rn_back LK.ty (by omega) I.kIn J hs LK.ne (fun Q' hq => LK.dne ad _ O.obj (fun p e => by cases e) li A E Q' hq) m (own_callE F hr hb.in1 (by omega) h1 I iy ix rfl rx fun H' s' I' e => ⟨_, rfl, qq H' s' I' e⟩)
end
end Cn

namespace Cn
open PySem PySem.Spec PyProof.Rows L2 PySem.W PySem.SeqAt
open MeetsSeq MeetsSeq2 MeetsSeq3 SeqRoads2
section
variable {X : Cx} {T : Tab} {C : Cal} {et : EqT} {gm : Option Nat} {k j : Nat} {A : Around} {pins : List (Addr × Obj)} {σ : L2.St} {H : Hp} {s : Shared}
def eAt (l m : List D) (i : Nat) : Bool := match l[i]?, m[i]? with
  | some x, some y => eqD x y
  | _, _ => true
theorem eAt_f {l m : List D} {i : Nat} (h : eAt l m i = false) : eqL l m = false := by
  unfold eAt at h
  split at h
  · rename_i x y e1 e2
    cases z : eqL l m with
    | false => rfl
    | true =>
      have := (eqL_all l m).mp z
      rw [this.2 i x y e1 e2] at h
      cases h
  · cases h
theorem eAt_t {l m : List D} (h : ∀ i, i < min l.length m.length → eAt l m i = true) : eqL l m = (l.length == m.length) := by
  cases z : (l.length == m.length) with
  | false =>
    cases w : eqL l m with
    | false => rfl
    | true =>
      have := ((eqL_all l m).mp w).1
      rw [this] at z
      simp at z
  | true =>
    have hl : l.length = m.length := beq_iff_eq.mp z
    refine (eqL_all l m).mpr ⟨hl, fun i x y e1 e2 => ?_⟩
    have h1 : i < l.length := (List.getElem?_eq_some_iff.mp e1).1
    have := h i (by omega)
    unfold eAt at this
    rw [e1, e2] at this
    exact this
/-- the items' turn -/
theorem turn_of {q : Bool} {n : Nat} {l m : List D} {xs ys : List V} {its its2 : List Value} (KC : ClsOk T X.K) (el : ∀ (i : Nat) (x y : D), l[i]? = some x → m[i]? = some y → RcD X T A false x y) (hd : q = true → demL et C l m) (hl : eqkL q n l = true) (hm : eqkL q n m = true)
    (il : IsL T X.K H l xs) (im : IsL T X.K H m ys) (r : Vals xs its) (r2 : Vals ys its2) (i : Nat) (h1 : i < its.toArray.size) (h2 : i < its2.toArray.size) (s' : Shared) (hs : ∃ H', Inv X pins σ H' s' ∧ Ext H H') {E : Value → Shared → Prop} :
    wpAny (model X.prog X.w) A (eqBool its.toArray[i] its2.toArray[i]) (fun b s2 => b = eAt l m i ∧ ∃ H', Inv X pins σ H' s2 ∧ Ext H H') E s' := by
  obtain ⟨H1, I1, e1⟩ := hs
  have g1 : i < its.length := by simpa using h1
  have g2 : i < its2.length := by simpa using h2
  have k1 : i < l.length := by rw [il.length, r.length]; exact g1
  have k2 : i < m.length := by rw [im.length, r2.length]; exact g2
  obtain ⟨v, a1, b1⟩ := il.get (List.getElem?_eq_getElem k1)
  obtain ⟨v2, a2, b2⟩ := im.get (List.getElem?_eq_getElem k2)
  obtain ⟨u, c1, d1⟩ := r.get a1
  obtain ⟨u2, c2, d2⟩ := r2.get a2
  have f1 : its.toArray[i] = u := by
    have : its[i]? = some its[i] := List.getElem?_eq_getElem g1
    rw [this] at c1
    simpa using Option.some.inj c1
  have f2 : its2.toArray[i] = u2 := by
    have : its2[i]? = some its2[i] := List.getElem?_eq_getElem g2
    rw [this] at c2
    simpa using Option.some.inj c2
  rw [f1, f2]
  have ee : eAt l m i = eqD l[i] m[i] := by
    unfold eAt
    rw [List.getElem?_eq_getElem k1, List.getElem?_eq_getElem k2]
  rw [ee]
  refine wpAny_mono (eqb_of (et := et) (C := C) KC (el i _ _ (List.getElem?_eq_getElem k1) (List.getElem?_eq_getElem k2)) (fun z => demL_at (hd z) (List.getElem?_eq_getElem k1) (List.getElem?_eq_getElem k2)) (eqkL_at hl (List.getElem?_eq_getElem k1)) (eqkL_at hm (List.getElem?_eq_getElem k2)) I1 (b1.mono (Cn.Ext.kp e1)) (b2.mono (Cn.Ext.kp e1)) d1 d2) (fun b s2 z => ?_) fun _ _ x => x
  obtain ⟨z1, H2, I2, e2⟩ := z
  exact ⟨z1, H2, I2, e1.trans e2⟩
theorem rc_tt {q : Bool} {n : Nat} {l m : List D} {neg : Bool} (KC : ClsOk T X.K) (hr : RmX gm T (k + 2) X) (hb : Bl X j A) (hj : j ≤ 29) (el : ∀ (i : Nat) (x y : D), l[i]? = some x → m[i]? = some y → RcD X T A.in1 false x y) (hd : q = true → demL et C l m) (hl : eqkL q n l = true) (hm : eqkL q n m = true) : RcD X T A neg (.tup l) (.tup m) := by
  intro pins σ H s v u a b I ix iy rx ry E Q qq
  simp only [Is] at ix iy
  obtain ⟨ad, xs, rfl, h1, il⟩ := ix
  obtain ⟨ad2, ys, rfl, h2, im⟩ := iy
  cases rx
  cases ry
  obtain ⟨_, _, hu⟩ := hb.rm (by omega : j ≤ 30) hr I
  obtain ⟨its, r, ⟨⟨cls, dd, data, sl⟩, ho, hc, e1, hdt⟩, _⟩ := I.tuple h1
  obtain ⟨its2, r2, ⟨⟨cls2, dd2, data2, sl2⟩, ho2, hc2, e2, hdt2⟩, _⟩ := I.tuple h2
  simp only at hc hdt hc2 hdt2
  subst hc hdt hc2 hdt2
  have tn := fun (i : Nat) (h1 : i < its.toArray.size) (h2 : i < its2.toArray.size) s' hs (E : Value → Shared → Prop) => turn_of (pins := pins) (σ := σ) (E := E) KC el hd hl hm il im r r2 i h1 h2 s' hs
  have hmin : min its.toArray.size its2.toArray.size = min l.length m.length := by rw [List.size_toArray, List.size_toArray, ← r.length, ← r2.length, ← il.length, ← im.length]
  have hz1 : its.toArray.size = l.length := by rw [List.size_toArray, ← r.length, ← il.length]
  have hz2 : its2.toArray.size = m.length := by rw [List.size_toArray, ← r2.length, ← im.length]
  have eD : eqD (.tup l) (.tup m) = eqL l m := by simp only [eqD]
  cases neg with
  | false =>
    simp only [Bool.false_eq_true, if_false, eD] at qq ⊢
    refine wpAny_richCompare_same_room (op := .Eq) ⟨_, ho, rfl⟩ ⟨_, ho2, rfl⟩ F.slot_tuple_eq (GQ.call_here F.slot_tuple_eq ⟨_, ho, rfl⟩ F.entry_tuple_eq (F.args_tuple_eq_2 _ _) ?_) (by omega)
    refine tup_eqJ (R := wants (fun v s' => v ≠ .notImplemented ∧ Q v s') E) ad ad2 its.toArray its2.toArray e1 e2 dd dd2 sl sl2 (eAt l m) (fun _ s' => ∃ H', Inv X pins σ H' s' ∧ Ext H H') (fun i a b s' hs => tn i a b s' hs _) (fun i s' _ he hs => ?_) (fun s' ha hs => ?_) ho ho2 ⟨H, I, Ext.rfl'⟩
    · obtain ⟨H', I', e'⟩ := hs
      have := qq H' s' I' e'
      rw [eAt_f he] at this
      exact ⟨(fun x => nomatch x), this⟩
    · obtain ⟨H', I', e'⟩ := hs
      have := qq H' s' I' e'
      rw [eAt_t (fun i hi => ha i (by omega))] at this
      rw [hz1, hz2]
      exact ⟨(fun x => nomatch x), this⟩
  | true =>
    simp only [if_true, eD] at qq ⊢
    refine wpAny_richCompare_same_room (op := .NotEq) ⟨_, ho, rfl⟩ ⟨_, ho2, rfl⟩ F.slot_tuple_ne (GQ.call_here F.slot_tuple_ne ⟨_, ho, rfl⟩ F.entry_tuple_ne (F.args_tuple_ne_2 _ _) ?_) (by omega)
    refine tup_neJ (R := wants (fun v s' => v ≠ .notImplemented ∧ Q v s') E) ad ad2 its.toArray its2.toArray e1 e2 dd dd2 sl sl2 (eAt l m) (fun _ s' => ∃ H', Inv X pins σ H' s' ∧ Ext H H') (fun i a b s' hs => tn i a b s' hs _) (fun i s' _ he hs => ?_) (fun s' ha hs => ?_) ho ho2 ⟨H, I, Ext.rfl'⟩
    · obtain ⟨H', I', e'⟩ := hs
      have := qq H' s' I' e'
      rw [eAt_f he] at this
      exact ⟨(fun x => nomatch x), this⟩
    · obtain ⟨H', I', e'⟩ := hs
      have := qq H' s' I' e'
      rw [eAt_t (fun i hi => ha i (by omega))] at this
      rw [hz1, hz2]
      exact ⟨(fun x => nomatch x), this⟩
/-- lists that nobody writes, or that stand in g -/
theorem rc_ll {q : Bool} {n : Nat} {l m : List D} {neg : Bool} {ad ad2 : Addr} {xs ys : List V} (KC : ClsOk T X.K) (hr : RmX gm T (k + 2) X) (hb : Bl X j A) (hj : j ≤ 29) (el : ∀ (i : Nat) (x y : D), l[i]? = some x → m[i]? = some y → RcD X T A.in1 false x y) (hd : q = true → demL et C l m) (hl : eqkL q n l = true) (hm : eqkL q n m = true)
    (I : Inv X pins σ H s) (h1 : Rd H ad (.lst xs)) (h2 : Rd H ad2 (.lst ys)) (il : IsL T X.K H l xs) (im : IsL T X.K H m ys) (E Q : Value → Shared → Prop) (qq : ∀ H' s', Inv X pins σ H' s' → Ext H H' → Q (.bool (if neg then !eqL l m else eqL l m)) s') : wpAny (model X.prog X.w) A (richCompare (if neg then .NotEq else .Eq) (.ref ad) (.ref ad2)) Q E s := by
  obtain ⟨_, _, hu⟩ := hb.rm (by omega : j ≤ 30) hr I
  have rdE : ∀ {H' : Hp} {a : Addr} {o : HO}, Ext H H' → Rd H a o → Rd H' a o := fun e h => h.elim (fun h => .inl (e _ _ h)) fun ⟨o, h⟩ => .inr ⟨o, e _ _ h⟩
  obtain ⟨z, its, e1, r, ho⟩ := (show ObjOk X.prog X.w H s.heap ad (.lst xs) from h1.ok I.hok)
  obtain ⟨z2, its2, e2, r2, ho2⟩ := (show ObjOk X.prog X.w H s.heap ad2 (.lst ys) from h2.ok I.hok)
  have hz1 : xs.length = l.length := il.length.symm
  have hz2 : ys.length = m.length := im.length.symm
  by_cases hlm : l.length = m.length
  · have rd2 : ∀ (i : Nat) (s' : Shared), (∃ H', Inv X pins σ H' s' ∧ Ext H H') → ∀ E : Value → Shared → Prop, ∃ (items items2 : Array Value) (n n2 : Nat), s'.heap.get? ad = some { cls := .type "list", data := .seq items n } ∧ s'.heap.get? ad2 = some { cls := .type "list", data := .seq items2 n2 } ∧ items.size = l.length ∧ items2.size = l.length ∧
        ∀ (h1 : i < items.size) (h2 : i < items2.size), wpAny (model X.prog X.w) A.in1 (eqBool items[i] items2[i]) (fun r s' => r = eAt l m i ∧ ∃ H', Inv X pins σ H' s' ∧ Ext H H') E s' := by
      intro i s' hs E
      obtain ⟨H', I', e'⟩ := id hs
      obtain ⟨z, its, e1, r, ho⟩ := (show ObjOk X.prog X.w H' s'.heap ad (.lst xs) from (rdE e' h1).ok I'.hok)
      obtain ⟨z2, its2, e2, r2, ho2⟩ := (show ObjOk X.prog X.w H' s'.heap ad2 (.lst ys) from (rdE e' h2).ok I'.hok)
      exact ⟨its.toArray, its2.toArray, e1, e2, ho, ho2, by rw [List.size_toArray, ← r.length, hz1], by rw [List.size_toArray, ← r2.length, hz2, hlm], fun a b => turn_of KC el hd hl hm il im r r2 i a b s' hs⟩
    have hmin : ∀ i, i < min l.length m.length ↔ i < l.length := fun i => by omega
    have et1 : (∀ i, i < l.length → eAt l m i = true) → eqL l m = true := fun ha => by
      rw [eAt_t (fun i hi => ha i ((hmin i).mp hi)), hlm]
      simp
    cases neg with
    | false =>
      simp only [Bool.false_eq_true, if_false] at qq ⊢
      refine wpAny_richCompare_same_room (op := .Eq) ⟨_, ho, rfl⟩ ⟨_, ho2, rfl⟩ F.slot_list_eq (GQ.call_here F.slot_list_eq ⟨_, ho, rfl⟩ F.entry_list_eq (F.args_list_eq_2 _ _) ?_) (by omega)
      refine list_eqJ (R := wants (fun v s' => v ≠ .notImplemented ∧ Q v s') E) ad ad2 l.length (eAt l m) (fun _ s' => ∃ H', Inv X pins σ H' s' ∧ Ext H H') (fun i s' hs => rd2 i s' hs _) (fun i s' _ he hs => ?_) (fun s' ha hs => ?_) ⟨H, I, Ext.rfl'⟩
      · obtain ⟨H', I', e'⟩ := hs
        have := qq H' s' I' e'
        rw [eAt_f he] at this
        exact ⟨(fun x => nomatch x), this⟩
      · obtain ⟨H', I', e'⟩ := hs
        have := qq H' s' I' e'
        rw [et1 ha] at this
        exact ⟨(fun x => nomatch x), this⟩
    | true =>
      simp only [if_true] at qq ⊢
      refine wpAny_richCompare_same_room (op := .NotEq) ⟨_, ho, rfl⟩ ⟨_, ho2, rfl⟩ F.slot_list_ne (GQ.call_here F.slot_list_ne ⟨_, ho, rfl⟩ F.entry_list_ne (F.args_list_ne_2 _ _) ?_) (by omega)
      refine list_neJ (R := wants (fun v s' => v ≠ .notImplemented ∧ Q v s') E) ad ad2 l.length (eAt l m) (fun _ s' => ∃ H', Inv X pins σ H' s' ∧ Ext H H') (fun i s' hs => rd2 i s' hs _) (fun i s' _ he hs => ?_) (fun s' ha hs => ?_) ⟨H, I, Ext.rfl'⟩
      · obtain ⟨H', I', e'⟩ := hs
        have := qq H' s' I' e'
        rw [eAt_f he] at this
        exact ⟨(fun x => nomatch x), this⟩
      · obtain ⟨H', I', e'⟩ := hs
        have := qq H' s' I' e'
        rw [et1 ha] at this
        exact ⟨(fun x => nomatch x), this⟩
  · have hsz : (its.toArray.size != its2.toArray.size) = true := by
      rw [List.size_toArray, List.size_toArray, ← r.length, ← r2.length, hz1, hz2]
      simpa using hlm
    have hf : eqL l m = false := by
      cases w : eqL l m with
      | false => rfl
      | true => exact absurd ((eqL_all l m).mp w).1 hlm
    rw [hf] at qq
    cases neg with
    | false => exact RcAt.lists_lengths (s := s) ⟨_, ho, rfl, _, rfl⟩ ⟨_, ho2, rfl, _, rfl⟩ hsz (by omega) X.prog X.w E Q (qq H s I Ext.rfl')
    | true => exact RcNeAt.lists_lengths (s := s) ⟨_, ho, rfl, _, rfl⟩ ⟨_, ho2, rfl, _, rfl⟩ hsz (by omega) X.prog X.w E Q (qq H s I Ext.rfl')
end
end Cn

namespace Cn
open PySem PySem.Spec PyProof.Rows L2 PySem.W PySem.SeqAt
section
variable {X : Cx} {T : Tab} {C : Cal} {et : EqT} {gm : Option Nat} {k j : Nat} {A : Around} {pins : List (Addr × Obj)} {σ : L2.St} {H : Hp} {s : Shared}
theorem sub_td : ∀ t, t < 7 → t ≠ 5 → isSubtype (.type (tyN t)) (.type "dict") = pure false ∧ isSubtype (.type "dict") (.type (tyN t)) = pure false ∧ (Value.type (tyN t) != Value.type "dict") = true ∧ (Value.type "dict" != Value.type (tyN t)) = true
  | 0, _, _ => ⟨by kernel_rfl, by kernel_rfl, by decide, by decide⟩
  | 1, _, _ => ⟨by kernel_rfl, by kernel_rfl, by decide, by decide⟩
  | 2, _, _ => ⟨by kernel_rfl, by kernel_rfl, by decide, by decide⟩
  | 3, _, _ => ⟨by kernel_rfl, by kernel_rfl, by decide, by decide⟩
  | 4, _, _ => ⟨by kernel_rfl, by kernel_rfl, by decide, by decide⟩
  | 6, _, _ => ⟨by kernel_rfl, by kernel_rfl, by decide, by decide⟩
  | 5, _, h => absurd rfl h
  | n + 7, h, _ => by omega
theorem looks_ty {a : Value} {t : String} (h : s.TypeIs a t) (M : Model) : Looks M s.heap (typeOf a) (.type t) := by
  cases a with
  | ref ad =>
    obtain ⟨o, h1, h2⟩ := h
    intro A Q E s' k q
    refine wpAny_bind (wpAny_load (k _ _ h1) (wpAny_pure ?_))
    rw [h2]
    exact q
  | _ => exact Looks.of_pure h
theorem not_inst {a : Value} {t u : String} (h : s.TypeIs a t) (hs : isSubtype (.type t) (.type u) = pure false) (M : Model) : Looks M s.heap (isInstance a (.type u)) false := (looks_ty h M).andThen (Looks.of_pure hs)
theorem same_no {q : Bool} {n : Nat} {d : D} {v : V} {b : Value} {ad : Addr} {o : Obj} {M : Model} {E : Value → Shared → Prop} {Q : Bool → Shared → Prop} (hk : eqk q n d = true) (I : Inv X pins σ H s) (i : Is T X.K H d v) (r : RelV v b) (ho : s.heap.get? ad = some o) (hc : o.cls = .type "dict") (hne : b ≠ .ref ad) (h : Q false s) :
    wpAny M A (isSame (.ref ad) b) Q E s ∧ wpAny M A (isSame b (.ref ad)) Q E s := by
  rcases val_cases hk i r I with rfl | ⟨_, rfl⟩ | ⟨_, _, rfl⟩ | ⟨_, _, rfl⟩ | ⟨ad2, rfl⟩
  · exact ⟨wpAny_of_eq rfl h, wpAny_of_eq rfl h⟩
  · exact ⟨wpAny_of_eq rfl h, wpAny_of_eq rfl h⟩
  · exact ⟨wpAny_of_eq rfl h, wpAny_of_eq rfl h⟩
  · exact ⟨wpAny_of_eq rfl h, wpAny_of_eq rfl h⟩
  · cases bx : boxed d with
    | false => exact absurd rfl (sc_val hk bx i r ad2)
    | true =>
      obtain ⟨ad3, o3, _, e, h3, _⟩ := objD I i r bx
      cases e
      have h1 : ad ≠ ad2 := fun z => hne (by rw [z])
      exact ⟨wpAny_isSame_ref_other h1 ho h3 (by rw [hc]; simp) h, wpAny_isSame_ref_other' h1.symm h3 ho (by rw [hc]; simp) h⟩
/-- a dict beside a thing of another built-in kind -/
theorem rc_dct {q : Bool} {n : Nat} {ks vs : List D} {d : D} {neg : Bool} (hr : RmX gm T (k + 2) X) (hb : Bl X j A) (hj : j ≤ 29) (hd : eqk q n d = true) (hq : eqk q n (.dct ks vs) = true) (hn : ∀ c l, d ≠ .ins c l) (hn2 : ∀ c l, d ≠ .dct c l) : RcD X T A neg (.dct ks vs) d ∧ RcD X T A neg d (.dct ks vs) := by
  have e1 : eqD (.dct ks vs) d = false := by cases d <;> first | rfl | exact absurd rfl (hn2 _ _)
  have e2 : eqD d (.dct ks vs) = false := by cases d <;> first | rfl | exact absurd rfl (hn2 _ _)
  have main : ∀ {pins : List (Addr × Obj)} {σ : L2.St} {H : Hp} {s : Shared} {v u : V} {a b : Value}, Inv X pins σ H s → Is T X.K H (.dct ks vs) v → Is T X.K H d u → RelV v a → RelV u b → ∀ (E Q : Value → Shared → Prop), Q (.bool neg) s → wpAny (model X.prog X.w) A (richCompare (if neg then .NotEq else .Eq) a b) Q E s ∧ wpAny (model X.prog X.w) A (richCompare (if neg then .NotEq else .Eq) b a) Q E s := by
    intro pins σ H s v u a b I ix iy rx ry E Q qq
    obtain ⟨_, _, hu⟩ := hb.rm (by omega : j ≤ 30) hr I
    obtain ⟨ad, o, rfl, rfl, ho, hc, hp⟩ := objD I ix rx rfl
    have hc : o.cls = .type "dict" := hc
    obtain ⟨t, ide, idn, ht, LK, h5, _⟩ := leftK_of hd hn I iy ry
    have h5 := h5 hn2
    obtain ⟨s1, s2, n1, n2⟩ := sub_td t ht h5
    have LD := leftK_dict (prog := X.prog) (w := X.w) ho hc
    have i1 : ∀ M : Model, Looks M s.heap (isInstance b (.type "dict")) false := fun M => not_inst LK.ty s1 M
    have i2 : ∀ M : Model, Looks M s.heap (isInstance (.ref ad) (.type (tyN t))) false := fun M => not_inst LD.ty s2 M
    have hne : b ≠ .ref ad := fun z => by
      have h1 := LK.ty
      rw [z] at h1
      obtain ⟨o', g1, g2⟩ := h1
      rw [ho] at g1
      cases g1
      rw [hc] at g2
      simp [← g2] at n1
    have ad' : [Value.ref ad, b].any Value.onHeap = false ∨ A.units < cLine := .inr (by omega)
    have ad'' : [b, Value.ref ad].any Value.onHeap = false ∨ A.units < cLine := .inr (by omega)
    cases neg with
    | false =>
      simp only [Bool.false_eq_true, if_false] at *
      exact ⟨rc_eq_decline_or (k := false) LD.ty LK.ty n2 s1 LD.eq LK.eqr (fun Q' hq => dict_deq ho hc i1 hq) (fun Q' hq => LK.deq ad o ho hp i2 A E Q' hq) (fun Q' hq => (same_no hd I iy ry ho hc hne hq).1) ad' qq,
        rc_eq_decline_or (k := false) LK.ty LD.ty n1 s2 LK.eq LD.eqr (fun Q' hq => LK.deq ad o ho hp i2 A E Q' hq) (fun Q' hq => dict_deq ho hc i1 hq) (fun Q' hq => (same_no hd I iy ry ho hc hne hq).2) ad'' qq⟩
    | true =>
      simp only [if_true] at *
      exact ⟨rc_ne_decline_or (k := false) LD.ty LK.ty n2 s1 LD.ne LK.ner (fun Q' hq => dict_dne ho hc i1 hq) (fun Q' hq => LK.dne ad o ho hp i2 A E Q' hq) (fun Q' hq => (same_no hd I iy ry ho hc hne hq).1) ad' qq,
        rc_ne_decline_or (k := false) LK.ty LD.ty n1 s2 LK.ne LD.ner (fun Q' hq => LK.dne ad o ho hp i2 A E Q' hq) (fun Q' hq => dict_dne ho hc i1 hq) (fun Q' hq => (same_no hd I iy ry ho hc hne hq).2) ad'' qq⟩
  constructor
  · intro pins σ H s v u a b I ix iy rx ry E Q qq
    refine (main I ix iy rx ry E Q ?_).1
    have := qq H s I Ext.rfl'
    rw [e1] at this
    cases neg <;> exact this
  · intro pins σ H s v u a b I ix iy rx ry E Q qq
    refine (main I iy ix ry rx E Q ?_).2
    have := qq H s I Ext.rfl'
    rw [e2] at this
    cases neg <;> exact this
/-- == and != of trees -/
theorem rc_deep (KC : ClsOk T X.K) (F : ∀ f, CalOk gm T X.prog X.w X.K X.mg X.base k (T.fA f) (C f)) (hr : RmX gm T (k + 2) X) (he : ∀ c f, T.ok c = true → et c = some f → EqM X.K (T.cA c) (T.fA f)) : ∀ (n : Nat) (q : Bool) (dx dy : D) (neg : Bool) (A : Around) (j : Nat), eqk q n dx = true → eqk q n dy = true → dem et C dx dy → Bl X j A → j + n ≤ 29 → RcD X T A neg dx dy := by
  intro n
  induction n using Nat.strongRecOn with
  | _ n ih =>
  intro q dx dy neg A j hx hy hd hb hj
  have fin : ∀ {s : Shared} {H : Hp} {pins : List (Addr × Obj)} {σ : L2.St} {b : Bool} {Q : Value → Shared → Prop} {p : Prop}, Inv X pins σ H s → (∀ H' s', Inv X pins σ H' s' → Ext H H' → Q (.bool b) s') → Q (.bool b) s := fun I q => q _ _ I Ext.rfl'

  cases dx with
  | ins c l => exact rc_own KC F hr he hb (by omega) hy (by simpa only [dem] using hd)
  | non =>
    cases dy with
    | ins c m => exact rc_own2 KC F hr he hb (by omega) hx (fun _ _ e => by cases e) (by simpa only [dem] using hd)
    | non =>
      intro pins σ H s v u a b I ix iy rx ry E Q qq
      have qq := qq H s I Ext.rfl'
      obtain ⟨_, _, hu⟩ := hb.rm (by omega : j ≤ 30) hr I
      simp only [Is] at ix
      subst ix
      subst rx
      simp only [Is] at iy
      subst iy
      subst ry
      cases neg with
      | false => exact RcAt.none_none   X.prog X.w E Q (by simpa [eqD] using qq)
      | true => exact RcNeAt.none_none   X.prog X.w E Q (by simpa [eqD] using qq)
    | bl y =>
      intro pins σ H s v u a b I ix iy rx ry E Q qq
      have qq := qq H s I Ext.rfl'
      obtain ⟨_, _, hu⟩ := hb.rm (by omega : j ≤ 30) hr I
      simp only [Is] at ix
      subst ix
      subst rx
      simp only [Is] at iy
      subst iy
      subst ry
      cases neg with
      | false => exact RcAt.none_bool _  X.prog X.w E Q (by simpa [eqD] using qq)
      | true => exact RcNeAt.none_bool _  X.prog X.w E Q (by simpa [eqD] using qq)
    | int y =>
      intro pins σ H s v u a b I ix iy rx ry E Q qq
      have qq := qq H s I Ext.rfl'
      obtain ⟨_, _, hu⟩ := hb.rm (by omega : j ≤ 30) hr I
      simp only [Is] at ix
      subst ix
      subst rx
      simp only [Is] at iy
      subst iy
      obtain ⟨t2, rfl⟩ := ry
      cases neg with
      | false => exact RcAt.none_int _ _  X.prog X.w E Q (by simpa [eqD] using qq)
      | true => exact RcNeAt.none_int _ _  X.prog X.w E Q (by simpa [eqD] using qq)
    | str y =>
      intro pins σ H s v u a b I ix iy rx ry E Q qq
      have qq := qq H s I Ext.rfl'
      obtain ⟨_, _, hu⟩ := hb.rm (by omega : j ≤ 30) hr I
      simp only [Is] at ix
      subst ix
      subst rx
      simp only [Is] at iy
      subst iy
      obtain ⟨t2, rfl⟩ := ry
      cases neg with
      | false => exact RcAt.none_str _ _  X.prog X.w E Q (by simpa [eqD] using qq)
      | true => exact RcNeAt.none_str _ _  X.prog X.w E Q (by simpa [eqD] using qq)
    | tup m =>
      intro pins σ H s v u a b I ix iy rx ry E Q qq
      have qq := qq H s I Ext.rfl'
      obtain ⟨_, _, hu⟩ := hb.rm (by omega : j ≤ 30) hr I
      simp only [Is] at ix
      subst ix
      subst rx
      simp only [Is] at iy
      obtain ⟨ad2, xs2, rfl, h2, il2⟩ := iy
      cases ry
      obtain ⟨its2, r2, t2, _⟩ := I.tuple h2
      have t2 : s.heap.IsTuple ad2 its2.toArray := t2
      cases neg with
      | false => exact RcAt.none_tuple  t2 (by omega) X.prog X.w E Q (by simpa [eqD] using qq)
      | true => exact RcNeAt.none_tuple  t2 (by omega) X.prog X.w E Q (by simpa [eqD] using qq)
    | lst m =>
      intro pins σ H s v u a b I ix iy rx ry E Q qq
      have qq := qq H s I Ext.rfl'
      obtain ⟨_, _, hu⟩ := hb.rm (by omega : j ≤ 30) hr I
      simp only [Is] at ix
      subst ix
      subst rx
      simp only [Is] at iy
      obtain ⟨ad2, xs2, rfl, ⟨o2, h2⟩, il2⟩ := iy
      cases ry
      obtain ⟨its2, r2, t2, _⟩ := I.list (.inl (.inr ⟨o2, h2⟩))
      have t2 : s.heap.IsList ad2 its2.toArray := t2.isList
      cases neg with
      | false => exact RcAt.none_list  t2 (by omega) X.prog X.w E Q (by simpa [eqD] using qq)
      | true => exact RcNeAt.none_list  t2 (by omega) X.prog X.w E Q (by simpa [eqD] using qq)
    | dct ks2 vs2 => exact (rc_dct hr hb (by omega) hx hy (fun _ _ e => by cases e) (fun _ _ e => by cases e)).2
    | _ => simp [eqk] at hy
  | bl x =>
    cases dy with
    | ins c m => exact rc_own2 KC F hr he hb (by omega) hx (fun _ _ e => by cases e) (by simpa only [dem] using hd)
    | non =>
      intro pins σ H s v u a b I ix iy rx ry E Q qq
      have qq := qq H s I Ext.rfl'
      obtain ⟨_, _, hu⟩ := hb.rm (by omega : j ≤ 30) hr I
      simp only [Is] at ix
      subst ix
      subst rx
      simp only [Is] at iy
      subst iy
      subst ry
      cases neg with
      | false => exact RcAt.bool_none _  X.prog X.w E Q (by simpa [eqD] using qq)
      | true => exact RcNeAt.bool_none _  X.prog X.w E Q (by simpa [eqD] using qq)
    | bl y =>
      intro pins σ H s v u a b I ix iy rx ry E Q qq
      have qq := qq H s I Ext.rfl'
      obtain ⟨_, _, hu⟩ := hb.rm (by omega : j ≤ 30) hr I
      simp only [Is] at ix
      subst ix
      subst rx
      simp only [Is] at iy
      subst iy
      subst ry
      cases neg with
      | false => exact RcAt.bool_bool _ _  X.prog X.w E Q (by simpa [eqD] using qq)
      | true => exact RcNeAt.bool_bool _ _  X.prog X.w E Q (by simpa [eqD] using qq)
    | int y =>
      intro pins σ H s v u a b I ix iy rx ry E Q qq
      have qq := qq H s I Ext.rfl'
      obtain ⟨_, _, hu⟩ := hb.rm (by omega : j ≤ 30) hr I
      simp only [Is] at ix
      subst ix
      subst rx
      simp only [Is] at iy
      subst iy
      obtain ⟨t2, rfl⟩ := ry
      cases neg with
      | false => exact RcAt.bool_int _ _ _  X.prog X.w E Q (by simpa [eqD] using qq)
      | true => exact RcNeAt.bool_int _ _ _  X.prog X.w E Q (by simpa [eqD] using qq)
    | str y =>
      intro pins σ H s v u a b I ix iy rx ry E Q qq
      have qq := qq H s I Ext.rfl'
      obtain ⟨_, _, hu⟩ := hb.rm (by omega : j ≤ 30) hr I
      simp only [Is] at ix
      subst ix
      subst rx
      simp only [Is] at iy
      subst iy
      obtain ⟨t2, rfl⟩ := ry
      cases neg with
      | false => exact RcAt.bool_str _ _ _  X.prog X.w E Q (by simpa [eqD] using qq)
      | true => exact RcNeAt.bool_str _ _ _  X.prog X.w E Q (by simpa [eqD] using qq)
    | tup m =>
      intro pins σ H s v u a b I ix iy rx ry E Q qq
      have qq := qq H s I Ext.rfl'
      obtain ⟨_, _, hu⟩ := hb.rm (by omega : j ≤ 30) hr I
      simp only [Is] at ix
      subst ix
      subst rx
      simp only [Is] at iy
      obtain ⟨ad2, xs2, rfl, h2, il2⟩ := iy
      cases ry
      obtain ⟨its2, r2, t2, _⟩ := I.tuple h2
      have t2 : s.heap.IsTuple ad2 its2.toArray := t2
      cases neg with
      | false => exact RcAt.bool_tuple _ t2 (by omega) X.prog X.w E Q (by simpa [eqD] using qq)
      | true => exact RcNeAt.bool_tuple _ t2 (by omega) X.prog X.w E Q (by simpa [eqD] using qq)
    | lst m =>
      intro pins σ H s v u a b I ix iy rx ry E Q qq
      have qq := qq H s I Ext.rfl'
      obtain ⟨_, _, hu⟩ := hb.rm (by omega : j ≤ 30) hr I
      simp only [Is] at ix
      subst ix
      subst rx
      simp only [Is] at iy
      obtain ⟨ad2, xs2, rfl, ⟨o2, h2⟩, il2⟩ := iy
      cases ry
      obtain ⟨its2, r2, t2, _⟩ := I.list (.inl (.inr ⟨o2, h2⟩))
      have t2 : s.heap.IsList ad2 its2.toArray := t2.isList
      cases neg with
      | false => exact RcAt.bool_list _ t2 (by omega) X.prog X.w E Q (by simpa [eqD] using qq)
      | true => exact RcNeAt.bool_list _ t2 (by omega) X.prog X.w E Q (by simpa [eqD] using qq)
    | dct ks2 vs2 => exact (rc_dct hr hb (by omega) hx hy (fun _ _ e => by cases e) (fun _ _ e => by cases e)).2
    | _ => simp [eqk] at hy
  | int x =>
    cases dy with
    | ins c m => exact rc_own2 KC F hr he hb (by omega) hx (fun _ _ e => by cases e) (by simpa only [dem] using hd)
    | non =>
      intro pins σ H s v u a b I ix iy rx ry E Q qq
      have qq := qq H s I Ext.rfl'
      obtain ⟨_, _, hu⟩ := hb.rm (by omega : j ≤ 30) hr I
      simp only [Is] at ix
      subst ix
      obtain ⟨t1, rfl⟩ := rx
      simp only [Is] at iy
      subst iy
      subst ry
      cases neg with
      | false => exact RcAt.int_none _ _  X.prog X.w E Q (by simpa [eqD] using qq)
      | true => exact RcNeAt.int_none _ _  X.prog X.w E Q (by simpa [eqD] using qq)
    | bl y =>
      intro pins σ H s v u a b I ix iy rx ry E Q qq
      have qq := qq H s I Ext.rfl'
      obtain ⟨_, _, hu⟩ := hb.rm (by omega : j ≤ 30) hr I
      simp only [Is] at ix
      subst ix
      obtain ⟨t1, rfl⟩ := rx
      simp only [Is] at iy
      subst iy
      subst ry
      cases neg with
      | false => exact RcAt.int_bool _ _ _  X.prog X.w E Q (by simpa [eqD] using qq)
      | true => exact RcNeAt.int_bool _ _ _  X.prog X.w E Q (by simpa [eqD] using qq)
    | int y =>
      intro pins σ H s v u a b I ix iy rx ry E Q qq
      have qq := qq H s I Ext.rfl'
      obtain ⟨_, _, hu⟩ := hb.rm (by omega : j ≤ 30) hr I
      simp only [Is] at ix
      subst ix
      obtain ⟨t1, rfl⟩ := rx
      simp only [Is] at iy
      subst iy
      obtain ⟨t2, rfl⟩ := ry
      cases neg with
      | false => exact RcAt.int_int _ _ _ _  X.prog X.w E Q (by simpa [eqD] using qq)
      | true => exact RcNeAt.int_int _ _ _ _  X.prog X.w E Q (by simpa [eqD] using qq)
    | str y =>
      intro pins σ H s v u a b I ix iy rx ry E Q qq
      have qq := qq H s I Ext.rfl'
      obtain ⟨_, _, hu⟩ := hb.rm (by omega : j ≤ 30) hr I
      simp only [Is] at ix
      subst ix
      obtain ⟨t1, rfl⟩ := rx
      simp only [Is] at iy
      subst iy
      obtain ⟨t2, rfl⟩ := ry
      cases neg with
      | false => exact RcAt.int_str _ _ _ _  X.prog X.w E Q (by simpa [eqD] using qq)
      | true => exact RcNeAt.int_str _ _ _ _  X.prog X.w E Q (by simpa [eqD] using qq)
    | tup m =>
      intro pins σ H s v u a b I ix iy rx ry E Q qq
      have qq := qq H s I Ext.rfl'
      obtain ⟨_, _, hu⟩ := hb.rm (by omega : j ≤ 30) hr I
      simp only [Is] at ix
      subst ix
      obtain ⟨t1, rfl⟩ := rx
      simp only [Is] at iy
      obtain ⟨ad2, xs2, rfl, h2, il2⟩ := iy
      cases ry
      obtain ⟨its2, r2, t2, _⟩ := I.tuple h2
      have t2 : s.heap.IsTuple ad2 its2.toArray := t2
      cases neg with
      | false => exact RcAt.int_tuple _ _ t2 (by omega) X.prog X.w E Q (by simpa [eqD] using qq)
      | true => exact RcNeAt.int_tuple _ _ t2 (by omega) X.prog X.w E Q (by simpa [eqD] using qq)
    | lst m =>
      intro pins σ H s v u a b I ix iy rx ry E Q qq
      have qq := qq H s I Ext.rfl'
      obtain ⟨_, _, hu⟩ := hb.rm (by omega : j ≤ 30) hr I
      simp only [Is] at ix
      subst ix
      obtain ⟨t1, rfl⟩ := rx
      simp only [Is] at iy
      obtain ⟨ad2, xs2, rfl, ⟨o2, h2⟩, il2⟩ := iy
      cases ry
      obtain ⟨its2, r2, t2, _⟩ := I.list (.inl (.inr ⟨o2, h2⟩))
      have t2 : s.heap.IsList ad2 its2.toArray := t2.isList
      cases neg with
      | false => exact RcAt.int_list _ _ t2 (by omega) X.prog X.w E Q (by simpa [eqD] using qq)
      | true => exact RcNeAt.int_list _ _ t2 (by omega) X.prog X.w E Q (by simpa [eqD] using qq)
    | dct ks2 vs2 => exact (rc_dct hr hb (by omega) hx hy (fun _ _ e => by cases e) (fun _ _ e => by cases e)).2
    | _ => simp [eqk] at hy
  | str x =>
    cases dy with
    | ins c m => exact rc_own2 KC F hr he hb (by omega) hx (fun _ _ e => by cases e) (by simpa only [dem] using hd)
    | non =>
      intro pins σ H s v u a b I ix iy rx ry E Q qq
      have qq := qq H s I Ext.rfl'
      obtain ⟨_, _, hu⟩ := hb.rm (by omega : j ≤ 30) hr I
      simp only [Is] at ix
      subst ix
      obtain ⟨t1, rfl⟩ := rx
      simp only [Is] at iy
      subst iy
      subst ry
      cases neg with
      | false => exact RcAt.str_none _ _  X.prog X.w E Q (by simpa [eqD] using qq)
      | true => exact RcNeAt.str_none _ _  X.prog X.w E Q (by simpa [eqD] using qq)
    | bl y =>
      intro pins σ H s v u a b I ix iy rx ry E Q qq
      have qq := qq H s I Ext.rfl'
      obtain ⟨_, _, hu⟩ := hb.rm (by omega : j ≤ 30) hr I
      simp only [Is] at ix
      subst ix
      obtain ⟨t1, rfl⟩ := rx
      simp only [Is] at iy
      subst iy
      subst ry
      cases neg with
      | false => exact RcAt.str_bool _ _ _  X.prog X.w E Q (by simpa [eqD] using qq)
      | true => exact RcNeAt.str_bool _ _ _  X.prog X.w E Q (by simpa [eqD] using qq)
    | int y =>
      intro pins σ H s v u a b I ix iy rx ry E Q qq
      have qq := qq H s I Ext.rfl'
      obtain ⟨_, _, hu⟩ := hb.rm (by omega : j ≤ 30) hr I
      simp only [Is] at ix
      subst ix
      obtain ⟨t1, rfl⟩ := rx
      simp only [Is] at iy
      subst iy
      obtain ⟨t2, rfl⟩ := ry
      cases neg with
      | false => exact RcAt.str_int _ _ _ _  X.prog X.w E Q (by simpa [eqD] using qq)
      | true => exact RcNeAt.str_int _ _ _ _  X.prog X.w E Q (by simpa [eqD] using qq)
    | str y =>
      intro pins σ H s v u a b I ix iy rx ry E Q qq
      have qq := qq H s I Ext.rfl'
      obtain ⟨_, _, hu⟩ := hb.rm (by omega : j ≤ 30) hr I
      simp only [Is] at ix
      subst ix
      obtain ⟨t1, rfl⟩ := rx
      simp only [Is] at iy
      subst iy
      obtain ⟨t2, rfl⟩ := ry
      cases neg with
      | false => exact RcAt.str_str _ _ _ _  X.prog X.w E Q (by simpa [eqD, S_beq] using qq)
      | true => exact RcNeAt.str_str _ _ _ _  X.prog X.w E Q (by simpa [eqD, S_beq] using qq)
    | tup m =>
      intro pins σ H s v u a b I ix iy rx ry E Q qq
      have qq := qq H s I Ext.rfl'
      obtain ⟨_, _, hu⟩ := hb.rm (by omega : j ≤ 30) hr I
      simp only [Is] at ix
      subst ix
      obtain ⟨t1, rfl⟩ := rx
      simp only [Is] at iy
      obtain ⟨ad2, xs2, rfl, h2, il2⟩ := iy
      cases ry
      obtain ⟨its2, r2, t2, _⟩ := I.tuple h2
      have t2 : s.heap.IsTuple ad2 its2.toArray := t2
      cases neg with
      | false => exact RcAt.str_tuple _ _ t2 (by omega) X.prog X.w E Q (by simpa [eqD] using qq)
      | true => exact RcNeAt.str_tuple _ _ t2 (by omega) X.prog X.w E Q (by simpa [eqD] using qq)
    | lst m =>
      intro pins σ H s v u a b I ix iy rx ry E Q qq
      have qq := qq H s I Ext.rfl'
      obtain ⟨_, _, hu⟩ := hb.rm (by omega : j ≤ 30) hr I
      simp only [Is] at ix
      subst ix
      obtain ⟨t1, rfl⟩ := rx
      simp only [Is] at iy
      obtain ⟨ad2, xs2, rfl, ⟨o2, h2⟩, il2⟩ := iy
      cases ry
      obtain ⟨its2, r2, t2, _⟩ := I.list (.inl (.inr ⟨o2, h2⟩))
      have t2 : s.heap.IsList ad2 its2.toArray := t2.isList
      cases neg with
      | false => exact RcAt.str_list _ _ t2 (by omega) X.prog X.w E Q (by simpa [eqD] using qq)
      | true => exact RcNeAt.str_list _ _ t2 (by omega) X.prog X.w E Q (by simpa [eqD] using qq)
    | dct ks2 vs2 => exact (rc_dct hr hb (by omega) hx hy (fun _ _ e => by cases e) (fun _ _ e => by cases e)).2
    | _ => simp [eqk] at hy
  | tup l =>
    cases dy with
    | ins c m => exact rc_own2 KC F hr he hb (by omega) hx (fun _ _ e => by cases e) (by simpa only [dem] using hd)
    | non =>
      intro pins σ H s v u a b I ix iy rx ry E Q qq
      have qq := qq H s I Ext.rfl'
      obtain ⟨_, _, hu⟩ := hb.rm (by omega : j ≤ 30) hr I
      simp only [Is] at ix
      obtain ⟨ad1, xs1, rfl, h1, il1⟩ := ix
      cases rx
      obtain ⟨its1, r1, t1, _⟩ := I.tuple h1
      have t1 : s.heap.IsTuple ad1 its1.toArray := t1
      simp only [Is] at iy
      subst iy
      subst ry
      cases neg with
      | false => exact RcAt.tuple_none  t1 (by omega) X.prog X.w E Q (by simpa [eqD] using qq)
      | true => exact RcNeAt.tuple_none  t1 (by omega) X.prog X.w E Q (by simpa [eqD] using qq)
    | bl y =>
      intro pins σ H s v u a b I ix iy rx ry E Q qq
      have qq := qq H s I Ext.rfl'
      obtain ⟨_, _, hu⟩ := hb.rm (by omega : j ≤ 30) hr I
      simp only [Is] at ix
      obtain ⟨ad1, xs1, rfl, h1, il1⟩ := ix
      cases rx
      obtain ⟨its1, r1, t1, _⟩ := I.tuple h1
      have t1 : s.heap.IsTuple ad1 its1.toArray := t1
      simp only [Is] at iy
      subst iy
      subst ry
      cases neg with
      | false => exact RcAt.tuple_bool _ t1 (by omega) X.prog X.w E Q (by simpa [eqD] using qq)
      | true => exact RcNeAt.tuple_bool _ t1 (by omega) X.prog X.w E Q (by simpa [eqD] using qq)
    | int y =>
      intro pins σ H s v u a b I ix iy rx ry E Q qq
      have qq := qq H s I Ext.rfl'
      obtain ⟨_, _, hu⟩ := hb.rm (by omega : j ≤ 30) hr I
      simp only [Is] at ix
      obtain ⟨ad1, xs1, rfl, h1, il1⟩ := ix
      cases rx
      obtain ⟨its1, r1, t1, _⟩ := I.tuple h1
      have t1 : s.heap.IsTuple ad1 its1.toArray := t1
      simp only [Is] at iy
      subst iy
      obtain ⟨t2, rfl⟩ := ry
      cases neg with
      | false => exact RcAt.tuple_int _ _ t1 (by omega) X.prog X.w E Q (by simpa [eqD] using qq)
      | true => exact RcNeAt.tuple_int _ _ t1 (by omega) X.prog X.w E Q (by simpa [eqD] using qq)
    | str y =>
      intro pins σ H s v u a b I ix iy rx ry E Q qq
      have qq := qq H s I Ext.rfl'
      obtain ⟨_, _, hu⟩ := hb.rm (by omega : j ≤ 30) hr I
      simp only [Is] at ix
      obtain ⟨ad1, xs1, rfl, h1, il1⟩ := ix
      cases rx
      obtain ⟨its1, r1, t1, _⟩ := I.tuple h1
      have t1 : s.heap.IsTuple ad1 its1.toArray := t1
      simp only [Is] at iy
      subst iy
      obtain ⟨t2, rfl⟩ := ry
      cases neg with
      | false => exact RcAt.tuple_str _ _ t1 (by omega) X.prog X.w E Q (by simpa [eqD] using qq)
      | true => exact RcNeAt.tuple_str _ _ t1 (by omega) X.prog X.w E Q (by simpa [eqD] using qq)
    | tup m =>
      cases n with
      | zero => simp [eqk] at hx
      | succ n' =>
        simp only [eqk] at hx hy
        have hd' : demL et C l m := by simpa only [dem] using hd
        exact rc_tt KC hr hb (by omega) (fun i x y e1 e2 => ih n' (by omega) q x y false A.in1 (j + 1) (eqkL_at hx e1) (eqkL_at hy e2) (demL_at hd' e1 e2) hb.in1 (by omega)) (fun _ => hd') hx hy
    | lst m =>
      intro pins σ H s v u a b I ix iy rx ry E Q qq
      have qq := qq H s I Ext.rfl'
      obtain ⟨_, _, hu⟩ := hb.rm (by omega : j ≤ 30) hr I
      simp only [Is] at ix
      obtain ⟨ad1, xs1, rfl, h1, il1⟩ := ix
      cases rx
      obtain ⟨its1, r1, t1, _⟩ := I.tuple h1
      have t1 : s.heap.IsTuple ad1 its1.toArray := t1
      simp only [Is] at iy
      obtain ⟨ad2, xs2, rfl, ⟨o2, h2⟩, il2⟩ := iy
      cases ry
      obtain ⟨its2, r2, t2, _⟩ := I.list (.inl (.inr ⟨o2, h2⟩))
      have t2 : s.heap.IsList ad2 its2.toArray := t2.isList
      cases neg with
      | false => exact RcAt.tuple_list  t1 t2 (by omega) X.prog X.w E Q (by simpa [eqD] using qq)
      | true => exact RcNeAt.tuple_list  t1 t2 (by omega) X.prog X.w E Q (by simpa [eqD] using qq)
    | dct ks2 vs2 => exact (rc_dct hr hb (by omega) hx hy (fun _ _ e => by cases e) (fun _ _ e => by cases e)).2
    | _ => simp [eqk] at hy
  | lst l =>
    cases dy with
    | ins c m => exact rc_own2 KC F hr he hb (by omega) hx (fun _ _ e => by cases e) (by simpa only [dem] using hd)
    | non =>
      intro pins σ H s v u a b I ix iy rx ry E Q qq
      have qq := qq H s I Ext.rfl'
      obtain ⟨_, _, hu⟩ := hb.rm (by omega : j ≤ 30) hr I
      simp only [Is] at ix
      obtain ⟨ad1, xs1, rfl, ⟨o1, h1⟩, il1⟩ := ix
      cases rx
      obtain ⟨its1, r1, t1, _⟩ := I.list (.inl (.inr ⟨o1, h1⟩))
      have t1 : s.heap.IsList ad1 its1.toArray := t1.isList
      simp only [Is] at iy
      subst iy
      subst ry
      cases neg with
      | false => exact RcAt.list_none  t1 (by omega) X.prog X.w E Q (by simpa [eqD] using qq)
      | true => exact RcNeAt.list_none  t1 (by omega) X.prog X.w E Q (by simpa [eqD] using qq)
    | bl y =>
      intro pins σ H s v u a b I ix iy rx ry E Q qq
      have qq := qq H s I Ext.rfl'
      obtain ⟨_, _, hu⟩ := hb.rm (by omega : j ≤ 30) hr I
      simp only [Is] at ix
      obtain ⟨ad1, xs1, rfl, ⟨o1, h1⟩, il1⟩ := ix
      cases rx
      obtain ⟨its1, r1, t1, _⟩ := I.list (.inl (.inr ⟨o1, h1⟩))
      have t1 : s.heap.IsList ad1 its1.toArray := t1.isList
      simp only [Is] at iy
      subst iy
      subst ry
      cases neg with
      | false => exact RcAt.list_bool _ t1 (by omega) X.prog X.w E Q (by simpa [eqD] using qq)
      | true => exact RcNeAt.list_bool _ t1 (by omega) X.prog X.w E Q (by simpa [eqD] using qq)
    | int y =>
      intro pins σ H s v u a b I ix iy rx ry E Q qq
      have qq := qq H s I Ext.rfl'
      obtain ⟨_, _, hu⟩ := hb.rm (by omega : j ≤ 30) hr I
      simp only [Is] at ix
      obtain ⟨ad1, xs1, rfl, ⟨o1, h1⟩, il1⟩ := ix
      cases rx
      obtain ⟨its1, r1, t1, _⟩ := I.list (.inl (.inr ⟨o1, h1⟩))
      have t1 : s.heap.IsList ad1 its1.toArray := t1.isList
      simp only [Is] at iy
      subst iy
      obtain ⟨t2, rfl⟩ := ry
      cases neg with
      | false => exact RcAt.list_int _ _ t1 (by omega) X.prog X.w E Q (by simpa [eqD] using qq)
      | true => exact RcNeAt.list_int _ _ t1 (by omega) X.prog X.w E Q (by simpa [eqD] using qq)
    | str y =>
      intro pins σ H s v u a b I ix iy rx ry E Q qq
      have qq := qq H s I Ext.rfl'
      obtain ⟨_, _, hu⟩ := hb.rm (by omega : j ≤ 30) hr I
      simp only [Is] at ix
      obtain ⟨ad1, xs1, rfl, ⟨o1, h1⟩, il1⟩ := ix
      cases rx
      obtain ⟨its1, r1, t1, _⟩ := I.list (.inl (.inr ⟨o1, h1⟩))
      have t1 : s.heap.IsList ad1 its1.toArray := t1.isList
      simp only [Is] at iy
      subst iy
      obtain ⟨t2, rfl⟩ := ry
      cases neg with
      | false => exact RcAt.list_str _ _ t1 (by omega) X.prog X.w E Q (by simpa [eqD] using qq)
      | true => exact RcNeAt.list_str _ _ t1 (by omega) X.prog X.w E Q (by simpa [eqD] using qq)
    | tup m =>
      intro pins σ H s v u a b I ix iy rx ry E Q qq
      have qq := qq H s I Ext.rfl'
      obtain ⟨_, _, hu⟩ := hb.rm (by omega : j ≤ 30) hr I
      simp only [Is] at ix
      obtain ⟨ad1, xs1, rfl, ⟨o1, h1⟩, il1⟩ := ix
      cases rx
      obtain ⟨its1, r1, t1, _⟩ := I.list (.inl (.inr ⟨o1, h1⟩))
      have t1 : s.heap.IsList ad1 its1.toArray := t1.isList
      simp only [Is] at iy
      obtain ⟨ad2, xs2, rfl, h2, il2⟩ := iy
      cases ry
      obtain ⟨its2, r2, t2, _⟩ := I.tuple h2
      have t2 : s.heap.IsTuple ad2 its2.toArray := t2
      cases neg with
      | false => exact RcAt.list_tuple  t1 t2 (by omega) X.prog X.w E Q (by simpa [eqD] using qq)
      | true => exact RcNeAt.list_tuple  t1 t2 (by omega) X.prog X.w E Q (by simpa [eqD] using qq)
    | lst m =>
      cases n with
      | zero => simp [eqk] at hx
      | succ n' =>
        simp only [eqk] at hx hy
        have hd' : demL et C l m := by simpa only [dem] using hd
        intro pins σ H s v u a b I ix iy rx ry E Q qq
        simp only [Is] at ix iy
        obtain ⟨ad, xs, rfl, ⟨o1, h1⟩, il⟩ := ix
        obtain ⟨ad2, ys, rfl, ⟨o2, h2⟩, im⟩ := iy
        cases rx
        cases ry
        exact rc_ll KC hr hb (by omega) (fun i x y e1 e2 => ih n' (by omega) q x y false A.in1 (j + 1) (eqkL_at hx e1) (eqkL_at hy e2) (demL_at hd' e1 e2) hb.in1 (by omega)) (fun _ => hd') hx hy I (.inr ⟨o1, h1⟩) (.inr ⟨o2, h2⟩) il im E Q (by simpa only [eqD] using qq)
    | dct ks2 vs2 => exact (rc_dct hr hb (by omega) hx hy (fun _ _ e => by cases e) (fun _ _ e => by cases e)).2
    | _ => simp [eqk] at hy
  | dct ks vs =>
    cases dy with
    | ins c m => exact rc_own2 KC F hr he hb (by omega) hx (fun _ _ e => by cases e) (by simpa only [dem] using hd)
    | non => exact (rc_dct hr hb (by omega) hy hx (fun _ _ e => by cases e) (fun _ _ e => by cases e)).1
    | bl y => exact (rc_dct hr hb (by omega) hy hx (fun _ _ e => by cases e) (fun _ _ e => by cases e)).1
    | int y => exact (rc_dct hr hb (by omega) hy hx (fun _ _ e => by cases e) (fun _ _ e => by cases e)).1
    | str y => exact (rc_dct hr hb (by omega) hy hx (fun _ _ e => by cases e) (fun _ _ e => by cases e)).1
    | tup m => exact (rc_dct hr hb (by omega) hy hx (fun _ _ e => by cases e) (fun _ _ e => by cases e)).1
    | lst m => exact (rc_dct hr hb (by omega) hy hx (fun _ _ e => by cases e) (fun _ _ e => by cases e)).1
    | dct ks2 vs2 => exact absurd hd (by simp only [dem]; exact id)
    | _ => simp [eqk] at hy
  | _ => simp [eqk] at hx
end
end Cn

namespace Cn
open PySem PySem.Spec PyProof.Rows L2 PySem.W PySem.SeqAt
def scal : D → Bool
  | .non => true
  | .bl _ => true
  | .int _ => true
  | .str _ => true
  | _ => false
/-- == of trees with instances anywhere; of lists, written or not -/
def eqDp (et : EqT) (neg : Bool) (C : Cal) (x y : D) (g : G) (Q : QT) : Prop :=
  ((eqk true 24 x && eqk true 24 y) = true ∧ dem et C x y ∧ Q (.bl (if neg then !eqD x y else eqD x y)) g) ∨
  ∃ l m, lstOf g x = some l ∧ lstOf g y = some m ∧ (eqkL true 24 l && eqkL true 24 m) = true ∧ demL et C l m ∧ Q (.bl (if neg then !eqL l m else eqL l m)) g
def eqQ (et : EqT) (neg : Bool) (C : Cal) (x y : D) (g : G) (Q : QT) : Prop := match scal x && scal y with
  | true => oEq neg x y g Q
  | false => eqK et neg C x y g Q ∨ eqDp et neg C x y g Q
def dEqO (et : EqT) (neg : Bool) (ta tb : DTE) : DTE := fun C ρ g Q E => ta C ρ g (fun x g1 => tb C ρ g1 (fun y g2 => eqQ et neg C x y g2 Q) E) E
section
variable {X : Cx} {T : Tab} {C : Cal} {et : EqT} {gm : Option Nat} {k : Nat}
theorem deep_run {neg : Bool} {op : CmpOp} (hop : op = if neg then CmpOp.NotEq else CmpOp.Eq) (KC : ClsOk T X.K) (F : ∀ f, CalOk gm T X.prog X.w X.K X.mg X.base k (T.fA f) (C f)) (hr : RmX gm T (k + 2) X) (he : ∀ c f, T.ok c = true → et c = some f → EqM X.K (T.cA c) (T.fA f))
    {pins : List (Addr × Obj)} {σ : L2.St} {H : Hp} {s : Shared} {Q : VK} {dx dy : D} {x y : V} {v u : Value} {g : G} {QD : QT} (I : Inv X pins σ H s) (rx : RelV x v) (ry : RelV y u) (ix : Is T X.K H dx x) (iy : Is T X.K H dy y) (rg : RG T X.K g H)
    (h : eqDp et neg C dx dy g QD) (cc : Ct T X.K g H QD Q) : wpAny (model X.prog X.w) X.A (richCompare op v u) (EP X pins σ Q) X.xe s := by
  subst hop
  have kg : ∀ {H' : Hp}, Ext H H' → Kg g H g H' := fun ext => ⟨Cn.Ext.kp ext, fun b o e n => ⟨ext b o e, n⟩⟩
  have rgE : ∀ {H' : Hp}, Ext H H' → RG T X.K g H' := fun {H'} ext b o e => by
    obtain ⟨z, hz'⟩ := (rg b o e).some
    exact (rg b o e).move (Cn.Ext.kp ext) ((ext b _ hz').trans hz'.symm)
  have fin : ∀ {b : Bool}, QD (.bl b) g → ∀ H' s', Inv X pins σ H' s' → Ext H H' → EP X pins σ Q (.bool b) s' := fun {b} q H' s' I' e => ⟨.bl b, H', I', rfl, (cc.mono (kg e)).is (d := .bl b) (by simp only [Is]) (rgE e) q⟩
  rcases h with ⟨h1, h2, h3⟩ | ⟨l, m, h1, h2, h3, h4, h5⟩
  · obtain ⟨k1, k2⟩ := Bool.and_eq_true_iff.mp h1
    exact rc_deep KC F hr he 24 true dx dy neg X.A 0 k1 k2 h2 Bl.refl (by omega) I ix iy rx ry _ _ (fin h3)
  · obtain ⟨k1, k2⟩ := Bool.and_eq_true_iff.mp h3
    obtain ⟨a, xs, rfl, s1, j1⟩ := lstOf_rd rg ix h1
    obtain ⟨b, ys, rfl, s2, j2⟩ := lstOf_rd rg iy h2
    cases rx
    cases ry
    exact rc_ll KC hr Bl.refl (by omega) (fun i x y e1 e2 => rc_deep KC F hr he 24 true x y false _ 1 (eqkL_at k1 e1) (eqkL_at k2 e2) (demL_at h4 e1 e2) Bl.refl.in1 (by omega)) (fun _ => h4) k1 k2 I s1 s2 j1 j2 _ _ (fin h5)
theorem xEqQ (KC : ClsOk T X.K) (F : ∀ f, CalOk gm T X.prog X.w X.K X.mg X.base k (T.fA f) (C f)) (hr : RmX gm T (k + 2) X) (he : ∀ c f, T.ok c = true → et c = some f → EqM X.K (T.cA c) (T.fA f)) : OpR X (compareOp .Eq) (LO2 T X.K (eqQ et false C)) := by
  intro pins s σ H x y v u Q I rx ry ⟨dx, dy, g, QD, ix, iy, rg, h, c⟩
  unfold eqQ at h
  split at h
  · exact xEq hr.rm.room.units pins s σ H x y v u Q I rx ry ⟨dx, dy, g, QD, ix, iy, rg, h, c⟩
  · rcases h with h | h
    · exact xEqO F hr he pins s σ H x y v u Q I rx ry ⟨dx, dy, g, QD, ix, iy, rg, h, c⟩
    · exact deep_run (neg := false) rfl KC F hr he I rx ry ix iy rg h c
theorem xNeQ (KC : ClsOk T X.K) (F : ∀ f, CalOk gm T X.prog X.w X.K X.mg X.base k (T.fA f) (C f)) (hr : RmX gm T (k + 2) X) (he : ∀ c f, T.ok c = true → et c = some f → EqM X.K (T.cA c) (T.fA f)) : OpR X (compareOp .NotEq) (LO2 T X.K (eqQ et true C)) := by
  intro pins s σ H x y v u Q I rx ry ⟨dx, dy, g, QD, ix, iy, rg, h, c⟩
  unfold eqQ at h
  split at h
  · exact xNe hr.rm.room.units pins s σ H x y v u Q I rx ry ⟨dx, dy, g, QD, ix, iy, rg, h, c⟩
  · rcases h with h | h
    · exact xNeO F hr he pins s σ H x y v u Q I rx ry ⟨dx, dy, g, QD, ix, iy, rg, h, c⟩
    · exact deep_run (neg := true) rfl KC F hr he I rx ry ix iy rg h c
end
end Cn

namespace Cn
open PySem PySem.SeqAt
open AutoSeq1 (wpAny_loadPart')
open MeetsSeq MeetsSeq2 MeetsSeq3 SeqRoads2
open GQ (FinOf)
/-! ### in -/
section
variable {prog : Program} {w : World} {A : Around} {R : Result → Shared → Prop}
theorem tup_inJ (l : Addr) (x : Value) (items : Array Value) (n : Nat) (dd : Option Addr) (sl : Array (Option Value)) (e : Nat → Bool) (I : Nat → Shared → Prop)
    (turn : ∀ i (h1 : i < items.size) s, I i s → wpAny (model prog w) A.in1 (eqBool items[i] x) (fun r s' => r = e i ∧ I (i + 1) s') (fun e s' => R (.error e) s') s)
    (f1 : ∀ i s, i < items.size → e i = true → I (i + 1) s → R (.ok (.ret (.bool true))) s)
    (f0 : ∀ s, (∀ i, i < items.size → e i = false) → I items.size s → R (.ok (.ret (.bool false))) s) {s : Shared} (hl1 : s.heap.get? l = some { cls := .type "tuple", dict := dd, data := .seq items n, slots := sl }) (h : I 0 s) :
    wpAny (model prog w) A.in1 (Builtin.«tuple.__contains__» ⟨[.ref l, x], []⟩) (FinOf prog w A R) (fun e s' => R (.error e) s') s := by
  have h0 := h
  obtain ⟨hp, g, d, tk, os⟩ := s
  wp_walk using wpAny_loadPart' hl1, wpAny_forIn_array _ (fun rest b s' => b.1 = none ∧ ∃ i, rest = items.toList.drop i ∧ i ≤ items.size ∧ (∀ k, k < i → e k = false) ∧ I i s') _
  case turn =>
    rintro y rest b s' ⟨hb', i, hz, hi, ha, hI⟩
    have hlt : i < items.size := by
      rcases Nat.lt_or_ge i items.toList.length with h' | h'
      · simpa using h'
      · rw [List.drop_of_length_le h'] at hz; cases hz
    rw [List.drop_eq_getElem_cons (by simpa using hlt)] at hz
    injection hz with hyx hrest
    have hy : y = items[i] := by simpa using hyx
    subst hy
    refine wpAny_bind (wpAny_mono (turn i hlt s' hI) (fun r s2 q2 => ?_) fun _ _ x => x)
    obtain ⟨hr, q2⟩ := q2
    subst hr
    cases he : e i with
    | false =>
      wp_walk
      refine ⟨rfl, i + 1, hrest, hlt, fun k hk => ?_, q2⟩
      rcases Nat.lt_succ_iff_lt_or_eq.mp hk with hk | hk
      · exact ha k hk
      · rw [hk]; exact he
    | true =>
      have hR := f1 i s2 hlt he q2
      wp_walk
      first | exact hR | simpa using hR
  case fin =>
    rintro ⟨b1, b2⟩ s' ⟨hb', i, hz, hi, ha, hI⟩
    simp only at hb'
    subst hb'
    have hge : items.size ≤ i := by
      rcases Nat.lt_or_ge i items.toList.length with h' | h'
      · rw [List.drop_eq_getElem_cons h'] at hz; cases hz
      · simpa using h'
    have hi' : i = items.size := by omega
    subst hi'
    have hR := f0 s' ha hI
    wp_walk
    first | exact hR | simpa using hR
  case h =>
    exact ⟨rfl, 0, rfl, Nat.zero_le _, fun k hk => absurd hk (Nat.not_lt_zero _), h0⟩
theorem lst_inJ (l : Addr) (x : Value) (N : Nat) (e : Nat → Bool) (I : Nat → Shared → Prop)
    (hl : ∀ i s, I i s → ∃ (items : Array Value) (n : Nat), s.heap.get? l = some { cls := .type "list", data := .seq items n } ∧ items.size = N ∧
      ∀ (h1 : i < items.size), wpAny (model prog w) A.in1 (eqBool items[i] x) (fun r s' => r = e i ∧ I (i + 1) s') (fun e s' => R (.error e) s') s)
    (f1 : ∀ i s, i < N → e i = true → I (i + 1) s → R (.ok (.ret (.bool true))) s) (f0 : ∀ s, (∀ i, i < N → e i = false) → I N s → R (.ok (.ret (.bool false))) s) (k : Nat) :
    ∀ i : Nat, N - i = k → i ≤ N → (∀ k, k < i → e k = false) → ∀ s, I i s →
      wpAny (model prog w) A.in1 (Builtin.«list.__contains__.loop» ⟨[.ref l, x, rawInt i], []⟩) (FinOf prog w A R) (fun e s' => R (.error e) s') s := by
  induction k with
  | zero =>
    intro i hk hi ha s h
    obtain ⟨items, n, hl1, hs1, _⟩ := hl _ _ h
    have hi' : i = N := by omega
    have hR := f0 s (hi' ▸ ha) (hi' ▸ h)
    obtain ⟨hp, g, d, tk, os⟩ := s
    wp_walk using wpAny_loadPart' hl1
    have hi1 : items[((i : Nat) : Int).toNat]? = none := by simp; omega
    rw [hi1]
    wp_walk
    first | exact hR | simpa using hR
  | succ k ih =>
    intro i hk hi ha s h
    obtain ⟨items, n, hl1, hs1, turn⟩ := hl _ _ h
    have hlt : i < items.size := by omega
    have ht := turn hlt
    obtain ⟨hp, g, d, tk, os⟩ := s
    wp_walk using wpAny_loadPart' hl1
    have hi1 : items[((i : Nat) : Int).toNat]? = some items[i] := by simp [hlt]
    have hc : ((i : Int) + 1) = ((i + 1 : Nat) : Int) := by omega
    rw [hi1]
    refine wpAny_bind (wpAny_mono ht (fun r s2 h2 => ?_) fun _ _ x => x)
    obtain ⟨hr, h2⟩ := h2
    subst hr
    cases he : e i with
    | false =>
      have hrec := ih (i + 1) (by omega) (by omega) (fun k hk => (Nat.lt_succ_iff_lt_or_eq.mp hk).elim (ha k) fun z => by rw [z]; exact he) s2 h2
      obtain ⟨hp2, g2, d2, tk2, os2⟩ := s2
      wp_walk
      rw [hc]
      exact ⟨plainId_quiet plain_contains_loop _, codeAny_builtin entry_contains_loop (by
        rw [Around.under_plainId plain_contains_loop _]
        exact hrec)⟩
    | true =>
      have hR := f1 i s2 (by omega) he h2
      obtain ⟨hp2, g2, d2, tk2, os2⟩ := s2
      wp_walk
      first | exact hR | simpa using hR
theorem list_inJ (l : Addr) (x : Value) (N : Nat) (e : Nat → Bool) (I : Nat → Shared → Prop)
    (hl : ∀ i s, I i s → ∃ (items : Array Value) (n : Nat), s.heap.get? l = some { cls := .type "list", data := .seq items n } ∧ items.size = N ∧
      ∀ (h1 : i < items.size), wpAny (model prog w) A.in1 (eqBool items[i] x) (fun r s' => r = e i ∧ I (i + 1) s') (fun e s' => R (.error e) s') s)
    (f1 : ∀ i s, i < N → e i = true → I (i + 1) s → R (.ok (.ret (.bool true))) s) (f0 : ∀ s, (∀ i, i < N → e i = false) → I N s → R (.ok (.ret (.bool false))) s) {s : Shared} (h : I 0 s) :
    wpAny (model prog w) A.in1 (Builtin.«list.__contains__» ⟨[.ref l, x], []⟩) (FinOf prog w A R) (fun e s' => R (.error e) s') s := by
  obtain ⟨items, n, hl1, hs1, _⟩ := hl _ _ h
  have hrec := lst_inJ (A := A) (R := R) l x N e I hl f1 f0 _ 0 rfl (Nat.zero_le _) (fun k hk => absurd hk (Nat.not_lt_zero _)) s h
  obtain ⟨hp, g, d, tk, os⟩ := s
  wp_walk using wpAny_loadPart' hl1
  exact ⟨plainId_quiet plain_contains_loop _, codeAny_builtin entry_contains_loop (by
    rw [Around.under_plainId plain_contains_loop _]
    exact hrec)⟩
end
end Cn
namespace Cn
open PySem PySem.Spec PyProof.Rows L2 PySem.W PySem.SeqAt
open MeetsSeq MeetsSeq2 MeetsSeq3 SeqRoads2
/-- x in y, x not in y, deep -/
def inDp (et : EqT) (neg : Bool) (C : Cal) (x y : D) (g : G) (Q : QT) : Prop := ∃ l, seqOf g y = some l ∧ (eqk true 24 x && eqkL true 24 l) = true ∧ (∀ d ∈ l, dem et C d x) ∧ Q (.bl (if neg then !(l.any fun d => eqD d x) else l.any fun d => eqD d x)) g
def inQ (et : EqT) (neg : Bool) (C : Cal) (x y : D) (g : G) (Q : QT) : Prop := match y with
  | .str s => oIn neg x (.str s) g Q
  | y => oIn neg x y g Q ∨ inDp et neg C x y g Q
def dInO (et : EqT) (neg : Bool) (ta tb : DTE) : DTE := fun C ρ g Q E => ta C ρ g (fun x g1 => tb C ρ g1 (fun y g2 => inQ et neg C x y g2 Q) E) E
section
variable {X : Cx} {T : Tab} {C : Cal} {et : EqT} {gm : Option Nat} {k j : Nat}
theorem any_at {l : List D} {x : D} {i : Nat} {d : D} (h : l[i]? = some d) (e : eqD d x = true) : (l.any fun d => eqD d x) = true := List.any_eq_true.mpr ⟨d, List.mem_of_getElem? h, e⟩
theorem any_no {l : List D} {x : D} (h : ∀ (i : Nat) d, l[i]? = some d → eqD d x = false) : (l.any fun d => eqD d x) = false := by
  rw [List.any_eq_false]
  intro d hd
  obtain ⟨i, e⟩ := List.getElem?_of_mem hd
  rw [h i d e]
  simp
def eIn (l : List D) (x : D) (i : Nat) : Bool := match l[i]? with
  | some d => eqD d x
  | none => false
theorem in_run {neg : Bool} {op : CmpOp} (hop : op = if neg then CmpOp.NotIn else CmpOp.In) (KC : ClsOk T X.K) (F : ∀ f, CalOk gm T X.prog X.w X.K X.mg X.base k (T.fA f) (C f)) (hr : RmX gm T (k + 2) X) (he : ∀ c f, T.ok c = true → et c = some f → EqM X.K (T.cA c) (T.fA f))
    {pins : List (Addr × Obj)} {σ : L2.St} {H : Hp} {s : Shared} {Q : VK} {dx dy : D} {x y : V} {v u : Value} {g : G} {QD : QT} (I : Inv X pins σ H s) (rx : RelV x v) (ry : RelV y u) (ix : Is T X.K H dx x) (iy : Is T X.K H dy y) (rg : RG T X.K g H)
    (h : inDp et neg C dx dy g QD) (cc : Ct T X.K g H QD Q) : wpAny (model X.prog X.w) X.A (compareOp op v u) (EP X pins σ Q) X.xe s := by
  obtain ⟨l, h1, h2, h3, h4⟩ := h
  obtain ⟨k1, k2⟩ := Bool.and_eq_true_iff.mp h2
  have hsq : ∃ a xs, y = .ref a ∧ (Rd H a (.lst xs) ∨ SqT X.K H a xs) ∧ IsL T X.K H l xs := by
    unfold seqOf at h1
    split at h1
    · cases h1
      simp only [Is] at iy
      obtain ⟨a, xs, e, s, j⟩ := iy
      exact ⟨a, xs, e, .inr s, j⟩
    · obtain ⟨a, xs, e, s, j⟩ := lstOf_rd rg iy h1
      exact ⟨a, xs, e, .inl s, j⟩
  obtain ⟨a, xs, rfl, hs, il⟩ := hsq
  cases ry
  have kg : ∀ {H' : Hp}, Ext H H' → Kg g H g H' := fun ext => ⟨Cn.Ext.kp ext, fun b o e n => ⟨ext b o e, n⟩⟩
  have rgE : ∀ {H' : Hp}, Ext H H' → RG T X.K g H' := fun {H'} ext b o e => by
    obtain ⟨z, hz'⟩ := (rg b o e).some
    exact (rg b o e).move (Cn.Ext.kp ext) ((ext b _ hz').trans hz'.symm)
  have fin : ∀ {b : Bool}, QD (.bl b) g → ∀ s', (∃ H', Inv X pins σ H' s' ∧ Ext H H') → EP X pins σ Q (.bool b) s' := fun {b} q s' ⟨H', I', e⟩ => ⟨.bl b, H', I', rfl, (cc.mono (kg e)).is (d := .bl b) (by simp only [Is]) (rgE e) q⟩
  obtain ⟨_, _, hu⟩ := (Bl.refl (X := X)).rm (by omega : 0 ≤ 30) hr I
  -- one item's turn
  have turn : ∀ (i : Nat) (d : D) (z : V) (b : Value) (s' : Shared), l[i]? = some d → xs[i]? = some z → RelV z b → (∃ H', Inv X pins σ H' s' ∧ Ext H H') → ∀ E : Value → Shared → Prop, wpAny (model X.prog X.w) X.A.in1 (eqBool b v) (fun r s2 => r = eIn l dx i ∧ ∃ H', Inv X pins σ H' s2 ∧ Ext H H') E s' := by
    intro i d z b s' e1 e2 rz ⟨H1, I1, x1⟩ E
    obtain ⟨z', e3, iz⟩ := il.get e1
    rw [e2] at e3
    cases e3
    have ei : eIn l dx i = eqD d dx := by unfold eIn; rw [e1]
    rw [ei]
    refine wpAny_mono (eqb_of (et := et) (C := C) (q := true) (n := 24) KC (rc_deep KC F hr he 24 true d dx false _ 1 (eqkL_at k2 e1) k1 (h3 d (List.mem_of_getElem? e1)) Bl.refl.in1 (by omega)) (fun _ => h3 d (List.mem_of_getElem? e1)) (eqkL_at k2 e1) k1 I1 (iz.mono (Cn.Ext.kp x1)) (ix.mono (Cn.Ext.kp x1)) rz rx) (fun r s2 z => ?_) fun _ _ x => x
    obtain ⟨z1, H2, I2, e2⟩ := z
    exact ⟨z1, H2, I2, x1.trans e2⟩
  have lenl := il.length
  have res1 : ∀ i, i < l.length → eIn l dx i = true → (l.any fun d => eqD d dx) = true := fun i hi e => by
    unfold eIn at e
    rw [List.getElem?_eq_getElem hi] at e
    exact any_at (List.getElem?_eq_getElem hi) e
  have res0 : (∀ i, i < l.length → eIn l dx i = false) → (l.any fun d => eqD d dx) = false := fun h => any_no fun i d e => by
    have hi : i < l.length := (List.getElem?_eq_some_iff.mp e).1
    have := h i hi
    unfold eIn at this
    rw [e] at this
    exact this
  have main : ∀ (E : Value → Shared → Prop) (P : Bool → Shared → Prop), (∀ s', (∃ H', Inv X pins σ H' s' ∧ Ext H H') → P (l.any fun d => eqD d dx) s') → wpAny (model X.prog X.w) X.A (contains (.ref a) v) P E s := by
    intro E P q
    rcases hs with hs | hs
    · have rdE : ∀ {H' : Hp} {a : Addr} {o : HO}, Ext H H' → Rd H a o → Rd H' a o := fun e h => h.elim (fun h => .inl (e _ _ h)) fun ⟨o, h⟩ => .inr ⟨o, e _ _ h⟩
      obtain ⟨z, its, n, r, ho⟩ := (show ObjOk X.prog X.w H s.heap a (.lst xs) from hs.ok I.hok)
      refine wpAny_contains_slot ⟨_, ho, rfl⟩ PySem.F.slot_list_contains (wpAny_mono (GQ.call_here PySem.F.slot_list_contains ⟨_, ho, rfl⟩ PySem.F.entry_list_contains (PySem.F.args_list_contains_2 _ _) (Q := fun b s' => ∃ r, b = .bool r ∧ P r s') ?_) (fun b s' z => ?_) fun _ _ x => x)
      · refine list_inJ (R := wants (fun b s' => ∃ r, b = .bool r ∧ P r s') E) a v l.length (eIn l dx) (fun _ s' => ∃ H', Inv X pins σ H' s' ∧ Ext H H') (fun i s' hs' => ?_) (fun i s' hi e hs' => ⟨true, rfl, ?_⟩) (fun s' h0 hs' => ⟨false, rfl, ?_⟩) ⟨H, I, Ext.rfl'⟩
        · obtain ⟨H', I', e'⟩ := id hs'
          obtain ⟨z, its, n, r, ho⟩ := (show ObjOk X.prog X.w H' s'.heap a (.lst xs) from (rdE e' hs).ok I'.hok)
          refine ⟨its.toArray, n, ho, by rw [List.size_toArray, ← r.length, lenl], fun h1 => ?_⟩
          have g1 : i < its.length := by simpa using h1
          have g2 : i < l.length := by rw [lenl, r.length]; exact g1
          obtain ⟨z, e1, _⟩ := il.get (List.getElem?_eq_getElem g2)
          obtain ⟨b, e2, rb⟩ := r.get e1
          have f1 : its.toArray[i] = b := by
            have : its[i]? = some its[i] := List.getElem?_eq_getElem g1
            rw [this] at e2
            simpa using Option.some.inj e2
          rw [f1]
          exact turn i _ z b s' (List.getElem?_eq_getElem g2) e1 rb hs' _
        · have := q s' hs'
          rw [res1 i hi e] at this
          exact this
        · have := q s' hs'
          rw [res0 h0] at this
          exact this
      · obtain ⟨r, rfl, z⟩ := z
        exact wpAny_truthy_bool z
    · obtain ⟨its, r, ⟨⟨cls, dd, data, sl⟩, ho, hc, n, hd⟩, _⟩ := I.tuple hs
      simp only at hc hd
      subst hc hd
      have hz : its.toArray.size = l.length := by rw [List.size_toArray, ← r.length, lenl]
      refine wpAny_contains_slot ⟨_, ho, rfl⟩ PySem.F.slot_tuple_contains (wpAny_mono (GQ.call_here PySem.F.slot_tuple_contains ⟨_, ho, rfl⟩ PySem.F.entry_tuple_contains (PySem.F.args_tuple_contains_2 _ _) (Q := fun b s' => ∃ r, b = .bool r ∧ P r s') ?_) (fun b s' z => ?_) fun _ _ x => x)
      · refine tup_inJ (R := wants (fun b s' => ∃ r, b = .bool r ∧ P r s') E) a v its.toArray n dd sl (eIn l dx) (fun _ s' => ∃ H', Inv X pins σ H' s' ∧ Ext H H') (fun i h1 s' hs' => ?_) (fun i s' hi e hs' => ⟨true, rfl, ?_⟩) (fun s' h0 hs' => ⟨false, rfl, ?_⟩) ho ⟨H, I, Ext.rfl'⟩
        · have g1 : i < its.length := by simpa using h1
          have g2 : i < l.length := by rw [lenl, r.length]; exact g1
          obtain ⟨z, e1, _⟩ := il.get (List.getElem?_eq_getElem g2)
          obtain ⟨b, e2, rb⟩ := r.get e1
          have f1 : its.toArray[i] = b := by
            have : its[i]? = some its[i] := List.getElem?_eq_getElem g1
            rw [this] at e2
            simpa using Option.some.inj e2
          rw [f1]
          exact turn i _ z b s' (List.getElem?_eq_getElem g2) e1 rb hs' _
        · have := q s' hs'
          rw [res1 i (by omega) e] at this
          exact this
        · have := q s' hs'
          rw [res0 (fun i hi => h0 i (by omega))] at this
          exact this
      · obtain ⟨r, rfl, z⟩ := z
        exact wpAny_truthy_bool z
  subst hop
  cases neg with
  | false =>
    show wpAny _ X.A (contains (.ref a) v >>= fun b => pure (Value.bool b)) _ _ s
    exact wpAny_bind (main _ _ fun s' hs' => wpAny_pure (fin (by simpa using h4) s' hs'))
  | true =>
    show wpAny _ X.A (contains (.ref a) v >>= fun b => pure (Value.bool (!b))) _ _ s
    exact wpAny_bind (main _ _ fun s' hs' => wpAny_pure (fin (by simpa using h4) s' hs'))
theorem xInQ {neg : Bool} (hin : OpR X (compareOp (if neg then CmpOp.NotIn else CmpOp.In)) (LO2 T X.K (oIn neg))) (KC : ClsOk T X.K) (F : ∀ f, CalOk gm T X.prog X.w X.K X.mg X.base k (T.fA f) (C f)) (hr : RmX gm T (k + 2) X) (he : ∀ c f, T.ok c = true → et c = some f → EqM X.K (T.cA c) (T.fA f)) : OpR X (compareOp (if neg then CmpOp.NotIn else CmpOp.In)) (LO2 T X.K (inQ et neg C)) := by
  intro pins s σ H x y v u Q I rx ry ⟨dx, dy, g, QD, ix, iy, rg, h, c⟩
  unfold inQ at h
  split at h
  · exact hin pins s σ H x y v u Q I rx ry ⟨dx, _, g, QD, ix, iy, rg, h, c⟩
  · rcases h with h | h
    · exact hin pins s σ H x y v u Q I rx ry ⟨dx, _, g, QD, ix, iy, rg, h, c⟩
    · exact in_run rfl KC F hr he I rx ry ix iy rg h c
end
end Cn

namespace Cn
open PySem PySem.Spec PyProof.Rows L2

/-- what the expressions of the text read as -/
structure Pk where
  e : Sc → Expr → DTE
  t : Sc → Expr → DTT
structure PkOk (Γ : Sig) (N : List Str) (p : Pk) : Prop where
  e : ∀ {T C k X sc W}, GoodE T Γ C N k X sc W → ∀ e, PE X e (LE T X.K C W (p.e sc e))
  t : ∀ {T C k X sc W}, GoodE T Γ C N k X sc W → ∀ e, PT X e (LT T X.K C W (p.t sc e))

/-! ### operators -/
def opD (m : Bool) : Operator → Option DO2
  | .Add => some (oAdd m) | .Sub => some oSub | .Mult => some oMul | .FloorDiv => some oDiv | .Mod => some oMod | .Pow => some oPow | _ => none
def cmpD : CmpOp → Option DO2
  | .Eq => some (oEq false) | .NotEq => some (oEq true) | .Lt => some oLt | .LtE => some oLe | .Gt => some oGt | .GtE => some oGe | .In => some (oIn false) | .NotIn => some (oIn true) | .Is => some (oIs false) | .IsNot => some (oIs true)
def cBin (m : Bool) (op : Operator) (ta tb : DTE) : DTE := match opD m op with
  | some o => dBin o ta tb
  | none => dStop
/-- == and != where classes of the text have their own -/
def ownE (Γ : Sig) (op : CmpOp) : Option (Bool × Bool) := match Γ.eqs with
  | [] => none
  | _ :: _ => match op with
    | .Eq => some (false, false)
    | .NotEq => some (false, true)
    | .In => some (true, false)
    | .NotIn => some (true, true)
    | _ => none
def cCmp (Γ : Sig) (a : Expr) (f : Expr → DTE) (ops : List CmpOp) (cs : List Expr) : DTE := match ops, cs with
  | [op], [b] => match behindInMarks op b, ownE Γ op, cmpD op with
    | false, some (false, n), _ => dEqO Γ.et n (f a) (f b)
    | false, some (true, n), _ => dInO Γ.et n (f a) (f b)
    | false, none, some o => dBin o (f a) (f b)
    | _, _, _ => dStop
  | [op, op'], [b, c] => match lastMarks [op, op'] [b, c], cmpD op, cmpD op' with
    | false, some o, some o' => dChain o o' (f a) (f b) (f c)
    | _, _, _ => dStop
  | _, _ => dStop
def cCmpT (Γ : Sig) (a : Expr) (f : Expr → DTE) (ops : List CmpOp) (cs : List Expr) : DTT := match ops, cs with
  | [op], [b] => match behindInMarks op b, ownE Γ op, cmpD op with
    | false, some (false, n), _ => dTst (dEqO Γ.et n (f a) (f b))
    | false, some (true, n), _ => dTst (dInO Γ.et n (f a) (f b))
    | false, none, some o => dTst (dBin o (f a) (f b))
    | _, _, _ => dStopT
  | [op, op'], [b, c] => match lastMarks [op, op'] [b, c], cmpD op, cmpD op' with
    | false, some o, some o' => dTst (dChain o o' (f a) (f b) (f c))
    | _, _, _ => dStopT
  | _, _ => dStopT
def cAndV : List DTE → DTE
  | [] => dStop
  | t :: ts => match ts with
    | [] => t
    | _ :: _ => dAndV t (cAndV ts)
def cOrV : List DTE → DTE
  | [] => dStop
  | t :: ts => match ts with
    | [] => t
    | _ :: _ => dOrV t (cOrV ts)
def cAndT : List DTT → DTT
  | [] => dStopT
  | t :: ts => match ts with
    | [] => t
    | _ :: _ => dAnd t (cAndT ts)
def cOrT : List DTT → DTT
  | [] => dStopT
  | t :: ts => match ts with
    | [] => t
    | _ :: _ => dOr t (cOrT ts)
section
variable {X : Cx} {T : Tab} {Γ : Sig} {C : Cal} {N : List Str} {k : Nat} {sc : Sc} {W : WX} {pos : Pos} {x : Str} {e a b c : Expr} {f : Expr → DTE} {g : Expr → DTT}
theorem opD_ok {m : Bool} {op : Operator} {o : DO2} (h : opD m op = some o) : OpR X (binaryOp op) (LO2 T X.K o) := by
  cases op <;> first | (cases h; done) | skip
  · cases h; exact xAdd
  · cases h; exact xSub
  · cases h; exact xMul
  · cases h; exact xMod
  · cases h; exact xPow
  · cases h; exact xDiv
theorem cmpD_ok (hu : X.A.units + 64 < cLine) {op : CmpOp} {o : DO2} (h : cmpD op = some o) : OpR X (compareOp op) (LO2 T X.K o) := by
  cases op <;> cases h
  · exact xEq hu
  · exact xNe hu
  · exact xLt hu
  · exact xLe hu
  · exact xGt hu
  · exact xGe
  · exact xIs
  · exact xIsNot
  · exact xIn hu
  · exact xNotIn hu
theorem cBin_ok {m : Bool} {op : Operator} {ta tb : DTE} (ha : PE X a (LE T X.K C W ta)) (hb : PE X b (LE T X.K C W tb)) : PE X (.BinOp a op b pos) (LE T X.K C W (cBin m op ta tb)) := by
  unfold cBin
  split
  · rename_i o h
    exact de_bin (fun _ _ h1 h2 => pe_op (opD_ok h) h1 h2) (fun _ _ _ _ h => h) ha hb
  · exact de_stop
theorem ownE_ok (G : GoodE T Γ C N k X sc W) {op : CmpOp} {n : Bool} (h : ownE Γ op = some (false, n)) : OpR X (compareOp op) (LO2 T X.K (eqQ Γ.et n C)) := by
  unfold ownE at h
  split at h
  · cases h
  · cases op <;> cases h
    · exact xEqQ G.KC G.cal G.rm2 G.eqs
    · exact xNeQ G.KC G.cal G.rm2 G.eqs
theorem ownI_ok (G : GoodE T Γ C N k X sc W) {op : CmpOp} {n : Bool} (h : ownE Γ op = some (true, n)) : OpR X (compareOp op) (LO2 T X.K (inQ Γ.et n C)) := by
  have hu := G.rm.rm.room.units
  unfold ownE at h
  split at h
  · cases h
  · cases op <;> cases h
    · exact xInQ (neg := false) (cmpD_ok hu (op := .In) rfl) G.KC G.cal G.rm2 G.eqs
    · exact xInQ (neg := true) (cmpD_ok hu (op := .NotIn) rfl) G.KC G.cal G.rm2 G.eqs
theorem cCmp_ok (G : GoodE T Γ C N k X sc W) {ops : List CmpOp} {cs : List Expr} (h : ∀ e, PE X e (LE T X.K C W (f e))) : PE X (.Compare a ops cs pos) (LE T X.K C W (cCmp Γ a f ops cs)) := by
  have hu := G.rm.rm.room.units
  unfold cCmp
  split
  · split
    · rename_i n hm ho
      exact de_cmp (o := eqQ Γ.et n C) (ownE_ok G ho) hm (h _) (h _)
    · rename_i n hm ho
      exact de_cmp (o := inQ Γ.et n C) (ownI_ok G ho) hm (h _) (h _)
    · rename_i o hm hn ho
      exact de_cmp (cmpD_ok hu ho) hm (h _) (h _)
    · exact de_stop
  · split
    · rename_i o o' hm ho ho'
      exact de_chain (cmpD_ok hu ho) (cmpD_ok hu ho') hm (h _) (h _) (h _)
    · exact de_stop
  · exact de_stop
theorem cCmpT_ok (G : GoodE T Γ C N k X sc W) {ops : List CmpOp} {cs : List Expr} (h : ∀ e, PE X e (LE T X.K C W (f e))) : PT X (.Compare a ops cs pos) (LT T X.K C W (cCmpT Γ a f ops cs)) := by
  have hu := G.rm.rm.room.units
  unfold cCmpT
  split
  · split
    · rename_i n hm ho
      exact dt_cmp (o := eqQ Γ.et n C) (ownE_ok G ho) hm (h _) (h _)
    · rename_i n hm ho
      exact dt_cmp (o := inQ Γ.et n C) (ownI_ok G ho) hm (h _) (h _)
    · rename_i o hm hn ho
      exact dt_cmp (cmpD_ok hu ho) hm (h _) (h _)
    · exact dt_stop
  · split
    · rename_i o o' hm ho ho'
      exact dt_chain (cmpD_ok hu ho) (cmpD_ok hu ho') hm (h _) (h _) (h _)
    · exact dt_stop
  · exact dt_stop
theorem cAndV_ok (h : ∀ e, PE X e (LE T X.K C W (f e))) : ∀ vs : List Expr, PE X (.BoolOp .And vs pos) (LE T X.K C W (cAndV (vs.map f)))
  | [] => de_stop
  | [v] => pe_one (h v)
  | v :: w :: vs => de_andV (h v) (cAndV_ok h (w :: vs))
theorem cOrV_ok (h : ∀ e, PE X e (LE T X.K C W (f e))) : ∀ vs : List Expr, PE X (.BoolOp .Or vs pos) (LE T X.K C W (cOrV (vs.map f)))
  | [] => de_stop
  | [v] => pe_one (h v)
  | v :: w :: vs => de_orV (h v) (cOrV_ok h (w :: vs))
theorem dw_stop : PW X e (LT T X.K C W dStopT) := ⟨fun _ _ _ _ _ _ _ ⟨_, _, _, _, _, _, h, _⟩ => h.elim⟩
theorem cAndT_ok (h : ∀ e, PT X e (LT T X.K C W (g e))) : ∀ vs : List Expr, PW X (.BoolOp .And vs pos) (LT T X.K C W (cAndT (vs.map g)))
  | [] => dw_stop
  | [v] => pw_and1 (h v)
  | v :: w :: vs => dw_and (h v) (cAndT_ok h (w :: vs))
theorem cOrT_ok (h : ∀ e, PT X e (LT T X.K C W (g e))) : ∀ vs : List Expr, PW X (.BoolOp .Or vs pos) (LT T X.K C W (cOrT (vs.map g)))
  | [] => dw_stop
  | [v] => pw_or1 (h v)
  | v :: w :: vs => dw_or (h v) (cOrT_ok h (w :: vs))
theorem cArgs_ok (h : ∀ e, PE X e (LE T X.K C W (f e))) : ∀ es : List Expr, es.all plainArg = true → PA X es (LA T X.K C W (es.map f))
  | [], _ => da_nil
  | e :: es, hp => by
    simp only [List.all_cons, Bool.and_eq_true] at hp
    exact da_cons hp.1 (h e) (cArgs_ok h es hp.2)
theorem cKws_ok (h : ∀ e, PE X e (LE T X.K C W (f e))) : ∀ kws : List Keyword, DK X T C W kws (kws.map fun k => f k.value)
  | [] => dk_nil
  | ⟨x, e, p⟩ :: kws => dk_cons (h e) (cKws_ok h kws)
end

/-! ### targets -/
def allO {α : Type} : List (Option α) → Option (List α)
  | [] => some []
  | o :: r => match o with
    | none => none
    | some a => match allO r with
      | none => none
      | some l => some (a :: l)
def cTg (N : List Str) (sc : Sc) : Nat → Expr → Option Tg
  | 0, _ => none
  | n + 1, e => match e with
    | .Name x _ => match isLoc sc x, ixS x N 0 with
      | true, some i => some (.nm i)
      | _, _ => none
    | .Tuple es _ _ => match es.all plainArg, allO (es.map (cTg N sc n)) with
      | true, some l => some (.tp l)
      | _, _ => none
    | _ => none
section
variable {X : Cx} {T : Tab} {Γ : Sig} {C : Cal} {N : List Str} {k : Nat} {sc : Sc} {W : WX} {pos : Pos}
theorem asg_cons {e : Expr} {es : List Expr} {env : Env} (h : plainArg e = true) : assignEach (e :: es) env = (false, assign e env) :: assignEach es env := by
  cases e <;> first | rfl | cases h
theorem asg_none {env : Env} : ∀ {es : List Expr}, es.all plainArg = true → (assignEach es env).length = es.length ∧ (assignEach es env).findIdx? (·.1) = none
  | [], _ => ⟨rfl, rfl⟩
  | e :: es, h => by
    simp only [List.all_cons, Bool.and_eq_true] at h
    obtain ⟨h1, h2⟩ := asg_none (env := env) h.2
    rw [asg_cons h.1]
    refine ⟨by simp [h1], ?_⟩
    rw [List.findIdx?_cons]
    simp [h2]
theorem allO_len {α : Type} : ∀ {l : List (Option α)} {r : List α}, allO l = some r → l.length = r.length
  | [], r, h => by cases h; rfl
  | o :: l, r, h => by
    unfold allO at h
    split at h
    · cases h
    · split at h
      · cases h
      · rename_i l' e
        cases h
        simp [allO_len e]
theorem cTg_ok (G : GoodE T Γ C N k X sc W) : ∀ (n : Nat) {e : Expr} {t : Tg}, cTg N sc n e = some t → PG X e (LG T X.K t) := by
  intro n
  induction n with
  | zero => intro e t h; cases h
  | succ n ih =>
    intro e t h
    unfold cTg at h
    split at h
    · split at h
      · rename_i hl hi
        cases h
        obtain ⟨l1, l2⟩ := isLoc_ok G hl
        have nd := G.nd
        rw [← G.hN] at nd
        exact dg_name nd (by rw [G.hN]; exact ixS_at hi) l1 l2
      · cases h
    · rename_i es _ _
      split at h
      · rename_i l hp hl
        cases h
        have : ∀ {es : List Expr} {l : List Tg}, es.all plainArg = true → allO (es.map (cTg N sc n)) = some l → PGs X es (LGs T X.K l) := by
          intro es
          induction es with
          | nil => intro l _ h; cases h; exact dgs_nil
          | cons e es ih2 =>
            intro l hp h
            simp only [List.all_cons, Bool.and_eq_true] at hp
            simp only [List.map_cons] at h
            unfold allO at h
            split at h
            · cases h
            · rename_i t ht
              split at h
              · cases h
              · rename_i l' hl'
                cases h
                exact dgs_cons (ih ht) (ih2 hp.2 hl') (by rw [asg_cons hp.1]; rfl)
        obtain ⟨n1, n2⟩ := asg_none (env := X.env) hp
        refine dg_tup G.calm (this hp hl) ?_ n2
        rw [n1, ← allO_len hl, List.length_map]
      · cases h
    · cases h
end

/-! ### what is walked -/
def plainIter : Expr → Bool
  | .Set _ _ _ => false
  | _ => true
theorem plainIter_ok {e : Expr} {env : Env} (h : plainIter e = true) (x : Value) : foldedSetIterable e env x = pure x := by
  cases e <;> first | rfl | cases h
def nRange : Str := "range"
def nZip : Str := "zip"
def nEnum : Str := "enumerate"
def cIter (Γ : Sig) (sc : Sc) (p : Pk) (tg it : Expr) : DSrc := match it with
  | .Call (.Name x _) [a] [] _ => match isGl sc x, memS x Γ.blts, plainArg a with
    | true, true, true => (match eqS x nRange with
      | true => sRange1 (p.e sc a)
      | false => (match eqS x nEnum, tg with
        | true, .Tuple _ _ _ => sEnum (p.e sc a)
        | _, _ => sOf (p.e sc it)))
    | _, _, _ => sOf (p.e sc it)
  | .Call (.Name x _) [a, b] [] _ => match isGl sc x, memS x Γ.blts, plainArg a, plainArg b with
    | true, true, true, true => (match eqS x nRange with
      | true => sRange2 (p.e sc a) (p.e sc b)
      | false => (match eqS x nZip, tg with
        | true, .Tuple _ _ _ => sZip (p.e sc a) (p.e sc b)
        | _, _ => sOf (p.e sc it)))
    | _, _, _, _ => sOf (p.e sc it)
  | _ => sOf (p.e sc it)
section
variable {X : Cx} {T : Tab} {Γ : Sig} {C : Cal} {N : List Str} {k : Nat} {sc : Sc} {W : WX} {pos : Pos} {p : Pk} {tg : Expr}
theorem cIter_ok (G : GoodE T Γ C N k X sc W) (P : PkOk Γ N p) (it : Expr) : PI X tg it (LI T X.K C W (cIter Γ sc p tg it)) := by
  unfold cIter
  split
  · split
    · rename_i h1 h2 h4
      split
      · rename_i h3
        have hx := eqS_iff.mp h3
        subst hx
        exact di_range1 (isGl_ok G h1).1 (G.blts _ (memS_ok h2)) h4 (P.e G _)
      · split
        · rename_i h3
          have hx := eqS_iff.mp h3
          subst hx
          exact di_enum (isGl_ok G h1).1 (G.blts _ (memS_ok h2)) h4 (P.e G _)
        · exact di_of (P.e G _)
    · exact di_of (P.e G _)
  · split
    · rename_i h1 h2 h4 h5
      split
      · rename_i h3
        have hx := eqS_iff.mp h3
        subst hx
        exact di_range2 (isGl_ok G h1).1 (G.blts _ (memS_ok h2)) h4 h5 (P.e G _) (P.e G _)
      · split
        · rename_i h3
          have hx := eqS_iff.mp h3
          subst hx
          exact di_zip (isGl_ok G h1).1 (G.blts _ (memS_ok h2)) h4 h5 (P.e G _) (P.e G _)
        · exact di_of (P.e G _)
    · exact di_of (P.e G _)
  · exact di_of (P.e G _)
end

/-! ### comprehensions -/
def isFnK : ScopeKind → Bool
  | .function => true
  | _ => false
def kEq : NameKind → NameKind → Bool
  | .local, .local => true | .cell, .cell => true | .free, .free => true | .globalImplicit, .globalImplicit => true | .globalExplicit, .globalExplicit => true | _, _ => false
def blkOwn (N : List Str) : List (Str × NameKind) → List (Str × Nat)
  | [] => []
  | y :: r => match y.2 with
    | .local => match ixS y.1 N 0 with
      | some i => (y.1, i) :: blkOwn N r
      | none => blkOwn N r
    | .cell => match ixS y.1 N 0 with
      | some i => (y.1, i) :: blkOwn N r
      | none => blkOwn N r
    | _ => blkOwn N r
def blkB (sc scope : Scope) : Bool := (isFnK scope.kind).and ((scope.names.all fun y => match lkS y.1 scope.names with
  | some z => kEq z y.2
  | none => false).and (scope.names.all fun y => match y.2 with
    | .free => (match lkS y.1 sc.names with
      | some .cell => true
      | some .free => true
      | _ => false)
    | _ => true))
theorem kEq_ok {a b : NameKind} (h : kEq a b = true) : a = b := by
  cases a <;> cases b <;> first | rfl | cases h
theorem ixS_none {x : Str} : ∀ {l : List Str} {i : Nat}, ixS x l i = none → x ∉ l
  | [], _, _ => by simp
  | y :: r, i, h => by
    unfold ixS at h
    cases e : eqS x y with
    | true => rw [e] at h; cases h
    | false =>
      rw [e] at h
      have h1 := ixS_none h
      have h2 : x ≠ y := fun z => by rw [eqS_iff.mpr z] at e; cases e
      simp [h1, h2]
theorem blkOwn_ix {N : List Str} : ∀ {names : List (Str × NameKind)}, ∀ p ∈ blkOwn N names, N[p.2]? = some p.1
  | [], p, hp => by cases hp
  | y :: r, p, hp => by
    unfold blkOwn at hp
    split at hp
    · split at hp
      · rename_i i hi
        rcases List.mem_cons.mp hp with e | hp
        · subst e; exact ixS_at hi
        · exact blkOwn_ix p hp
      · exact blkOwn_ix p hp
    · split at hp
      · rename_i i hi
        rcases List.mem_cons.mp hp with e | hp
        · subst e; exact ixS_at hi
        · exact blkOwn_ix p hp
      · exact blkOwn_ix p hp
    · exact blkOwn_ix p hp
theorem blkOwn_has {N : List Str} : ∀ {names : List (Str × NameKind)}, ∀ y ∈ names, y.2 = .local ∨ y.2 = .cell → y.1 ∈ (blkOwn N names).map (·.1) ∨ y.1 ∉ N
  | [], y, hy, _ => by cases hy
  | z :: r, y, hy, hk => by
    rcases List.mem_cons.mp hy with e | hy
    · subst e
      unfold blkOwn
      rcases hk with hk | hk <;> rw [hk] <;> dsimp only <;> (split; exact .inl (by simp); rename_i e; exact .inr (ixS_none e))
    · rcases blkOwn_has (N := N) y hy hk with h | h
      · refine .inl ?_
        unfold blkOwn
        split
        · split
          · exact List.mem_cons_of_mem _ h
          · exact h
        · split
          · exact List.mem_cons_of_mem _ h
          · exact h
        · exact h
      · exact .inr h
theorem blkB_ok {N : List Str} {sc scope : Scope} (h : blkB sc scope = true) : BlkOk N sc scope (blkOwn N scope.names) := by
  unfold blkB at h
  obtain ⟨h1, h⟩ := Bool.and_eq_true_iff.mp h
  obtain ⟨h2, h3⟩ := Bool.and_eq_true_iff.mp h
  rw [List.all_eq_true] at h2 h3
  refine ⟨?_, fun y hy => ?_, fun p hp => blkOwn_ix p hp, fun y hy e => ?_, fun y hy e => blkOwn_has y hy e⟩
  · unfold isFnK at h1; split at h1
    · assumption
    · cases h1
  · have q := h2 y hy
    split at q
    · rename_i z e
      rw [lkS_eq] at e
      rw [e, kEq_ok q]
    · cases q
  · have q := h3 y hy
    rw [e] at q
    dsimp only at q
    split at q <;> first | (cases q; done) | (rename_i e2; rw [lkS_eq] at e2)
    · exact .inl e2
    · exact .inr e2
def ownB (t : Tg) (own : List (Str × Nat)) : Bool := t.slots.all fun i => own.any fun p => Nat.beq i p.2
theorem ownB_ok {t : Tg} {own : List (Str × Nat)} (h : ownB t own = true) : ∀ i ∈ t.slots, i ∈ own.map (·.2) := fun i hi => by
  unfold ownB at h
  rw [List.all_eq_true] at h
  have q := h i hi
  rw [List.any_eq_true] at q
  obtain ⟨p, hp, e⟩ := q
  rw [Nat.eq_of_beq_eq_true e]
  exact List.mem_map_of_mem hp
def cComp (Γ : Sig) (N : List Str) (sc : Sc) (p : Pk) (m : Bool) (elt tg iter : Expr) (ifs : List Expr) (scope : Scope) : DTE :=
  match blkB sc.sc scope, plainIter iter, cTg N ⟨relS scope sc.sc, scope⟩ 3 tg, Γ.gm with
  | true, true, some t, none => match ownB t (blkOwn N scope.names) with
    | true => match ifs with
      | [] => dComp m ((blkOwn N scope.names).map (·.2)) (cIter Γ sc p tg iter) t dYes (p.e ⟨relS scope sc.sc, scope⟩ elt)
      | [c] => dComp m ((blkOwn N scope.names).map (·.2)) (cIter Γ sc p tg iter) t (p.t ⟨relS scope sc.sc, scope⟩ c) (p.e ⟨relS scope sc.sc, scope⟩ elt)
      | _ => dStop
    | false => dStop
  | _, _, _, _ => dStop
section
variable {X : Cx} {T : Tab} {Γ : Sig} {C : Cal} {N : List Str} {k : Nat} {sc : Sc} {W : WX} {pos : Pos} {p : Pk} {tg : Expr}
theorem GoodE.blk (G : GoodE T Γ C N k X sc W) (hgm : Γ.gm = none) {scope : Scope} (hk : scope.kind = .function) (s : Shared) (H : Hp) (C' : Addr) (cl : List (Str × Addr)) (fp : List Addr) :
    GoodE T Γ C N k (X.blk s H scope (compEnvC scope cl C' X.env) fp) ⟨relS scope sc.sc, scope⟩ noW where
  rm2 := ⟨⟨G.rm2.rm.room, by have z := G.rm2.rm.gd; rw [hgm] at z ⊢; exact z⟩, .inl hgm⟩
  cal := G.cal
  calm := G.calm
  hN := G.hN
  nd := G.nd
  hsc := by
    show relS scope X.env.scope = relS scope sc.sc
    rw [G.hsc]
  kind := hk
  cell := fun x h => by
    show (scope.names.lookup x == some .cell) = true
    rw [h]; rfl
  tk := fun u s' ⟨_, _, _, _, _, _, _, _, _, _, _, _, _, _, _, _, w⟩ => w.elim
  KC := G.KC
  mth := G.mth
  fns := G.fns
  clss := G.clss
  mks := G.mks
  blts := G.blts
  cons := G.cons
  hk := G.hk
  rp := G.rp
  xcl := G.xcl
  eqs := G.eqs
  sts := G.sts
  lns := G.lns
  hcs := G.hcs
  hmo := G.hmo
theorem cComp_ok {m : Bool} (G : GoodE T Γ C N k X sc W) (P : PkOk Γ N p) (elt tg iter : Expr) (ifs : List Expr) (scope : Scope) : PE X (.ListComp elt [⟨tg, iter, ifs, 0⟩] scope pos) (LE T X.K C W (cComp Γ N sc p m elt tg iter ifs scope)) := by
  unfold cComp
  split
  · rename_i t hb hi ht hgm
    split
    · rename_i ho
      have nd := G.nd
      rw [← G.hN] at nd
      have bo : BlkOk X.N X.env.scope scope (blkOwn N scope.names) := by
        have := blkB_ok (N := N) hb
        rw [G.hN, G.hsc]
        exact this
      split
      · exact de_comp G.calm nd (cIter_ok G P iter) bo (fun s H C' cl fp => cTg_ok (G.blk hgm bo.kind s H C' cl fp) 3 ht) (fun _ _ _ _ _ => pts_yes) (fun s H C' cl fp => P.e (G.blk hgm bo.kind s H C' cl fp) elt) (fun x => plainIter_ok hi x) (ownB_ok ho)
      · exact de_comp G.calm nd (cIter_ok G P iter) bo (fun s H C' cl fp => cTg_ok (G.blk hgm bo.kind s H C' cl fp) 3 ht) (fun s H C' cl fp => pts_one (P.t (G.blk hgm bo.kind s H C' cl fp) _)) (fun s H C' cl fp => P.e (G.blk hgm bo.kind s H C' cl fp) elt) (fun x => plainIter_ok hi x) (ownB_ok ho)
      · exact de_stop
    · exact de_stop
  · exact de_stop
end
end Cn

namespace Cn
open PySem PySem.Spec PyProof.Rows L2

/-! ## DC. Dict displays -/
def dPrs : List (DTE × DTE) → Cal → R → G → (List D → List D → G → Prop) → ET → Prop
  | [], _, _, g, Q, _ => Q [] [] g
  | t :: r, C, ρ, g, Q, E => t.1 C ρ g (fun k g1 => t.2 C ρ g1 (fun v g2 => dPrs r C ρ g2 (fun ks vs g3 => Q (k :: ks) (v :: vs) g3) E) E) E
def ndK : List D → Bool
  | [] => true
  | k :: ks => isKey k && (!ks.any (eqK0 k) && ndK ks)
def dDct (m : Bool) (ts : List (DTE × DTE)) : DTE := fun C ρ g Q E => dPrs ts C ρ g (fun ks vs g1 => (ks.length ≤ 15 ∧ ndK ks = true) ∧ if m then ∀ a, g1 a = none → Q (.adr a) (gset g1 a (.dct ks vs)) else Q (.dct ks vs) g1) E
/-- the keys and the things of a list of pairs -/
def prsOf : List D → Option (List D × List D)
  | [] => some ([], [])
  | .tup [k, v] :: r => (match prsOf r with
    | some q => some (k :: q.1, v :: q.2)
    | none => none)
  | _ => none
/-- dict(pairs): keys unlike -/
def oDctP (m : Bool) : DOL := fun ds g Q => match ds with
  | [d] => match lstOf g d with
    | some l => (match prsOf l with
      | some q => ndK q.1 = true ∧ (if m then ∀ a, g a = none → Q (.adr a) (gset g a (.dct q.1 q.2)) else Q (.dct q.1 q.2) g)
      | none => False)
    | none => False
  | _ => False
section
variable {X : Cx} {T : Tab} {C : Cal} {W : WX} {pos : Pos}
theorem prs_of {ED : ET} {σ : L2.St} : ∀ {ts : List (DTE × DTE)} {H : Hp} {Q : List (V × V) → Hp → Prop} {ρ : R} {g : G} {QD : List D → List D → G → Prop}, RS T X.K H ρ σ → RG T X.K g H → CtE T X.K g H ED (fun cls dd H' => W cls dd σ H') → dPrs ts C ρ g QD ED →
    (∀ ps ks vs H' g', Kg g H g' H' → IsL T X.K H' ks (ps.map (·.1)) → IsL T X.K H' vs (ps.map (·.2)) → RG T X.K g' H' → QD ks vs g' → Q ps H') → tPairs (ts.map fun t => (LE T X.K C W t.1, LE T X.K C W t.2)) σ H Q
  | [], H, Q, ρ, g, QD, rs, rg, ce, h, c => c [] [] [] H g (Kg.refl g H) .nil .nil rg h
  | t :: ts, H, Q, ρ, g, QD, rs, rg, ce, h, c => by
    refine ⟨ρ, g, _, ED, rs, rg, h, ⟨fun x dx H1 g1 k1 i1 rg1 h1 => ?_⟩, ce⟩
    refine ⟨ρ, g1, _, ED, rs.mono k1.kp, rg1, h1, ⟨fun y dy H2 g2 k2 i2 rg2 h2 => ?_⟩, ce.mono k1⟩
    refine prs_of (QD := _) ((rs.mono k1.kp).mono k2.kp) rg2 ((ce.mono k1).mono k2) h2 fun ps ks vs H3 g3 k3 i3 j3 rg3 h3 => ?_
    exact c ((x, y) :: ps) (dx :: ks) (dy :: vs) H3 g3 ((k1.trans k2).trans k3) (.cons ((i1.mono k2.kp).mono k3.kp) i3) (.cons (i2.mono k3.kp) j3) rg3 h3
theorem keys_of {K : PySem.W.Frag} {H : Hp} : ∀ {ks : List D} {ps : List (V × V)}, ndK ks = true → IsL T K H ks (ps.map (·.1)) → ∃ kvs : List (Key × V), ps = kvs.map (fun kv => (kV kv.1, kv.2)) ∧ (kvs.map (·.1)).Nodup ∧
    ∀ k : D, isKey k = true → ∀ q : Key, Is T K H k (kV q) → ks.any (eqK0 k) = false → q ∉ kvs.map (·.1)
  | [], ps, _, i => by
    simp only [IsL] at i
    have : ps = [] := List.map_eq_nil_iff.mp i
    subst this
    exact ⟨[], rfl, List.nodup_nil, fun k _ q _ _ => by simp⟩
  | k :: ks, ps, h, i => by
    simp only [ndK, Bool.and_eq_true, Bool.not_eq_true'] at h
    obtain ⟨h1, h2, h3⟩ := h
    simp only [IsL] at i
    obtain ⟨v, vs, e, i1, i2⟩ := i
    cases ps with
    | nil => cases e
    | cons p ps =>
      simp only [List.map_cons, List.cons.injEq] at e
      obtain ⟨rfl, rfl⟩ := e
      obtain ⟨kvs, rfl, nd, un⟩ := keys_of h3 i2
      obtain ⟨q, hq⟩ : ∃ q : Key, p.1 = kV q := by
        cases k <;> first | (cases h1; done) | skip
        · rename_i j; simp only [Is] at i1; exact ⟨.inl j, i1⟩
        · rename_i x; simp only [Is] at i1; exact ⟨.inr (S x), i1⟩
      refine ⟨(q, p.2) :: kvs, by rw [List.map_cons, ← hq], ?_, fun k' hk' q' iq' ha => ?_⟩
      · rw [List.map_cons]
        exact List.nodup_cons.mpr ⟨un k h1 q (hq ▸ i1) h2, nd⟩
      · rw [List.any_cons, Bool.or_eq_false_iff] at ha
        rw [List.map_cons, List.mem_cons, not_or]
        refine ⟨fun z => ?_, un k' hk' q' iq' ha.2⟩
        simp only at z
        subst z
        rw [hq] at i1
        have hf := ha.1
        cases k <;> first | (cases h1; done) | skip
        · simp only [Is] at i1
          rw [i1] at iq'
          cases k' <;> simp only [Is] at iq' <;> first | (cases hk'; done) | skip
          · cases iq'; simp [eqK0] at hf
          · cases iq'
        · simp only [Is] at i1
          rw [i1] at iq'
          cases k' <;> simp only [Is] at iq' <;> first | (cases hk'; done) | skip
          · cases iq'
          · rw [S_inj (V.str.inj iq')] at hf; simp [eqK0] at hf
theorem merge_nd : ∀ {kvs acc : List (Key × V)}, ((acc ++ kvs).map (·.1)).Nodup → mergeK acc kvs = acc ++ kvs
  | [], acc, _ => by simp [mergeK]
  | p :: r, acc, h => by
    show mergeK (putK acc p.1 p.2) r = _
    have hn : p.1 ∉ acc.map (·.1) := fun z => by
      rw [List.map_append, List.nodup_append] at h
      exact h.2.2 p.1 z p.1 (by simp) rfl
    have hv : valV acc p.1 = none := by
      cases e : valV acc p.1 with
      | none => rfl
      | some v => exact absurd (valV_in e) hn
    have e : putK acc p.1 p.2 = acc ++ [p] := putK_new p.2 hv
    rw [e, merge_nd (by simpa using h)]
    simp
theorem prs_rel {K : PySem.W.Frag} {H : Hp} : ∀ {l : List D} {q : List D × List D} {us : List V}, prsOf l = some q → IsL T K H l us → ∃ (as : List Addr) (kvs : List (V × V)), us = as.map V.ref ∧ Paired (fun p kv => SqT K H p [kv.1, kv.2]) as kvs ∧ IsL T K H q.1 (kvs.map (·.1)) ∧ IsL T K H q.2 (kvs.map (·.2))
  | [], q, us, h, i => by
    simp only [prsOf, Option.some.injEq] at h
    subst h
    simp only [IsL] at i
    subst i
    exact ⟨[], [], rfl, .nil, by simp only [List.map_nil, IsL], by simp only [List.map_nil, IsL]⟩
  | d :: l, q, us, h, i => by
    simp only [IsL] at i
    obtain ⟨v, vs, rfl, i1, i2⟩ := i
    unfold prsOf at h
    split at h
    · rename_i e; cases e
    · rename_i k w r e
      cases e
      split at h
      · rename_i q' e'
        cases h
        obtain ⟨as, kvs, rfl, hp, j1, j2⟩ := prs_rel e' i2
        simp only [Is] at i1
        obtain ⟨a, xs, rfl, s, j⟩ := i1
        simp only [IsL] at j
        obtain ⟨kv, r1, rfl, ik, v2, r2, rfl, iv, rfl⟩ := j
        refine ⟨a :: as, (kv, v2) :: kvs, rfl, .cons s hp, ?_, ?_⟩
        · simp only [List.map_cons, IsL]; exact ⟨_, _, rfl, ik, j1⟩
        · simp only [List.map_cons, IsL]; exact ⟨_, _, rfl, iv, j2⟩
      · cases h
    · cases h
theorem paired_map {K : PySem.W.Frag} {H : Hp} : ∀ {as : List Addr} {kvs : List (Key × V)}, Paired (fun p kv => SqT K H p [kv.1, kv.2]) as (kvs.map fun kv => (kV kv.1, kv.2)) → Paired (fun p kv => SqT K H p [kV kv.1, kv.2]) as kvs
  | [], [], _ => .nil
  | [], _ :: _, h => by cases h
  | _ :: _, [], h => by cases h
  | _ :: _, _ :: _, h => by
    cases h with
    | cons h1 h2 => exact .cons h1 (paired_map h2)
theorem cDctP {m : Bool} (hc : X.calm = true) : CallR X (.type "dict") (LOL T X.K (oDctP m)) := by
  refine LOL_of fun xs H Q ⟨ds, g, QD, i, rg, h, c⟩ => ?_
  unfold oDctP at h
  split at h
  · obtain ⟨v, rfl, iv⟩ := i.one
    split at h
    · rename_i l e
      split at h
      · rename_i q eq
        obtain ⟨hd, h⟩ := h
        obtain ⟨a, ys, rfl, s, j⟩ := lstOf_rd rg iv e
        obtain ⟨as, prs, rfl, hp, j1, j2⟩ := prs_rel eq j
        obtain ⟨kvs, rfl, nd, _⟩ := keys_of hd j1
        have hp' := paired_map hp
        have k1 : IsL T X.K H q.1 (kvs.map fun q => kV q.1) := by rw [List.map_map] at j1; exact j1
        have k2 : IsL T X.K H q.2 (kvs.map (·.2)) := by rw [List.map_map] at j2; exact j2
        have em : mergeK [] kvs = kvs := by rw [merge_nd (acc := []) (by simpa using nd), List.nil_append]
        cases m with
        | true =>
          rw [if_pos rfl] at h
          refine ⟨_, call_dictP hc, a, as, kvs, rfl, .inl s, hp', fun p hp2 => ?_⟩
          rw [em]
          refine c.go _ _ _ (gset g p (.dct q.1 q.2)) (Kg.add hp2) (by simp only [Is]) ?_ (h p (rg.none hp2))
          intro b u e2
          by_cases hb : b = p
          · subst hb
            rw [gset_same] at e2
            cases e2
            exact ⟨kvs, upd_same, k1.mono (Kp.new hp2), k2.mono (Kp.new hp2)⟩
          · rw [gset_ne hb] at e2
            exact (rg b u e2).move (Kp.new hp2) (upd_ne hb)
        | false =>
          rw [if_neg Bool.false_ne_true] at h
          refine ⟨_, CallR.frz (call_dictP hc), a, as, kvs, rfl, .inl s, hp', fun p hp2 => ?_⟩
          rw [em]
          refine ⟨p, _, rfl, upd_same, trivial, fun ob => ?_⟩
          rw [upd_upd]
          refine c.go _ _ _ g (Kg.new hp2) ?_ (rg.beside hp2) h
          simp only [Is]
          exact ⟨p, ob, kvs, rfl, upd_same, k1.mono (Kp.new hp2), k2.mono (Kp.new hp2)⟩
      · exact h.elim
    · exact h.elim
  · exact h.elim
theorem pps_of {f : Expr → DTE} (h : ∀ e, PE X e (LE T X.K C W (f e))) : ∀ (ks vs : List Expr), ks.length = vs.length → PPs X pos (ks.map some) vs ((List.zipWith (fun a b => (f a, f b)) ks vs).map fun t => (LE T X.K C W t.1, LE T X.K C W t.2))
  | [], [], _ => pps_nil
  | [], _ :: _, e => by simp at e
  | _ :: _, [], e => by simp at e
  | k :: ks, v :: vs, e => pps_cons (h k) (h v) (pps_of h ks vs (by simpa using e))
theorem dct_end {m : Bool} {ts : List (DTE × DTE)} {σ : L2.St} {H : Hp} {Q : VK} {p : Addr} (hp : H p = none) (h : LE T X.K C W (dDct m ts) σ H Q) (n : Nat) :
    tPairs (ts.map fun t => (LE T X.K C W t.1, LE T X.K C W t.2)) σ (upd H p (.dK [])) fun ps H2 => H2 p = some (.dK []) ∧ ∃ kvs : List (Key × V), ps = kvs.map (fun kv => (kV kv.1, kv.2)) ∧ kvs.length ≤ 15 ∧ (if m then id else frzQ) Q (.ref p) (upd H2 p (.dK (mergeK [] kvs))) := by
  obtain ⟨ρ, g, QD, ED, rs, rg, h, c, ce⟩ := h
  have k0 : Kg g H g (upd H p (.dK [])) := Kg.new hp
  refine prs_of (rs.mono k0.kp) (rg.beside hp) (ce.mono k0) h fun ps ks vs H2 g2 k2 i1 i2 rg2 ⟨⟨hl, hd⟩, hq⟩ => ?_
  obtain ⟨e2, n2⟩ := k2.fr p _ upd_same (rg.none hp)
  obtain ⟨kvs, rfl, nd, _⟩ := keys_of hd i1
  have hlen : kvs.length ≤ 15 := by
    have := i1.length
    simp only [List.length_map] at this
    omega
  have j1 : IsL T X.K H2 ks (kvs.map fun q => kV q.1) := by rw [List.map_map] at i1; exact i1
  have j2 : IsL T X.K H2 vs (kvs.map (·.2)) := by rw [List.map_map] at i2; exact i2
  refine ⟨e2, kvs, rfl, hlen, ?_⟩
  rw [merge_nd (acc := []) (by simpa using nd), List.nil_append]
  have kk : ∀ o, Kp H2 (upd H2 p o) := fun o => Kp.mut e2 (fun _ z => by cases z) fun _ _ z => by cases z
  have kf : ∀ (g' : G) o, (∀ b, b ≠ p → g' b = g2 b) → Kg g H g' (upd H2 p o) := fun g' o hg => ⟨(k0.trans k2).kp.trans (kk o), fun b u e ng => by
    have hb : b ≠ p := fun z => by rw [z, hp] at e; cases e
    obtain ⟨z1, z2⟩ := (k0.trans k2).fr b u e ng
    exact ⟨by rw [upd_ne hb]; exact z1, by rw [hg b hb]; exact z2⟩⟩
  cases m with
  | false =>
    rw [if_neg Bool.false_ne_true] at hq ⊢
    refine ⟨p, _, rfl, upd_same, trivial, fun ob => ?_⟩
    rw [upd_upd]
    refine c.go _ _ _ g2 (kf g2 _ fun _ _ => rfl) ?_ (RG.off rg2 n2 (kk _)) hq
    simp only [Is]
    exact ⟨p, ob, kvs, rfl, upd_same, j1.mono (kk _), j2.mono (kk _)⟩
  | true =>
    rw [if_pos rfl] at hq ⊢
    refine c.go _ _ _ (gset g2 p (.dct ks vs)) (kf _ _ fun b hb => gset_ne hb) (by simp only [Is]) ?_ (hq p n2)
    intro b u e
    by_cases hb : b = p
    · subst hb
      rw [gset_same] at e
      cases e
      exact ⟨kvs, upd_same, j1.mono (kk _), j2.mono (kk _)⟩
    · rw [gset_ne hb] at e
      exact (rg2 b u e).move (kk _) (upd_ne hb)
theorem de_dct {m : Bool} {f : Expr → DTE} (h : ∀ e, PE X e (LE T X.K C W (f e))) {ks vs : List Expr} (hl : ks.length = vs.length) (h15 : ks.length ≤ 15) (h0 : ks ≠ []) :
    PE X (.Dict (ks.map some) vs pos) (LE T X.K C W (dDct m (List.zipWith (fun a b => (f a, f b)) ks vs))) := by
  have pd := pe_disp (pos := pos) (pps_of (X := X) (T := T) (C := C) (W := W) h ks vs hl) (by simp) (by simpa using hl) (by simpa using h0) (by simpa using h15)
  cases m with
  | true => exact PE.imp pd fun σ H Q q p hp => dct_end hp q 0
  | false => exact PE.imp (PE.frz pd) fun σ H Q q p hp => dct_end hp q 0
theorem de_dct0 {m : Bool} : PE X (.Dict [] [] pos) (LE T X.K C W (dDct m [])) := by
  have fin : ∀ {σ : L2.St} {H : Hp} {Q : VK}, LE T X.K C W (dDct m []) σ H Q → ∀ p, H p = none → (if m then id else frzQ) Q (.ref p) (upd H p (.dK [])) := fun {σ H Q} q p hp => by
    obtain ⟨_, kvs, e, _, z⟩ := dct_end hp q 0
    have : kvs = [] := List.map_eq_nil_iff.mp e.symm
    subst this
    rw [upd_upd] at z
    exact z
  cases m with
  | true => exact PE.imp pe_dnewK fun σ H Q q p hp => fin q p hp
  | false => exact PE.imp (PE.frz pe_dnewK) fun σ H Q q p hp => fin q p hp
end
def cDct (m : Bool) (f : Expr → DTE) (ks : List (Option Expr)) (vs : List Expr) : DTE := match ks, vs with
  | [], [] => dDct m []
  | [some k], [v] => dDct m [(f k, f v)]
  | [some k, some k2], [v, v2] => dDct m [(f k, f v), (f k2, f v2)]
  | [some k, some k2, some k3], [v, v2, v3] => dDct m [(f k, f v), (f k2, f v2), (f k3, f v3)]
  | [some k, some k2, some k3, some k4], [v, v2, v3, v4] => dDct m [(f k, f v), (f k2, f v2), (f k3, f v3), (f k4, f v4)]
  | [some k, some k2, some k3, some k4, some k5], [v, v2, v3, v4, v5] => dDct m [(f k, f v), (f k2, f v2), (f k3, f v3), (f k4, f v4), (f k5, f v5)]
  | [some k, some k2, some k3, some k4, some k5, some k6], [v, v2, v3, v4, v5, v6] => dDct m [(f k, f v), (f k2, f v2), (f k3, f v3), (f k4, f v4), (f k5, f v5), (f k6, f v6)]
  | _, _ => dStop
theorem cDct_ok {X : Cx} {T : Tab} {C : Cal} {W : WX} {pos : Pos} {m : Bool} {f : Expr → DTE} (h : ∀ e, PE X e (LE T X.K C W (f e))) (ks : List (Option Expr)) (vs : List Expr) : PE X (.Dict ks vs pos) (LE T X.K C W (cDct m f ks vs)) := by
  unfold cDct
  split
  · exact de_dct0
  · exact de_dct h (ks := [_]) (vs := [_]) rfl (by simp) (by simp)
  · exact de_dct h (ks := [_, _]) (vs := [_, _]) rfl (by simp) (by simp)
  · exact de_dct h (ks := [_, _, _]) (vs := [_, _, _]) rfl (by simp) (by simp)
  · exact de_dct h (ks := [_, _, _, _]) (vs := [_, _, _, _]) rfl (by simp) (by simp)
  · exact de_dct h (ks := [_, _, _, _, _]) (vs := [_, _, _, _, _]) rfl (by simp) (by simp)
  · exact de_dct h (ks := [_, _, _, _, _, _]) (vs := [_, _, _, _, _, _]) rfl (by simp) (by simp)
  · exact de_stop
end Cn

namespace Cn
open PySem PySem.SeqAt
open AutoSeq1 (wpAny_loadPart')
open MeetsSeq MeetsSeq2 MeetsSeq3 SeqRoads2
open GQ (FinOf)
/-! ### count -/
def cntB (e : Nat → Bool) : Nat → Nat
  | 0 => 0
  | n + 1 => cntB e n + if e n then 1 else 0
section
variable {prog : Program} {w : World} {A : Around} {R : Result → Shared → Prop}
theorem lst_cntJ (l : Addr) (x : Value) (N : Nat) (e : Nat → Bool) (I : Nat → Shared → Prop)
    (hl : ∀ i s, I i s → ∃ (items : Array Value) (n : Nat), s.heap.get? l = some { cls := .type "list", data := .seq items n } ∧ items.size = N ∧
      ∀ (h1 : i < items.size), wpAny (model prog w) A.in1 (eqBool items[i] x) (fun r s' => r = e i ∧ I (i + 1) s') (fun e s' => R (.error e) s') s)
    (f : ∀ s, I N s → R (.ok (.ret (.int (cntB e N : Nat) s.toks))) { s with toks := s.toks + 1 }) (k : Nat) :
    ∀ i : Nat, N - i = k → i ≤ N → ∀ s, I i s →
      wpAny (model prog w) A.in1 (Builtin.«list.count.loop» ⟨[.ref l, x, rawInt i, rawInt (cntB e i : Nat)], []⟩) (FinOf prog w A R) (fun e s' => R (.error e) s') s := by
  induction k with
  | zero =>
    intro i hk hi s h
    obtain ⟨items, n, hl1, hs1, _⟩ := hl _ _ h
    have hi' : i = N := by omega
    have hR := f s (hi' ▸ h)
    obtain ⟨hp, g, d, tk, os⟩ := s
    wp_walk using wpAny_loadPart' hl1
    have hi1 : items[((i : Nat) : Int).toNat]? = none := by simp; omega
    rw [hi1]
    wp_walk
    rw [hi']
    first | exact hR | simpa using hR
  | succ k ih =>
    intro i hk hi s h
    obtain ⟨items, n, hl1, hs1, turn⟩ := hl _ _ h
    have hlt : i < items.size := by omega
    have ht := turn hlt
    obtain ⟨hp, g, d, tk, os⟩ := s
    wp_walk using wpAny_loadPart' hl1
    have hi1 : items[((i : Nat) : Int).toNat]? = some items[i] := by simp [hlt]
    have hc : ((i : Int) + 1) = ((i + 1 : Nat) : Int) := by omega
    rw [hi1]
    refine wpAny_bind (wpAny_mono ht (fun r s2 h2 => ?_) fun _ _ x => x)
    obtain ⟨hr, h2⟩ := h2
    subst hr
    have hrec := ih (i + 1) (by omega) (by omega) s2 h2
    obtain ⟨hp2, g2, d2, tk2, os2⟩ := s2
    wp_walk
    rw [hc]
    have hf : (if e i = true then ((cntB e i : Nat) : Int) + 1 else ((cntB e i : Nat) : Int)) = ((cntB e (i + 1) : Nat) : Int) := by
      simp only [cntB]
      cases e i <;> simp
    first | rw [hf] | simp only [hf]
    exact ⟨plainId_quiet plain_count_loop _, codeAny_builtin entry_count_loop (by
      rw [Around.under_plainId plain_count_loop _]
      exact hrec)⟩
theorem list_cntJ (l : Addr) (x : Value) (N : Nat) (e : Nat → Bool) (I : Nat → Shared → Prop)
    (hl : ∀ i s, I i s → ∃ (items : Array Value) (n : Nat), s.heap.get? l = some { cls := .type "list", data := .seq items n } ∧ items.size = N ∧
      ∀ (h1 : i < items.size), wpAny (model prog w) A.in1 (eqBool items[i] x) (fun r s' => r = e i ∧ I (i + 1) s') (fun e s' => R (.error e) s') s)
    (f : ∀ s, I N s → R (.ok (.ret (.int (cntB e N : Nat) s.toks))) { s with toks := s.toks + 1 }) {s : Shared} (h : I 0 s) :
    wpAny (model prog w) A.in1 (Builtin.«list.count» ⟨[.ref l, x], []⟩) (FinOf prog w A R) (fun e s' => R (.error e) s') s := by
  obtain ⟨items, n, hl1, hs1, _⟩ := hl _ _ h
  have hrec := lst_cntJ (A := A) (R := R) l x N e I hl f _ 0 rfl (Nat.zero_le _) s h
  obtain ⟨hp, g, d, tk, os⟩ := s
  wp_walk using wpAny_loadPart' hl1
  exact ⟨plainId_quiet plain_count_loop _, codeAny_builtin entry_count_loop (by
    rw [Around.under_plainId plain_count_loop _]
    exact hrec)⟩
end
end Cn
namespace Cn
open PySem PySem.Spec PyProof.Rows L2 PySem.W PySem.SeqAt
open MeetsSeq MeetsSeq2 MeetsSeq3 SeqRoads2
/-- x.count(y), deep -/
def cntP (et : EqT) (C : Cal) : DOM := fun d ds g Q => match ds with
  | [x] => ∃ l, lstOf g d = some l ∧ (eqk true 24 x && eqkL true 24 l) = true ∧ (∀ y ∈ l, dem et C y x) ∧ Q (.int (l.countP fun y => eqD y x : Nat)) g
  | _ => False
def dCntO (et : EqT) (ta tb : DTE) : DTE := fun C ρ g Q E => ta C ρ g (fun d g1 => isLs d g1 = true ∧ dArgs [tb] C ρ g1 (fun ds g2 => cntP et C d ds g2 Q) E) E
section
variable {X : Cx} {T : Tab} {C : Cal} {et : EqT} {gm : Option Nat} {k : Nat} {W : WX}
theorem cntB_eq {l : List D} {x : D} : ∀ n, n ≤ l.length → cntB (eIn l x) n = (l.take n).countP fun y => eqD y x
  | 0, _ => by simp [cntB]
  | n + 1, h => by
    have hi : n < l.length := by omega
    rw [List.take_succ, List.countP_append, ← cntB_eq n (by omega)]
    simp only [cntB, eIn, List.getElem?_eq_getElem hi, Option.toList, List.countP_cons, List.countP_nil, Nat.zero_add]
theorem mt_cnt {d : D} (KC : ClsOk T X.K) (F : ∀ f, CalOk gm T X.prog X.w X.K X.mg X.base k (T.fA f) (C f)) (hr : RmX gm T (k + 2) X) (he : ∀ c f, T.ok c = true → et c = some f → EqM X.K (T.cA c) (T.fA f)) :
    MtR X "list.count" (fun x xs H Q => ∃ ds g' QD, Is T X.K H d x ∧ IsL T X.K H ds xs ∧ RG T X.K g' H ∧ cntP et C d ds g' QD ∧ Ct T X.K g' H QD Q) := by
  intro pins s σ H x xs v us Q I rv rx ⟨ds, g, QD, i, j, rg, q, cc⟩
  unfold cntP at q
  split at q
  · rename_i dx
    obtain ⟨l, hl, h2, h3, h4⟩ := q
    obtain ⟨k1, k2⟩ := Bool.and_eq_true_iff.mp h2
    obtain ⟨a, ys, rfl, hs, il⟩ := lstOf_rd rg i hl
    cases rv
    simp only [IsL] at j
    obtain ⟨w, ws, rfl, ix, rfl⟩ := j
    obtain ⟨u, rfl, ru⟩ := rx.one
    have kg : ∀ {H' : Hp}, Ext H H' → Kg g H g H' := fun ext => ⟨Cn.Ext.kp ext, fun b o e n => ⟨ext b o e, n⟩⟩
    have rgE : ∀ {H' : Hp}, Ext H H' → RG T X.K g H' := fun {H'} ext b o e => by
      obtain ⟨z, hz'⟩ := (rg b o e).some
      exact (rg b o e).move (Cn.Ext.kp ext) ((ext b _ hz').trans hz'.symm)
    have turn : ∀ (i : Nat) (d : D) (z : V) (b : Value) (s' : Shared), l[i]? = some d → ys[i]? = some z → RelV z b → (∃ H', Inv X pins σ H' s' ∧ Ext H H') → ∀ E : Value → Shared → Prop, wpAny (model X.prog X.w) X.A.in1 (eqBool b u) (fun r s2 => r = eIn l dx i ∧ ∃ H', Inv X pins σ H' s2 ∧ Ext H H') E s' := by
      intro i d z b s' e1 e2 rz ⟨H1, I1, x1⟩ E
      obtain ⟨z', e3, iz⟩ := il.get e1
      rw [e2] at e3
      cases e3
      have ei : eIn l dx i = eqD d dx := by unfold eIn; rw [e1]
      rw [ei]
      refine wpAny_mono (eqb_of (et := et) (C := C) (q := true) (n := 24) KC (rc_deep KC F hr he 24 true d dx false _ 1 (eqkL_at k2 e1) k1 (h3 d (List.mem_of_getElem? e1)) Bl.refl.in1 (by omega)) (fun _ => h3 d (List.mem_of_getElem? e1)) (eqkL_at k2 e1) k1 I1 (iz.mono (Cn.Ext.kp x1)) (ix.mono (Cn.Ext.kp x1)) rz ru) (fun r s2 z => ?_) fun _ _ x => x
      obtain ⟨z1, H2, I2, e2⟩ := z
      exact ⟨z1, H2, I2, x1.trans e2⟩
    have lenl := il.length
    have rdE : ∀ {H' : Hp} {a : Addr} {o : HO}, Ext H H' → Rd H a o → Rd H' a o := fun e h => h.elim (fun h => .inl (e _ _ h)) fun ⟨o, h⟩ => .inr ⟨o, e _ _ h⟩
    obtain ⟨z, its, n, r, ho⟩ := (show ObjOk X.prog X.w H s.heap a (.lst ys) from hs.ok I.hok)
    refine GQ.call_here PySem.F.slot_list_count ⟨_, ho, rfl⟩ PySem.F.entry_list_count (PySem.F.args_list_count_2 _ _) ?_
    refine list_cntJ (R := wants (EP X pins σ Q) X.xe) a u l.length (eIn l dx) (fun _ s' => ∃ H', Inv X pins σ H' s' ∧ Ext H H') (fun i s' hs' => ?_) (fun s' hs' => ?_) ⟨H, I, Ext.rfl'⟩
    · obtain ⟨H', I', e'⟩ := id hs'
      obtain ⟨z, its, n, r, ho⟩ := (show ObjOk X.prog X.w H' s'.heap a (.lst ys) from (rdE e' hs).ok I'.hok)
      refine ⟨its.toArray, n, ho, by rw [List.size_toArray, ← r.length, lenl], fun h1 => ?_⟩
      have g1 : i < its.length := by simpa using h1
      have g2 : i < l.length := by rw [lenl, r.length]; exact g1
      obtain ⟨z, e1, _⟩ := il.get (List.getElem?_eq_getElem g2)
      obtain ⟨b, e2, rb⟩ := r.get e1
      have f1 : its.toArray[i] = b := by
        have : its[i]? = some its[i] := List.getElem?_eq_getElem g1
        rw [this] at e2
        simpa using Option.some.inj e2
      rw [f1]
      exact turn i _ z b s' (List.getElem?_eq_getElem g2) e1 rb hs' _
    · obtain ⟨H', I', e'⟩ := hs'
      rw [cntB_eq l.length (Nat.le_refl _), List.take_length]
      exact ⟨.int _, H', I'.tok _, ⟨s'.toks, rfl⟩, (cc.mono (kg e')).is (d := .int _) (by simp only [Is]) (rgE e') h4⟩
  · exact q.elim
theorem de_cnt {o e : Expr} {apos pos : Pos} {ta tb : DTE} (KC : ClsOk T X.K) (F : ∀ f, CalOk gm T X.prog X.w X.K X.mg X.base k (T.fA f) (C f)) (hr : RmX gm T (k + 2) X) (he : ∀ c f, T.ok c = true → et c = some f → EqM X.K (T.cA c) (T.fA f))
    (hbase : plainBase o = true) (hline : (apos.endLine == pos.line) = true) (hp : plainArg e = true) (ho : PE X o (LE T X.K C W ta)) (ha : PA X [e] (LA T X.K C W [tb])) :
    PE X (.Call (.Attribute o "count" apos) [e] [] pos) (LE T X.K C W (dCntO et ta tb)) := by
  refine ⟨fun pins s σ H Q I ⟨ρ, g, QD, ED, rs, rg, h, cc, ce⟩ => ?_⟩
  refine meth_shape (s := s) (ks := []) hbase (by simp [hp]) rfl (by simp) hline ?_
  refine thn (ho.run pins s σ H (fun v H' => ∃ d g1, Kg g H g1 H' ∧ Is T X.K H' d v ∧ RG T X.K g1 H' ∧ isLs d g1 = true ∧ dArgs [tb] C ρ g1 (fun ds g2 => cntP et C d ds g2 QD) ED) I ⟨ρ, g, _, ED, rs, rg, h, ⟨fun v d H1 g1 k1 i1 rg1 h1 => ⟨d, g1, k1, i1, rg1, h1⟩⟩, ce⟩) fun ov s1 ⟨v, H1, I1, r1, d, g1, k1, i1, rg1, h0, h1⟩ pl => ?_
  have tv : tyV X.K "list" v H1 := by
    unfold isLs at h0
    split at h0
    · rename_i l hl
      obtain ⟨a, xs, rfl, q, _⟩ := lstOf_rd rg1 i1 hl
      exact .inl ⟨rfl, xs, .inl q⟩
    · cases h0
  obtain ⟨t1, t2⟩ := tyV_is I1 r1 tv
  refine getMethod_builtin t1 PySem.F.plainAttrs_list PySem.F.slot_list_count PySem.F.type_list_count t2 ?_
  have hA := ha.run pos pins s1 σ H1 (fun vs H2 => ∃ ds g2 QD', Is T X.K H2 d v ∧ IsL T X.K H2 ds vs ∧ RG T X.K g2 H2 ∧ cntP et C d ds g2 QD' ∧ Ct T X.K g2 H2 QD' Q) I1
    ⟨ρ, g1, _, ED, rs.mono k1.kp, rg1, h1, ⟨fun vs ds H2 g2 k2 i2 rg2 q2 => ⟨ds, g2, QD, i1.mono k2.kp, i2, rg2, q2, (cc.mono k1).mono k2⟩⟩, ce.mono k1⟩
  rw [star_cons hp] at hA ⊢
  refine Calls.callWith_builtin (by rfl) (Calls.evalArgs_plain ?_)
  exact thn hA fun us s2 ⟨vs, H2, I2, r2, q2⟩ => mt_cnt KC F hr he pins s2 σ H2 v vs ov us Q I2 r1 r2 q2
end
end Cn

namespace Cn
open PySem PySem.Spec PyProof.Rows L2

/-! ### calls -/
/-- a built-in function or type that is served -/
inductive Bk where
  | b (id : String) | t (id : String)
def Bk.v : Bk → Value
  | .b i => .builtin i
  | .t i => .type i
def bltT (Γ : Sig) (m : Bool) : List (Str × (Bk × DOL)) := [("repr", (.b "repr", oRepr Γ.gm Γ.w)), ("len", (.b "len", oLen)), ("isinstance", (.b "isinstance", oIsi)), ("all", (.b "all", oAll)), ("any", (.b "any", oAny)), ("sum", (.b "sum", oSum)), ("abs", (.b "abs", oAbs)), ("max", (.b "max", oMax)), ("min", (.b "min", oMin)), ("int", (.t "int", oInt)), ("str", (.t "str", oStr)), ("tuple", (.t "tuple", oTuple)), ("list", (.t "list", oList m)), ("dict", (.t "dict", oDctP m)), ("sorted", (.b "sorted", oSorted m))]
def bltOp (Γ : Sig) (m : Bool) (x : Str) : Option (Bk × DOL) := lkS x (bltT Γ m)
def nonNil {α : Type} : List α → Bool
  | [] => false
  | _ :: _ => true
/-- sorted(xs, key=f) -/
def nSorted : Str := "sorted"
def nKey : Str := "key"
def cSrt (Γ : Sig) (sc : Sc) (p : Pk) (m : Bool) (f : Expr) (es : List Expr) (kws : List Keyword) : Option DTE := match f, es, kws with
  | .Name x _, [a], [⟨some y, .Name z _, _⟩] => (match eqS x nSorted, eqS y nKey, isGl sc x, memS x Γ.blts, plainArg a, isVs sc z, isGl sc z, lkS z Γ.fns with
    | true, true, true, true, true, false, true, some f => some (dSortK m f (p.e sc a))
    | _, _, _, _, _, _, _, _ => none)
  | _, _, _ => none
def nCount : Str := "count"
/-- x.count(y) where classes of the text have their own == -/
def cCntO (Γ : Sig) (sc : Sc) (p : Pk) (f : Expr) (es : List Expr) (kws : List Keyword) (pos : Pos) : Option DTE := match Γ.eqs, f, es, kws with
  | _ :: _, .Attribute o x apos, [e], [] => (match plainBase o, Nat.beq apos.endLine pos.line, eqS x nCount, plainArg e with
    | true, true, true, true => some (dCntO Γ.et (p.e sc o) (p.e sc e))
    | _, _, _, _ => none)
  | _, _, _, _ => none
/-- str, len, bool where classes of the text have their own __str__, __len__ -/
def ownBl (Γ : Sig) (x : Str) : Option (Bk × (Cal → DOL)) := match Γ.sts, Γ.lns with
  | [], [] => none
  | _, _ => lkS x [("str", (.t "str", strO Γ.st)), ("len", (.b "len", lenO Γ.ln)), ("bool", (.t "bool", bolO Γ.ln))]
/-- a def called through a variable -/
def fnK (fs : List Nat) (ts : List DTE) (d : D) : DTE := fun C ρ g Q E => match d with
  | .fn f => memN f fs = true ∧ dArgs ts C ρ g (fun ds g1 => C f ds [] g1 Q E) E
  | _ => False
def dCallV (fs : List Nat) (i : Nat) (ts : List DTE) : DTE := fun C ρ g Q E => dVar i C ρ g (fun d g1 => fnK fs ts d C ρ g1 Q E) E
/-- the defs that may be called so -/
def fnIds (Γ : Sig) : List Nat := (Γ.fns.filter fun q => match lkS q.1 Γ.fns with
  | some f => Nat.beq f q.2
  | none => false).map (·.2)
section
variable {X : Cx} {T : Tab} {C : Cal} {W : WX} {pos p : Pos} {ts : List DTE} {es : List Expr}
theorem de_callV {gm : Option Nat} {k i : Nat} {x : Str} {fs : List Nat} (hr : RmX gm T k X) (tk : Takes X W) (F : ∀ f, memN f fs = true → CalOk gm T X.prog X.w X.K X.mg X.base k (T.fA f) (C f) ∧ PySem.W.keepIn X.K (.ref (T.fA f)) = true)
    (hN : X.N[i]? = some x) (hv : Vis X.env.scope x) (hd : (x == ("__debug__" : Str)) = false) (hcd : (x == ("__classdict__" : Str)) = false) (hl : ts.length = es.length) (hp : es.all plainArg = true) (ha : PA X es (LA T X.K C W ts)) :
    PE X (.Call (.Name x p) es [] pos) (LE T X.K C W (dCallV fs i ts)) := by
  refine ⟨fun pins s σ H Q I ⟨ρ, g, QD, ED, rs, rg, h, c, ce⟩ => ?_⟩
  unfold dCallV dVar getS at h
  split at h
  · rename_i d e
    obtain ⟨v, e1, i1⟩ := rs.at_ i d e
    unfold fnK at h
    dsimp only at h
    split at h
    · rename_i f
      obtain ⟨hf, h⟩ := h
      obtain ⟨F1, hk⟩ := F f hf
      simp only [Is] at i1
      subst i1
      refine wpAny_Call_Name_kw (thn ((pe_var (pos := p) hN hv hd hcd).run pins s σ H (fun v H1 => v = .ref (T.fA f) ∧ H1 = H) I ⟨.ref (T.fA f), e1, rfl, rfl⟩) fun u s1 ⟨v, H1, I1, r1, q1⟩ => ?_)
      obtain ⟨rfl, rfl⟩ := q1
      cases r1
      refine call_with (first := []) (ks := []) (kws := []) (tks := []) hk hl hp rfl ha dk_nil I1 rs rg (QD := fun ds es g2 => C f ds (([] : List Nat).zip es) g2 QD ED) h ce fun us ws vs zs ds es' H' g' s' k' I' r rz i iz rg' q => ?_
      exact run_cal F1 hr tk I' r rz ⟨ds, es', g', QD, ED, i, iz, rg', q, c.mono k', ce.mono k'⟩
    · exact h.elim
  · exact h.elim
end
def cCall (Γ : Sig) (N : List Str) (sc : Sc) (p : Pk) (m : Bool) (f : Expr) (es : List Expr) (kws : List Keyword) (pos : Pos) : DTE :=
  match cSrt Γ sc p m f es kws with
  | some t => t
  | none => match cCntO Γ sc p f es kws pos with
  | some t => t
  | none => match es.all plainArg with
  | true => (match f with
    | .Name x _ => (match isGl sc x with
      | true => (match lkS x Γ.fns, kwIx kws with
        | some f, some ks => dCall f (es.map (p.e sc)) ks (kws.map fun k => p.e sc k.value)
        | some _, none => dStop
        | none, some ks => (match lkS x Γ.clss with
          | some c => (match Γ.mks.lookup c with
            | some q => dMake c q.1 q.2 (es.map (p.e sc)) ks (kws.map fun k => p.e sc k.value)
            | none => dStop)
          | none => (match nonNil es, kws, memS x Γ.blts, ownBl Γ x, bltOp Γ m x with
            | true, [], true, some q, _ => dOpsC q.2 (es.map (p.e sc))
            | true, [], true, none, some q => dOps q.2 (es.map (p.e sc))
            | _, _, _, _, _ => dStop))
        | none, none => dStop)
      | false => (match isVs sc x, ixS x N 0, kws with
        | true, some i, [] => dCallV (fnIds Γ) i (es.map (p.e sc))
        | _, _, _ => dStop))
    | .Attribute o x apos => (match plainBase o, Nat.blt (es.length + kws.length) 29, Nat.beq apos.endLine pos.line, nmIx x, kwIx kws with
      | true, true, true, some mm, some ks => dMeth Γ.mt mm (p.e sc o) (es.map (p.e sc)) ks (kws.map fun k => p.e sc k.value)
      | _, _, _, _, _ => dStop)
    | _ => dStop)
  | false => dStop
section
variable {X : Cx} {T : Tab} {Γ : Sig} {C : Cal} {N : List Str} {k : Nat} {sc : Sc} {W : WX} {pos : Pos} {p : Pk}
theorem bltOp_ok (hc : X.calm = true) (KC : ClsOk T X.K) (own : OwnRp Γ.w T X.prog X.w X.K X.mg X.base Γ.kR) (rm : RmX Γ.gm T k X) (hk : Γ.kR + 32 ≤ k) {m : Bool} {x : Str} {q : Bk × DOL} (h : bltOp Γ m x = some q) : bootBuiltins x = some q.1.v ∧ x ≠ "__name__" ∧ (x == ("__debug__" : Str)) = false ∧ CallR X q.1.v (LOL T X.K q.2) := by
  have all : ∀ y ∈ bltT Γ m, bootBuiltins y.1 = some y.2.1.v ∧ y.1 ≠ "__name__" ∧ (y.1 == ("__debug__" : Str)) = false ∧ CallR X y.2.1.v (LOL T X.K y.2.2) := by
    unfold bltT
    refine List.forall_mem_cons.mpr ⟨⟨boot_repr, (by decide : ("repr" : Str) ≠ "__name__"), (by decide : (("repr" : Str) == ("__debug__" : Str)) = false), cRepr KC own rm hk⟩, ?_⟩
    refine List.forall_mem_cons.mpr ⟨⟨boot_len, by decide, by decide, cLen⟩, ?_⟩
    refine List.forall_mem_cons.mpr ⟨⟨boot_isinstance, by decide, by decide, cIsi KC⟩, ?_⟩
    refine List.forall_mem_cons.mpr ⟨⟨boot_all, by decide, by decide, cAll hc⟩, ?_⟩
    refine List.forall_mem_cons.mpr ⟨⟨boot_any, by decide, by decide, cAny hc⟩, ?_⟩
    refine List.forall_mem_cons.mpr ⟨⟨boot_sum, by decide, by decide, cSum hc⟩, ?_⟩
    refine List.forall_mem_cons.mpr ⟨⟨boot_abs, by decide, by decide, cAbs⟩, ?_⟩
    refine List.forall_mem_cons.mpr ⟨⟨boot_max, by decide, by decide, cMax hc⟩, ?_⟩
    refine List.forall_mem_cons.mpr ⟨⟨boot_min, by decide, by decide, cMin hc⟩, ?_⟩
    refine List.forall_mem_cons.mpr ⟨⟨boot_int, by decide, by decide, cInt⟩, ?_⟩
    refine List.forall_mem_cons.mpr ⟨⟨boot_str, by decide, by decide, cStr⟩, ?_⟩
    refine List.forall_mem_cons.mpr ⟨⟨boot_tuple, by decide, by decide, cTuple⟩, ?_⟩
    refine List.forall_mem_cons.mpr ⟨⟨boot_list, (by decide : ("list" : Str) ≠ "__name__"), (by decide : (("list" : Str) == ("__debug__" : Str)) = false), cList⟩, ?_⟩
    refine List.forall_mem_cons.mpr ⟨⟨boot_dict, (by decide : ("dict" : Str) ≠ "__name__"), (by decide : (("dict" : Str) == ("__debug__" : Str)) = false), cDctP hc⟩, ?_⟩
    refine List.forall_mem_cons.mpr ⟨⟨boot_sorted, (by decide : ("sorted" : Str) ≠ "__name__"), (by decide : (("sorted" : Str) == ("__debug__" : Str)) = false), cSorted rm.rm.room.units⟩, ?_⟩
    exact fun y hy => by cases hy
  unfold bltOp at h
  rw [lkS_eq] at h
  exact all _ (PySem.mem_of_lookup h)
/-- a call of a built-in -/
theorem de_blt {b : Bk} {o : DOL} {x : Str} {e : Expr} {es : List Expr} {ts : List DTE} {p : Pos} (hc : CallR X b.v (LOL T X.K o)) (hg : Gl X x) (hm : X.mg x = none) (hv : bootBuiltins x = some b.v) (hn : x ≠ "__name__") (hdb : (x == ("__debug__" : Str)) = false)
    (hp : (e :: es).all plainArg = true) (ha : PA X (e :: es) (LA T X.K C W ts)) : PE X (.Call (.Name x p) (e :: es) [] pos) (LE T X.K C W (dOps o ts)) := by
  simp only [List.all_cons, Bool.and_eq_true] at hp
  refine de_ops (r := LOL T X.K o) (fun t ht => ?_) (fun _ _ _ q => q) ha
  cases b with
  | b id => exact pe_callB hc hg hm hv ht hn hdb (star_cons hp.1) (star_any hp.2)
  | t id => exact pe_callTy hc hg hm hv ht hn hdb (star_cons hp.1) (star_any hp.2)
theorem de_bltC {b : Bk} {o : Cal → DOL} {x : Str} {e : Expr} {es : List Expr} {ts : List DTE} {p : Pos} (hc : CallR X b.v (LOL T X.K (o C))) (hg : Gl X x) (hm : X.mg x = none) (hv : bootBuiltins x = some b.v) (hn : x ≠ "__name__") (hdb : (x == ("__debug__" : Str)) = false)
    (hp : (e :: es).all plainArg = true) (ha : PA X (e :: es) (LA T X.K C W ts)) : PE X (.Call (.Name x p) (e :: es) [] pos) (LE T X.K C W (dOpsC o ts)) := PE.imp (de_blt hc hg hm hv hn hdb hp ha) fun _ _ _ h => h
theorem ownBl_ok (G : GoodE T Γ C N k X sc W) {x : Str} {q : Bk × (Cal → DOL)} (h : ownBl Γ x = some q) : bootBuiltins x = some q.1.v ∧ x ≠ "__name__" ∧ (x == ("__debug__" : Str)) = false ∧ CallR X q.1.v (LOL T X.K (q.2 C)) := by
  have all : ∀ y ∈ ([("str", (.t "str", strO Γ.st)), ("len", (.b "len", lenO Γ.ln)), ("bool", (.t "bool", bolO Γ.ln))] : List (Str × (Bk × (Cal → DOL)))), bootBuiltins y.1 = some y.2.1.v ∧ y.1 ≠ "__name__" ∧ (y.1 == ("__debug__" : Str)) = false ∧ CallR X y.2.1.v (LOL T X.K (y.2.2 C)) := by
    refine List.forall_mem_cons.mpr ⟨⟨boot_str, (by decide : ("str" : Str) ≠ "__name__"), (by decide : (("str" : Str) == ("__debug__" : Str)) = false), cStrO G.cal G.rm2 G.sts⟩, ?_⟩
    refine List.forall_mem_cons.mpr ⟨⟨boot_len, (by decide : ("len" : Str) ≠ "__name__"), (by decide : (("len" : Str) == ("__debug__" : Str)) = false), cLenO G.cal G.rm2 G.lns⟩, ?_⟩
    refine List.forall_mem_cons.mpr ⟨⟨(by decide +kernel : bootBuiltins ("bool" : Str) = some (.type "bool")), (by decide : ("bool" : Str) ≠ "__name__"), (by decide : (("bool" : Str) == ("__debug__" : Str)) = false), cBolO G.cal G.rm2 G.lns⟩, ?_⟩
    exact fun y hy => by cases hy
  unfold ownBl at h
  split at h
  · cases h
  · rw [lkS_eq] at h
    exact all _ (PySem.mem_of_lookup h)
theorem cSrt_ok {m : Bool} (G : GoodE T Γ C N k X sc W) (P : PkOk Γ N p) {f : Expr} {es : List Expr} {kws : List Keyword} {t : DTE} (h : cSrt Γ sc p m f es kws = some t) : PE X (.Call f es kws pos) (LE T X.K C W t) := by
  unfold cSrt at h
  split at h
  · rename_i x px a y z pz pk
    split at h
    · rename_i fn h1 h2 h3 h4 h5 h6 h7 h8
      cases h
      obtain ⟨g1, g2⟩ := isGl_ok G h3
      obtain rfl := eqS_iff.mp h1
      obtain rfl := eqS_iff.mp h2
      rw [lkS_eq] at h8
      obtain ⟨f1, f2⟩ := G.fns _ _ h8
      obtain ⟨gz, gz2⟩ := isGl_ok G h7
      exact de_sortK (G.cal fn) G.rm2 g1 (G.blts _ (memS_ok h4)) boot_sorted (by decide) (by decide) h5 (P.e G a) (de_c (pe_glob (v := .ref (T.fA fn)) gz f1 rfl gz2) fun H => by simp only [Is])
    · cases h
  · cases h
theorem cCntO_ok (G : GoodE T Γ C N k X sc W) (P : PkOk Γ N p) {f : Expr} {es : List Expr} {kws : List Keyword} {t : DTE} (h : cCntO Γ sc p f es kws pos = some t) : PE X (.Call f es kws pos) (LE T X.K C W t) := by
  unfold cCntO at h
  split at h
  · rename_i o x apos e he
    split at h
    · rename_i h1 h2 h3 h4
      cases h
      obtain rfl := eqS_iff.mp h3
      exact de_cnt G.KC G.cal G.rm2 G.eqs h1 (beq_iff_eq.mpr (Nat.eq_of_beq_eq_true h2)) h4 (P.e G o) (cArgs_ok (P.e G) [e] (by simp [h4]))
    · cases h
  · cases h
theorem fnIds_ok {f : Nat} (h : memN f (fnIds Γ) = true) : ∃ x, Γ.fns.lookup x = some f := by
  unfold memN at h
  obtain ⟨b, hb, e⟩ := List.any_eq_true.mp h
  have e' := Nat.eq_of_beq_eq_true e
  subst e'
  unfold fnIds at hb
  obtain ⟨q, hq, rfl⟩ := List.mem_map.mp hb
  have h2 := (List.mem_filter.mp hq).2
  split at h2
  · rename_i g hg
    rw [lkS_eq] at hg
    exact ⟨q.1, by rw [hg, Nat.eq_of_beq_eq_true h2]⟩
  · cases h2
theorem cCall_ok {m : Bool} (G : GoodE T Γ C N k X sc W) (P : PkOk Γ N p) (f : Expr) (es : List Expr) (kws : List Keyword) : PE X (.Call f es kws pos) (LE T X.K C W (cCall Γ N sc p m f es kws pos)) := by
  unfold cCall
  split
  · rename_i t ht
    exact cSrt_ok G P ht
  rename_i hnone
  clear hnone
  split
  · rename_i t ht
    exact cCntO_ok G P ht
  rename_i hnone
  clear hnone
  split
  · rename_i hp
    have ha := cArgs_ok (P.e G) es hp
    have hb := cKws_ok (P.e G) kws
    split
    · split
      · rename_i hg
        obtain ⟨g1, g2⟩ := isGl_ok G hg
        split
        · rename_i f ks hf hk
          rw [lkS_eq] at hf
          obtain ⟨f1, f2⟩ := G.fns _ _ hf
          exact de_call G.rk G.tk (G.cal f) g1 f1 f2 g2 (by rw [List.length_map]) hp (kwIx_ok hk) ha hb
        · exact de_stop
        · rename_i ks hf hk
          split
          · rename_i c hc
            split
            · rename_i q hq
              rw [lkS_eq] at hc
              obtain ⟨c1, c2⟩ := G.mks _ _ hq
              exact de_make G.rm G.tk (G.cal q.1) c2 c1 g1 (G.clss _ _ hc).1 g2 (by rw [List.length_map]) hp (kwIx_ok hk) ha hb
            · exact de_stop
          · split
            · rename_i q _ hn hbl hq
              cases es with
              | nil => cases hn
              | cons e es =>
                obtain ⟨b1, b2, b3, b4⟩ := ownBl_ok G hq
                exact de_bltC b4 g1 (G.blts _ (memS_ok hbl)) b1 b2 b3 hp ha
            · rename_i q hn hbl _ hq
              cases es with
              | nil => cases hn
              | cons e es =>
                obtain ⟨b1, b2, b3, b4⟩ := bltOp_ok G.calm G.KC G.rp G.rk G.hk hq
                exact de_blt b4 g1 (G.blts _ (memS_ok hbl)) b1 b2 b3 hp ha
            · exact de_stop
        · exact de_stop
      · split
        · rename_i i hv hi
          obtain ⟨v1, v2, v3⟩ := isVs_ok G hv
          refine de_callV G.rk G.tk (fun f hf => ⟨G.cal f, ?_⟩) (by rw [G.hN]; exact ixS_at hi) v1 v2 v3 (by rw [List.length_map]) hp ha
          obtain ⟨q, hq⟩ := fnIds_ok hf
          exact (G.fns _ _ hq).2
        · exact de_stop
    · rename_i o x apos
      split
      · rename_i mm ks h1 h2 h3 h4 h5
        have hk := kwIx_ok h5
        refine de_meth G.rk G.tk G.cal G.KC (fun c f o q => G.mth c mm f o q) (fun d g o q => bmt_ok q) (nmIx_ok h4) h1 ?_ ?_ (by rw [List.length_map]) (klen hk) hp hk (P.e G o) ha hb
        · exact Nat.le_of_ble_eq_true h2
        · exact beq_iff_eq.mpr (Nat.eq_of_beq_eq_true h3)
      · exact de_stop
    · exact de_stop
  · exact de_stop
end

/-! ### one step of the nodes -/
def cSl (Γ : Sig) (sc : Sc) (p : Pk) (m : Bool) (a : Expr) (lo hi : Option Expr) : DTE := dSl m (p.e sc a) (lo.map (p.e sc)) (hi.map (p.e sc))
def stepE (Γ : Sig) (N : List Str) (p : Pk) (sc : Sc) (e : Expr) : DTE := match e with
  | .Constant c _ _ => cConst c
  | .Name x _ => cName Γ N sc x
  | .BinOp a op b pos => cBin (mutAt Γ pos) op (p.e sc a) (p.e sc b)
  | .UnaryOp .Not a _ => (match Γ.lns with
    | [] => dNotV (p.e sc a)
    | _ :: _ => dNotVO Γ.ln (p.e sc a))
  | .UnaryOp .USub a _ => dUn oNeg (p.e sc a)
  | .BoolOp .And vs _ => cAndV (vs.map (p.e sc))
  | .BoolOp .Or vs _ => cOrV (vs.map (p.e sc))
  | .IfExp c a b _ => dIf (p.t sc c) (p.e sc a) (p.e sc b)
  | .Compare a ops cs _ => cCmp Γ a (p.e sc) ops cs
  | .Tuple es _ _ => (match es.all plainArg with
    | true => dOps oTup (es.map (p.e sc))
    | false => dStop)
  | .List es pos => (match es.all plainArg with
    | true => dOps (oLst (mutAt Γ pos)) (es.map (p.e sc))
    | false => dStop)
  | .Attribute o x _ => (match plainBase o, nmIx x with
    | true, some f => dUn (oAttr f) (p.e sc o)
    | _, _ => dStop)
  | .Subscript a i pos => (match i with
    | .Slice lo hi none _ => cSl Γ sc p (mutAt Γ pos) a lo hi
    | .Slice none none (some (.UnaryOp .USub (.Constant (.int (.ofNat 1)) _ _) _)) _ => dUn (oRev (mutAt Γ pos)) (p.e sc a)
    | i => (match plainIx i with
      | true => dBin oIx (p.e sc a) (p.e sc i)
      | false => dStop))
  | .ListComp elt [⟨tg, iter, ifs, 0⟩] scope pos => cComp Γ N sc p (mutAt Γ pos) elt tg iter ifs scope
  | .Dict ks vs pos => cDct (mutAt Γ pos) (p.e sc) ks vs
  | .Call f es kws pos => cCall Γ N sc p (mutAt Γ pos) f es kws pos
  | .FormattedValue e cv none _ => (match cv with
    | .negSucc 0 => (match Γ.sts with
      | [] => dFmt (p.e sc e)
      | _ :: _ => dFmtO Γ.st (p.e sc e))
    | .ofNat 114 => dFmtR Γ.gm Γ.w (p.e sc e)
    | _ => dStop)
  | .JoinedStr vs _ => (match vs with
    | [] => dStop
    | [v] => p.e sc v
    | v1 :: v2 :: rest => dJoin ((v1 :: v2 :: rest).map (p.e sc)))
  | _ => dStop
def stepT (Γ : Sig) (N : List Str) (p : Pk) (sc : Sc) (e : Expr) : DTT := match e with
  | .UnaryOp .Not a _ => dNot (p.t sc a)
  | .BoolOp .And vs _ => cAndT (vs.map (p.t sc))
  | .BoolOp .Or vs _ => cOrT (vs.map (p.t sc))
  | .Compare a ops cs _ => cCmpT Γ a (p.e sc) ops cs
  | .IfExp _ _ _ _ => dStopT
  | e => (match Γ.lns with
    | [] => dTru (stepE Γ N p sc e)
    | _ :: _ => dTruO Γ.ln (stepE Γ N p sc e))
def lvl (Γ : Sig) (N : List Str) : Nat → Pk
  | 0 => ⟨fun _ _ => dStop, fun _ _ => dStopT⟩
  | n + 1 => ⟨stepE Γ N (lvl Γ N n), stepT Γ N (lvl Γ N n)⟩
section
variable {X : Cx} {T : Tab} {Γ : Sig} {C : Cal} {N : List Str} {k : Nat} {sc : Sc} {W : WX} {pos : Pos} {p : Pk}
theorem cOpt_ok {f : Expr → DTE} (h : ∀ e, PE X e (LE T X.K C W (f e))) : ∀ o : Option Expr, PO X o (LPt T X.K C W (o.map f))
  | none => dp_none
  | some e => dp_some (h e)
theorem stepE_ok (G : GoodE T Γ C N k X sc W) (P : PkOk Γ N p) (e : Expr) : PE X e (LE T X.K C W (stepE Γ N p sc e)) := by
  unfold stepE
  split
  · exact cConst_ok
  · exact cName_ok G
  · exact cBin_ok (P.e G _) (P.e G _)
  · split
    · exact de_notV (P.e G _)
    · exact de_notVO G.cal G.rm2 G.lns (P.e G _)
  · exact de_neg (P.e G _)
  · exact cAndV_ok (P.e G) _
  · exact cOrV_ok (P.e G) _
  · exact de_if (P.t G _) (P.e G _) (P.e G _)
  · exact cCmp_ok G (P.e G)
  · split
    · rename_i hp
      exact de_tup (cArgs_ok (P.e G) _ hp)
    · exact de_stop
  · split
    · rename_i hp
      exact de_lst (cArgs_ok (P.e G) _ hp)
    · exact de_stop
  · split
    · rename_i h1 h2
      exact de_attr G.KC (nmIx_ok h2) h1 (P.e G _)
    · exact de_stop
  · split
    · exact de_sl (P.e G _) (cOpt_ok (P.e G) _) (cOpt_ok (P.e G) _)
    · exact de_rev (P.e G _)
    · split
      · rename_i h
        exact de_ix G.rm.rm.room.units h (P.e G _) (P.e G _)
      · exact de_stop
  · exact cComp_ok G P _ _ _ _ _
  · exact cDct_ok (P.e G) _ _
  · exact cCall_ok G P _ _ _
  · split
    · split
      · exact de_fmt (P.e G _)
      · exact de_fmtO G.cal G.rm2 G.sts (P.e G _)
    · exact de_fmtR G.KC G.rp G.rk G.hk (P.e G _)
    · exact de_stop
  · split
    · exact de_stop
    · exact de_join1 (P.e G _)
    · exact de_join (P.e G)
  · exact de_stop
theorem stepT_ok (G : GoodE T Γ C N k X sc W) (P : PkOk Γ N p) (e : Expr) : PT X e (LT T X.K C W (stepT Γ N p sc e)) := by
  unfold stepT
  split
  · exact dt_not (P.t G _)
  · exact (cAndT_ok (P.t G) _).pt
  · exact (cOrT_ok (P.t G) _).pt
  · exact cCmpT_ok G (P.e G)
  · exact dt_stop
  · rename_i h1 h2 h3 h4 h5
    have hpl : plainT e = true := ?hpl
    · split
      · exact dt_tru hpl (stepE_ok G P e)
      · exact dt_truO G.cal G.rm2 G.lns hpl (stepE_ok G P e)
    unfold plainT
    split
    · rename_i a b; exact absurd rfl (h1 a b)
    · rename_i op vs b
      cases op
      · exact absurd rfl (h2 vs b)
      · exact absurd rfl (h3 vs b)
    · rename_i a b c d; exact absurd rfl (h5 a b c d)
    · rename_i a b c d; exact absurd rfl (h4 a b c d)
    · rfl
theorem lvl_ok (Γ : Sig) (N : List Str) : ∀ n, PkOk Γ N (lvl Γ N n)
  | 0 => ⟨fun _ _ => de_stop, fun _ _ => dt_stop⟩
  | n + 1 => ⟨fun G e => stepE_ok G (lvl_ok Γ N n) e, fun G e => stepT_ok G (lvl_ok Γ N n) e⟩
end
end Cn

namespace Cn
open PySem PySem.Spec PyProof.Rows L2

/-! ## Z. Statements, from the text -/
/-- frozen behind the statement -/
def frzN (nx : L2.St → Hp → Prop) : L2.St → Hp → Prop := fun σ H => ∃ a u, H a = some u ∧ Soft u ∧ ∀ ob, nx σ (upd H a (.frz ob u))
theorem PS.frz {X : Cx} {st : Stmt} {t : TS} (h : PS X st t) : PS X st (fun Dn σ H => t { Dn with nx := frzN Dn.nx } σ H) := ⟨fun pins s σ H Dn I q => thn (h.run pins s σ H _ I q) fun f s1 z => by
  cases f with
  | next =>
    obtain ⟨σ', H', I', a, u, ha, so, q'⟩ := z
    obtain ⟨ob, ho⟩ := obj_of I'.hok ha so
    exact ⟨σ', _, Cn.Inv.freeze I' ha so ho, q' ob⟩
  | brk => exact z
  | cont => exact z
  | ret v => exact z⟩
section
variable {X : Cx} {T : Tab} {C : Cal} {W : WX} {pos : Pos}
theorem ds_setLc {m : Bool} {i : Nat} {y : Str} {py : Pos} {elt tg iter : Expr} {ifs : List Expr} {scope : Scope} {own : List (Str × Nat)} {spos : Pos} {s : DSrc} {t : Tg} {tt : DTT} {te : DTE} (hc : X.calm = true) (hN : X.N.Nodup) (hy : X.N[i]? = some y) (hyl : X.env.scope.names.lookup y = some .local)
    (hsw : swapsWith (.ListComp elt [⟨tg, iter, ifs, 0⟩] scope pos) (some (.Name y py)) spos.line X.env = pure true) (hi : PI X tg iter (LI T X.K C W s)) (ok : BlkOk X.N X.env.scope scope own)
    (hg : ∀ (s : Shared) (H : Hp) (C : Addr) (cl : List (Str × Addr)) (fp : List Addr), PG (X.blk s H scope (compEnvC scope cl C X.env) fp) tg (LG T X.K t)) (ht : ∀ (s : Shared) (H : Hp) (C' : Addr) (cl : List (Str × Addr)) (fp : List Addr), PTs (X.blk s H scope (compEnvC scope cl C' X.env) fp) ifs (LT T X.K C noW tt))
    (he : ∀ (s : Shared) (H : Hp) (C' : Addr) (cl : List (Str × Addr)) (fp : List Addr), PE (X.blk s H scope (compEnvC scope cl C' X.env) fp) elt (LE T X.K C noW te)) (hs : ∀ x, foldedSetIterable iter X.env x = pure x) (hv : ∀ i ∈ t.slots, i ∈ own.map (·.2)) :
    PS X (.Assign [.Name y py] (.ListComp elt [⟨tg, iter, ifs, 0⟩] scope pos) spos) (LS T X.K C W (dAsg (.nm i) (dComp m (own.map (·.2)) s t tt te))) := by
  have base := ps_setLc (spos := spos) (py := py) hc hN hy hyl hsw hi ok hg ht he hs
  have ct : ∀ {ρ : R} {g : G} {DD : DE} {Dn : Ends} {σ : L2.St} {H : Hp}, RS T X.K H ρ σ → CtS T X.K g H W DD Dn → Ct T X.K g H (fun d g1 => asgT (.nm i) d ρ fun ρ1 => DD.nx ρ1 g1) (fun v H1 => Dn.nx (σ.set i (some v)) H1) := fun rs c => ⟨fun v d H1 g1 k1 i1 rg1 h1 => by
    simp only [asgT] at h1
    exact c.nx _ _ _ _ k1 ((rs.mono k1.kp).set i i1) rg1 h1⟩
  cases m with
  | true =>
    refine PS.imp base fun Dn σ H ⟨ρ, g, DD, rs, rg, h, c⟩ => ?_
    exact ⟨ρ, g, _, _, rs, rg, h, fun J its ok g1 H1 k1 rg1 sr o1 h1 D hD => lc_walk (m := true) hv k1 rs rg1 sr o1 hD (ct rs c) h1, c.exE rs⟩
  | false =>
    refine PS.imp (PS.frz base) fun Dn σ H ⟨ρ, g, DD, rs, rg, h, c⟩ => ?_
    refine ⟨ρ, g, _, _, rs, rg, h, fun J its ok g1 H1 k1 rg1 sr o1 h1 D hD => ?_, c.exE rs⟩
    obtain ⟨WW, w0, turn⟩ := lc_walk (m := false) hv k1 rs rg1 sr o1 hD (ct rs c) h1
    refine ⟨WW, w0, fun j n H w => (turn j n H w).imp_left fun ⟨s1, a, u, _, h2, h3, h4⟩ => ⟨s1, a, u, h2, h3, h4⟩⟩
end

/-! ### what a plain assignment asks -/
def isComp : Expr → Bool
  | .ListComp _ _ _ _ => true
  | .SetComp _ _ _ _ => true
  | .DictComp _ _ _ _ _ => true
  | _ => false
theorem sw_plain {e : Expr} {t : Option Expr} {l : Nat} {env : Env} (h : isComp e = false) : swapsWith e t l env = pure false := by
  cases e <;> first | rfl | cases h
def isNm : Expr → Bool
  | .Name _ _ => true
  | _ => false
theorem sw_tgt {e t : Expr} {l : Nat} {env : Env} (h : isNm t = false) : swapsWith e (some t) l env = pure false := by
  cases t <;> first | (cases h; done) | (cases e <;> rfl)
def isLC : NameKind → Bool
  | .local => true
  | .cell => true
  | _ => false
def swB (sc : Scope) (t : Str) (pt : Pos) (scope : Scope) (p : Pos) : Bool := (match lkS t sc.names with
  | some .local => true
  | _ => false).and ((Nat.beq pt.line p.line).and (!(scope.names.any fun y => (eqS y.1 t).and (isLC y.2))))
theorem eqS_beq (a b : Str) : (a == b) = eqS a b := by
  cases e : eqS a b with
  | true => rw [eqS_iff.mp e]; exact beq_self_eq_true _
  | false => exact beq_eq_false_iff_ne.mpr fun z => by rw [eqS_iff.mpr z] at e; cases e
theorem sw_lc {elt : Expr} {gs : List Comprehension} {scope : Scope} {p pt : Pos} {t : Str} {l : Nat} {env : Env} (hk : env.scope.kind = .function) :
    swapsWith (.ListComp elt gs scope p) (some (.Name t pt)) l env = pure (swB env.scope t pt scope p) := by
  have e1 : swapsWith (.ListComp elt gs scope p) (some (.Name t pt)) l env = pure (env.blockKind == .function && env.kindOf t == some .local && pt.line == p.line && !(scope.names.any fun y => y.1 == t && (y.2 == .local || y.2 == .cell))) := rfl
  rw [e1]
  have hb : env.blockKind = .function := by unfold Env.blockKind; rw [hk]; rfl
  have h2 : (env.kindOf t == some .local) = (match lkS t env.scope.names with
    | some .local => true
    | _ => false) := by
    rw [lkS_eq]
    unfold Env.kindOf
    split
    · rename_i e; rw [e]; rfl
    · rename_i h
      exact beq_eq_false_iff_ne.mpr h
  have h3 : ∀ k : NameKind, (k == .local || k == .cell) = isLC k := fun k => by cases k <;> rfl
  have h4 : (scope.names.any fun y => y.1 == t && (y.2 == .local || y.2 == .cell)) = scope.names.any fun y => (eqS y.1 t).and (isLC y.2) := by
    congr 1
    funext y
    rw [eqS_beq, h3]
  have h5 : (pt.line == p.line) = Nat.beq pt.line p.line := by
    cases e : Nat.beq pt.line p.line with
    | true => rw [Nat.eq_of_beq_eq_true e]; exact beq_self_eq_true _
    | false => exact beq_eq_false_iff_ne.mpr fun z => by rw [z, Nat.beq_refl] at e; cases e
  rw [hb, h2, h4, h5]
  unfold swB
  show pure (true && _ && _ && _) = _
  rw [Bool.true_and, Bool.and_assoc]
theorem ss_plain {ts : List Expr} {k : Nat} {p : Pos} {e : Expr} {env : Env} (h : (match e with
  | .Tuple _ _ _ => false
  | _ => true) = true) : swappedStores [.Tuple ts k p] e env = pure none := by
  cases e <;> first | rfl | cases h
theorem ss_name {t e : Expr} {env : Env} (h : (match t with
  | .Tuple _ _ _ => false
  | .List _ _ => false
  | _ => true) = true) : swappedStores [t] e env = pure none := by
  cases t <;> first | rfl | (cases h; done) | (cases e <;> rfl)
def isStar : Expr → Bool
  | .Starred _ _ => true
  | _ => false
theorem plain_star {es : List Expr} (h : es.all plainArg = true) : (es.any fun | .Starred .. => true | _ => false) = false := by
  induction es with
  | nil => rfl
  | cons e es ih =>
    simp only [List.all_cons, Bool.and_eq_true] at h
    simp only [List.any_cons, ih h.2, Bool.or_false]
    cases e <;> first | rfl | (cases h.1; done)
theorem ss_len {ts vs : List Expr} {k k2 : Nat} {p p2 : Pos} {env : Env} (h : (ts.length == 2 || ts.length == 3) = false) : swappedStores [.Tuple ts k p] (.Tuple vs k2 p2) env = pure none := by
  unfold swappedStores
  simp only [h, Bool.not_false, Bool.true_or, if_true]
def lcl (sc : Scope) (x : Str) : Bool := match lkS x sc.names with
  | some .local => true
  | _ => false
theorem lcl_ok {sc : Scope} {x : Str} (h : lcl sc x = true) : sc.names.lookup x = some .local := by
  unfold lcl at h
  rw [lkS_eq] at h
  split at h
  · assumption
  · cases h
theorem no_star {e : Expr} : plainArg e = true → ¬ ((match e with
  | .Starred .. => true
  | _ => false) = true) := by
  intro h
  cases e <;> first | (cases h; done) | (intro z; cases z)
theorem ss_two {x y : Str} {a b : Expr} {k k2 : Nat} {p p2 px py : Pos} {env : Env} (hk : env.scope.kind = .function) (hx : lcl env.scope x = true) (hy : lcl env.scope y = true) (hl : Nat.beq py.line px.line = true) (hn : eqS y x = false) (hp : [a, b].all plainArg = true)
    (h1 : [a, b].all (foldedForSure 8) = false) (h2 : [a, b].all (constantsAlone 8) = false) :
    swappedStores [.Tuple [.Name x px, .Name y py] k p] (.Tuple [a, b] k2 p2) env = pure (some [x, y]) := by
  have hb : env.blockKind = .function := by unfold Env.blockKind; rw [hk]; rfl
  have e1 : env.kindOf x = some .local := lcl_ok hx
  have e2 : env.kindOf y = some .local := lcl_ok hy
  have e3 : py.line = px.line := Nat.eq_of_beq_eq_true hl
  have e4 : (y == x) = false := by rw [eqS_beq]; exact hn
  unfold swappedStores
  have hst := plain_star hp
  simp only [List.any_cons, List.any_nil, List.all_cons, List.all_nil, Bool.or_false, Bool.and_true] at hst h1 h2
  have ed : [x, y].eraseDups.length = 2 := by
    have q : x ≠ y := fun z => by rw [z] at e4; simp at e4
    simp [List.eraseDups, List.eraseDupsBy, List.eraseDupsBy.loop, e4]
  simp only [List.all_cons, Bool.and_eq_true] at hp
  simp [hb, e1, e2, e3, h1, h2, ed, Expr.pos]
  intro z
  rcases z with z | z
  · exact absurd z (no_star hp.1)
  · exact absurd z (no_star hp.2.1)
theorem ss_three {x y z : Str} {a b c : Expr} {k k2 : Nat} {p p2 px py pz : Pos} {env : Env} (hk : env.scope.kind = .function) (hx : lcl env.scope x = true) (hy : lcl env.scope y = true) (hz : lcl env.scope z = true) (hl : Nat.beq py.line px.line = true) (hl2 : Nat.beq pz.line px.line = true)
    (hn : eqS y x = false) (hn2 : eqS z x = false) (hn3 : eqS z y = false) (hp : [a, b, c].all plainArg = true) (h1 : [a, b, c].all (foldedForSure 8) = false) (h2 : [a, b, c].all (constantsAlone 8) = false) :
    swappedStores [.Tuple [.Name x px, .Name y py, .Name z pz] k p] (.Tuple [a, b, c] k2 p2) env = pure (some [x, y, z]) := by
  have hb : env.blockKind = .function := by unfold Env.blockKind; rw [hk]; rfl
  have e1 : env.kindOf x = some .local := lcl_ok hx
  have e2 : env.kindOf y = some .local := lcl_ok hy
  have e2z : env.kindOf z = some .local := lcl_ok hz
  have e3 : py.line = px.line := Nat.eq_of_beq_eq_true hl
  have e3z : pz.line = px.line := Nat.eq_of_beq_eq_true hl2
  have e4 : (y == x) = false := by rw [eqS_beq]; exact hn
  have e5 : (z == x) = false := by rw [eqS_beq]; exact hn2
  have e6 : (z == y) = false := by rw [eqS_beq]; exact hn3
  unfold swappedStores
  have hst := plain_star hp
  simp only [List.any_cons, List.any_nil, List.all_cons, List.all_nil, Bool.or_false, Bool.and_true] at hst h1 h2
  have ed : [x, y, z].eraseDups.length = 3 := by
    simp [List.eraseDups, List.eraseDupsBy, List.eraseDupsBy.loop, e4, e5, e6]
  simp only [List.all_cons, Bool.and_eq_true] at hp
  simp [hb, e1, e2, e2z, e3, e3z, h1, h2, ed, Expr.pos]
  intro z
  rcases z with z | z | z
  · exact absurd z (no_star hp.1)
  · exact absurd z (no_star hp.2.1)
  · exact absurd z (no_star hp.2.2.1)
theorem ss_const {ts vs : List Expr} {k k2 : Nat} {p p2 : Pos} {env : Env} (hp : vs.all plainArg = true) (h1 : vs.all (foldedForSure 8) = true) : swappedStores [.Tuple ts k p] (.Tuple vs k2 p2) env = pure none := by
  unfold swappedStores
  have hst := plain_star hp
  simp only [hst, h1]
  simp
end Cn

namespace Cn
open PySem PySem.Spec PyProof.Rows L2

/-! ## AA. Binding -/
theorem forIn_yield {σ α : Type} {f : α → σ → Sem (ForInStep σ)} (step : σ → α → σ) : ∀ (l : List α) (s : σ), (∀ pre a post, l = pre ++ a :: post → f a (pre.foldl step s) = pure (.yield (step (pre.foldl step s) a))) → forIn l s f = pure (l.foldl step s)
  | [], s, _ => rfl
  | a :: l, s, h => by
    rw [List.forIn_cons, show f a s = _ from h [] a l rfl]
    show (pure (ForInStep.yield _) >>= _) = _
    rw [pure_bind]
    exact forIn_yield step l _ fun pre b post e => h (a :: pre) b post (by rw [e]; rfl)
def dfStep {α : Type} (sl : List (Str × α)) (q : Str × α) : List (Str × α) := if (sl.lookup q.1).isNone then sl ++ [q] else sl
theorem foldl_app {α β : Type} : ∀ (l : List (Str × α)) (s : List (Str × α) × β), l.foldl (fun s x => (s.1 ++ [(x.1, x.2)], s.2)) s = (s.1 ++ l, s.2)
  | [], s => by simp
  | x :: l, s => by rw [List.foldl_cons, foldl_app l]; simp
theorem foldl_df {α : Type} (n : Str) : ∀ (l sl : List (Str × α)), (l.foldl dfStep sl).lookup n = (sl.lookup n).or (l.lookup n)
  | [], sl => by simp
  | (m, x) :: l, sl => by
    rw [List.foldl_cons, foldl_df n l]
    unfold dfStep
    by_cases e : n = m
    · subst e
      cases h : sl.lookup n with
      | none => simp [h, List.lookup_append, List.lookup]
      | some y => simp [h]
    · have hb : (n == m) = false := beq_eq_false_iff_ne.mpr e
      split
      · rw [List.lookup_append]
        simp [List.lookup, hb]
      · simp [List.lookup, hb]
/-- what bindArgs gives, by values -/
theorem bind_val {fd : FuncData} {us : List Value} {kw : List (Str × Value)} {args : List Arg} {dl : List Expr} {ps : List Str} {its : List Value} (hp : fd.params = ⟨[], args, none, [], [], none, dl⟩) (hps : args.map (·.arg) = ps)
    (hlen : us.length ≤ ps.length) (hdl : its.length ≤ ps.length) (hkn : ∀ q ∈ kw, q.1 ∈ ps) (hnd : (kw.map (·.1)).Nodup) (hdis : ∀ q ∈ kw, (ps.zip us).lookup q.1 = none)
    (hmis : ∀ n ∈ ps.take (ps.length - its.length), (((ps.zip us) ++ kw).lookup n).isSome = true) :
    ∃ k : Option (Array Value) → Sem (List (Str × Value)), bindArgs fd ⟨us, kw⟩ = seqItems? fd.defaults >>= k ∧ ∀ o : Option (Array Value), (o.getD #[]).toList = its →
      k o = pure (ps.filterMap fun n => ((((ps.drop (ps.length - its.length)).zip its).foldl dfStep (ps.zip us ++ kw)).lookup n).map (n, ·)) := by
  unfold bindArgs
  rw [hp]
  simp only [List.map_nil, List.nil_append, Option.isSome_none, Option.isNone_none, hps]
  rw [forIn_yield (fun s x => (s.1 ++ [(x.1, x.2)], s.2)) kw _ fun pre a post e => by
    have hm : a ∈ kw := by rw [e]; simp
    have h1 : ps.contains a.1 = true := by rw [List.contains_eq_mem]; exact decide_eq_true (hkn a hm)
    rw [foldl_app]
    have h2 : (ps.zip us ++ pre).lookup a.1 = none := by
      rw [List.lookup_append, hdis a hm, Option.none_or]
      rw [e] at hnd
      simp only [List.map_append, List.map_cons, List.nodup_append, List.nodup_cons] at hnd
      have : a.1 ∉ pre.map (·.1) := fun z => hnd.2.2 _ z _ (List.mem_cons_self) rfl
      rw [List.lookup_eq_none_iff]
      intro p hp'
      have hm2 : p.1 ∈ pre.map (·.1) := List.mem_map_of_mem hp'
      exact bne_iff_ne.mpr fun z => this (by rw [show a.1 = p.1 from z]; exact hm2)
    simp only [h1, Bool.true_or, if_true, h2, Option.isSome_none, Bool.false_eq_true, if_false]]
  rw [pure_bind, foldl_app]
  refine ⟨_, rfl, fun o ho => ?_⟩
  simp only [ho]
  have g1 : (decide (us.length > ps.length) && true) = false := by simp; omega
  have g2 : its.length - ps.length = 0 := by omega
  simp only [g1, Bool.false_eq_true, if_false, g2, List.drop_zero]
  have g3 : (ps.take (ps.length - its.length)).filter (fun n => ((ps.zip us ++ kw).lookup n).isNone) = [] := by
    rw [List.filter_eq_nil_iff]
    intro n hn
    have := hmis n hn
    cases e : (ps.zip us ++ kw).lookup n with
    | none => rw [e] at this; cases this
    | some _ => simp
  simp only [g3, List.isEmpty_nil, Bool.not_true, Bool.false_eq_true, if_false]
  rw [forIn_yield dfStep _ _ fun pre a post e => by
    unfold dfStep
    split <;> rfl]
  simp only [pure_bind, List.forIn_nil, List.isEmpty_nil, Bool.not_true, Bool.false_eq_true, if_false, List.append_nil]

/-! ### by trees -/
/-- the parameters (by their number, where a keyword may name them), their defaults, the positional and the keywords' values -/
def bindGo (kws : List (Nat × D)) : List (Option Nat) → List (Option D) → List D → Option (List D)
  | [], _, ds => match ds with
    | [] => some []
    | _ :: _ => none
  | p :: ps, df, ds => match ds with
    | d :: ds => (bindGo kws ps df.tail ds).map (d :: ·)
    | [] => match (p.bind fun k => kws.lookup k).or (df.head?.join) with
      | some d => (bindGo kws ps df.tail []).map (d :: ·)
      | none => none
def ndN : List Nat → Bool
  | [] => true
  | a :: l => (!(l.any fun b => Nat.beq a b)).and (ndN l)
def hasO (l : List (Option Nat)) (k : Nat) : Bool := l.any fun o => match o with
  | some j => Nat.beq j k
  | none => false
def kwsOk (ps : List (Option Nat)) (kws : List (Nat × D)) : Bool := (ndN (kws.map (·.1))).and (kws.all fun q => hasO ps q.1)
def bindD (ps : List (Option Nat)) (df : List D) (ds : List D) (kws : List (Nat × D)) : Option (List D) := match kwsOk (ps.drop ds.length) kws with
  | true => bindGo kws ps (List.replicate (ps.length - df.length) none ++ df.map some) ds
  | false => none
theorem bindGo_at {kws : List (Nat × D)} : ∀ {ps : List (Option Nat)} {df : List (Option D)} {ds bs : List D}, bindGo kws ps df ds = some bs → bs.length = ps.length ∧ ds.length ≤ ps.length ∧
    ∀ (i : Nat) (d : D), bs[i]? = some d → ds[i]? = some d ∨ (ds.length ≤ i ∧ ((∃ k, ps[i]? = some (some k) ∧ kws.lookup k = some d) ∨ ((∀ k, ps[i]? = some (some k) → kws.lookup k = none) ∧ df[i]? = some (some d))))
  | [], df, ds, bs, h => by
    unfold bindGo at h
    split at h
    · cases h; exact ⟨rfl, Nat.le_refl _, fun i d e => by simp at e⟩
    · cases h
  | p :: ps, df, ds, bs, h => by
    unfold bindGo at h
    split at h
    · rename_i d ds
      cases e : bindGo kws ps df.tail ds with
      | none => rw [e] at h; cases h
      | some r =>
        rw [e] at h
        cases h
        obtain ⟨h1, h2, h3⟩ := bindGo_at e
        refine ⟨by simp [h1], by simp; exact h2, fun i x q => ?_⟩
        cases i with
        | zero => simp at q; subst q; exact .inl rfl
        | succ i =>
          rcases h3 i x (by simpa using q) with r1 | ⟨r1, r2⟩
          · exact .inl (by simpa using r1)
          · refine .inr ⟨by simp; omega, ?_⟩
            rcases r2 with ⟨k, a, b⟩ | ⟨a, b⟩
            · exact .inl ⟨k, by simpa using a, b⟩
            · refine .inr ⟨fun k hk => a k (by simpa using hk), ?_⟩
              cases df with
              | nil => simp at b
              | cons _ _ => simpa using b
    · split at h
      · rename_i d hd
        cases e : bindGo kws ps df.tail [] with
        | none => rw [e] at h; cases h
        | some r =>
          rw [e] at h
          cases h
          obtain ⟨h1, h2, h3⟩ := bindGo_at e
          refine ⟨by simp [h1], by simp, fun i x q => ?_⟩
          cases i with
          | zero =>
            simp at q
            subst q
            refine .inr ⟨Nat.le_refl _, ?_⟩
            cases hk : p.bind fun k => kws.lookup k with
            | some y =>
              rw [hk] at hd
              cases hd
              cases p with
              | none => cases hk
              | some k => exact .inl ⟨k, rfl, hk⟩
            | none =>
              rw [hk, Option.none_or] at hd
              refine .inr ⟨fun k e => ?_, ?_⟩
              · simp at e; subst e; exact hk
              · cases df with
                | nil => cases hd
                | cons o _ => cases o with
                  | none => cases hd
                  | some y => cases hd; rfl
          | succ i =>
            rcases h3 i x (by simpa using q) with r1 | ⟨r1, r2⟩
            · simp at r1
            · refine .inr ⟨by simp, ?_⟩
              rcases r2 with ⟨k, a, b⟩ | ⟨a, b⟩
              · exact .inl ⟨k, by simpa using a, b⟩
              · refine .inr ⟨fun k hk => a k (by simpa using hk), ?_⟩
                cases df with
                | nil => simp at b
                | cons _ _ => simpa using b
      · cases h

theorem ndN_ok : ∀ {l : List Nat}, ndN l = true → l.Nodup
  | [], _ => List.nodup_nil
  | a :: l, h => by
    unfold ndN at h
    obtain ⟨h1, h2⟩ := Bool.and_eq_true_iff.mp h
    refine List.nodup_cons.mpr ⟨fun z => ?_, ndN_ok h2⟩
    have : (l.any fun b => Nat.beq a b) = true := List.any_eq_true.mpr ⟨a, z, Nat.beq_refl a⟩
    rw [this] at h1
    cases h1
theorem nodup_map {α β : Type} {f : α → β} (hf : ∀ a b, f a = f b → a = b) : ∀ {l : List α}, l.Nodup → (l.map f).Nodup
  | [], _ => List.nodup_nil
  | a :: l, h => by
    rw [List.nodup_cons] at h
    rw [List.map_cons, List.nodup_cons]
    refine ⟨fun z => ?_, nodup_map hf h.2⟩
    obtain ⟨b, hb, e⟩ := List.mem_map.mp z
    exact h.1 (hf b a e ▸ hb)
theorem lookup_nm {α β : Type} {R : α → β → Prop} {φ : Nat → Str} (hφ : ∀ a b, φ a = φ b → a = b) : ∀ {ks : List Nat} {es : List α} {ws : List β}, es.length = ws.length → (∀ (i : Nat) a, es[i]? = some a → ∃ b, ws[i]? = some b ∧ R a b) →
    ∀ k, (∀ a, (ks.zip es).lookup k = some a → ∃ b, ((ks.map φ).zip ws).lookup (φ k) = some b ∧ R a b) ∧ ((ks.zip es).lookup k = none → ((ks.map φ).zip ws).lookup (φ k) = none)
  | [], _, _, _, _, k => ⟨fun a e => by simp at e, fun _ => rfl⟩
  | j :: ks, [], [], _, _, k => ⟨fun a e => by simp at e, fun _ => rfl⟩
  | j :: ks, [], _ :: _, h, _, _ => by cases h
  | j :: ks, _ :: _, [], h, _, _ => by cases h
  | j :: ks, a :: es, b :: ws, h, hr, k => by
    by_cases e : k = j
    · subst e
      refine ⟨fun x q => ?_, fun q => ?_⟩
      · simp [List.lookup] at q
        subst q
        obtain ⟨y, h1, h2⟩ := hr 0 a rfl
        simp at h1
        subst h1
        exact ⟨b, by simp [List.lookup], h2⟩
      · simp [List.lookup] at q
    · have b1 : (k == j) = false := beq_eq_false_iff_ne.mpr e
      have b2 : (φ k == φ j) = false := beq_eq_false_iff_ne.mpr fun z => e (hφ _ _ z)
      have ih := lookup_nm (R := R) hφ (ks := ks) (es := es) (ws := ws) (by simpa using h) (fun i a q => hr (i + 1) a (by simpa using q)) k
      simp only [List.map_cons, List.zip_cons_cons, List.lookup, b1, b2]
      exact ih
theorem zip_at {α : Type} : ∀ {ps : List Str} {us : List α} {i : Nat} {n : Str}, ps.Nodup → ps[i]? = some n → (ps.zip us).lookup n = us[i]?
  | [], us, i, n, _, h => by simp at h
  | p :: ps, [], i, n, _, h => by simp
  | p :: ps, u :: us, i, n, nd, h => by
    rw [List.nodup_cons] at nd
    cases i with
    | zero => simp at h; subst h; simp [List.lookup]
    | succ i =>
      have hm : n ∈ ps := List.mem_of_getElem? (by simpa using h)
      have b1 : (n == p) = false := beq_eq_false_iff_ne.mpr fun z => nd.1 (z ▸ hm)
      simp only [List.zip_cons_cons, List.lookup, b1, List.getElem?_cons_succ]
      exact zip_at nd.2 (by simpa using h)
theorem zip_out {α : Type} {n : Str} : ∀ {ps : List Str} {us : List α}, n ∉ ps → (ps.zip us).lookup n = none
  | [], us, _ => by simp
  | p :: ps, [], _ => by simp
  | p :: ps, u :: us, h => by
    simp at h
    have b1 : (n == p) = false := beq_eq_false_iff_ne.mpr h.1
    simp only [List.zip_cons_cons, List.lookup, b1]
    exact zip_out h.2
theorem binds_zip {L : Str → Option Value} : ∀ {ps : List Str} {bu : List Value}, bu.length = ps.length → (∀ (i : Nat) n, ps[i]? = some n → L n = bu[i]?) → (ps.filterMap fun n => (L n).map (n, ·)) = ps.zip bu
  | [], [], _, _ => rfl
  | [], _ :: _, h, _ => by cases h
  | _ :: _, [], h, _ => by cases h
  | p :: ps, u :: bu, h, hl => by
    have h0 := hl 0 p rfl
    simp at h0
    rw [List.filterMap_cons, h0]
    show (p, u) :: _ = _
    rw [List.zip_cons_cons, binds_zip (by simpa using h) fun i n e => by simpa using hl (i + 1) n (by simpa using e)]
theorem pick_vals {T : Tab} {K : PySem.W.Frag} {H : Hp} : ∀ {bs : List D} {L : Nat → Option Value}, (∀ (i : Nat) d, bs[i]? = some d → ∃ v u, Is T K H d v ∧ RelV v u ∧ L i = some u) → ∃ bv bu, IsL T K H bs bv ∧ Vals bv bu ∧ bu.length = bs.length ∧ ∀ i, i < bs.length → L i = bu[i]?
  | [], L, _ => ⟨[], [], .nil, .nil, rfl, fun i h => absurd h (by simp)⟩
  | b :: bs, L, h => by
    obtain ⟨v, u, h1, h2, h3⟩ := h 0 b rfl
    obtain ⟨bv, bu, g1, g2, g3, g4⟩ := pick_vals (L := fun i => L (i + 1)) fun i d e => h (i + 1) d (by simpa using e)
    refine ⟨v :: bv, u :: bu, .cons h1 g1, .cons h2 g2, by simp [g3], fun i hi => ?_⟩
    cases i with
    | zero => simpa using h3
    | succ i => simpa using g4 i (by simpa using hi)
theorem hasO_ok {l : List (Option Nat)} {k : Nat} (h : hasO l k = true) : some k ∈ l := by
  unfold hasO at h
  rw [List.any_eq_true] at h
  obtain ⟨o, ho, e⟩ := h
  split at e
  · rw [Nat.eq_of_beq_eq_true e] at ho; exact ho
  · cases e
/-- the parameters' names and numbers -/
structure PsOk (ps : List (Option Nat)) (pn : List Str) : Prop where
  len : ps.length = pn.length
  nd : pn.Nodup
  at_ : ∀ (i k : Nat), ps[i]? = some (some k) → pn[i]? = some (nm k)
theorem bind_rel {T : Tab} {K : PySem.W.Frag} {H : Hp} {ps : List (Option Nat)} {pn : List Str} {df ds es bs : List D} {ks : List Nat} {vs zs : List V} {us ws its : List Value} {dvs : List V} {fd : FuncData} {args : List Arg} {dl : List Expr} (P : PsOk ps pn)
    (hp : fd.params = ⟨[], args, none, [], [], none, dl⟩) (hps : args.map (·.arg) = pn) (hdl : df.length ≤ ps.length) (h : bindD ps df ds (ks.zip es) = some bs) (hk : ks.length = es.length) (i1 : IsL T K H ds vs) (i2 : IsL T K H es zs) (r1 : Vals vs us) (r2 : Vals zs ws)
    (i3 : IsL T K H df dvs) (r3 : Vals dvs its) :
    ∃ bv bu, IsL T K H bs bv ∧ Vals bv bu ∧ bu.length = pn.length ∧ ∃ k : Option (Array Value) → Sem (List (Str × Value)), bindArgs fd ⟨us, (ks.map nm).zip ws⟩ = seqItems? fd.defaults >>= k ∧ ∀ o : Option (Array Value), (o.getD #[]).toList = its → k o = pure (pn.zip bu) := by
  unfold bindD at h
  split at h
  · rename_i hko
    obtain ⟨k1, k2⟩ := Bool.and_eq_true_iff.mp hko
    obtain ⟨b1, b2, b3⟩ := bindGo_at h
    have lu : us.length = ds.length := by rw [← r1.length, i1.length]
    have lw : ws.length = es.length := by rw [← r2.length, i2.length]
    have li : its.length = df.length := by rw [← r3.length, i3.length]
    have keys : ((ks.map nm).zip ws).map (·.1) = (ks.map nm) := List.map_fst_zip (by rw [List.length_map, hk, lw]; exact Nat.le_refl _)
    have keys2 : (ks.zip es).map (·.1) = ks := List.map_fst_zip (by rw [hk]; exact Nat.le_refl _)
    have inps : ∀ k ∈ ks, some k ∈ ps.drop ds.length := fun k hk' => by
      rw [← keys2] at hk'
      obtain ⟨q, hq, e⟩ := List.mem_map.mp hk'
      exact e ▸ hasO_ok (List.all_eq_true.mp k2 q hq)
    have ixk : ∀ k ∈ ks, ∃ j, ds.length ≤ j ∧ pn[j]? = some (nm k) := fun k hk' => by
      obtain ⟨j, hj⟩ := List.mem_iff_getElem?.mp (inps k hk')
      rw [List.getElem?_drop] at hj
      exact ⟨_, Nat.le_add_right _ _, P.at_ _ _ hj⟩
    have ndix : ∀ {i j : Nat} {n : Str}, pn[i]? = some n → pn[j]? = some n → i = j := fun a b => nodup_ix P.nd a b
    have rel : ∀ (i : Nat) a, es[i]? = some a → ∃ b, ws[i]? = some b ∧ (∃ v, Is T K H a v ∧ RelV v b) := fun i a e => by
      obtain ⟨v, e1, j⟩ := i2.get e
      obtain ⟨u, e2, r⟩ := r2.get e1
      exact ⟨u, e2, v, j, r⟩
    have lkk := fun k => lookup_nm (R := fun a b => ∃ v, Is T K H a v ∧ RelV v b) (φ := nm) (fun a b => nm_inj) (ks := ks) lw.symm rel k
    -- what the slots hold
    have L1 : ∀ (i : Nat) n, pn[i]? = some n → (pn.zip us).lookup n = us[i]? := fun i n e => zip_at P.nd e
    have L3 : ∀ (i : Nat) n, pn[i]? = some n → ((pn.drop (pn.length - its.length)).zip its).lookup n = if pn.length - its.length ≤ i then its[i - (pn.length - its.length)]? else none := fun i n e => by
      split
      · rename_i hle
        refine zip_at (P.nd.sublist (List.drop_sublist _ _)) ?_
        rw [List.getElem?_drop]
        rw [show pn.length - its.length + (i - (pn.length - its.length)) = i by omega]
        exact e
      · rename_i hle
        refine zip_out fun z => ?_
        obtain ⟨j, hj⟩ := List.mem_iff_getElem?.mp z
        rw [List.getElem?_drop] at hj
        have := ndix e hj
        omega
    have df_at : ∀ (i : Nat) d, (List.replicate (ps.length - df.length) none ++ df.map some)[i]? = some (some d) → ps.length - df.length ≤ i ∧ df[i - (ps.length - df.length)]? = some d := fun i d e => by
      by_cases hi : i < ps.length - df.length
      · rw [List.getElem?_append_left (by simpa using hi), List.getElem?_replicate] at e
        split at e <;> cases e
      · rw [List.getElem?_append_right (by simpa using hi), List.getElem?_map] at e
        simp only [List.length_replicate] at e
        cases q : df[i - (ps.length - df.length)]? with
        | none => rw [q] at e; cases e
        | some y => rw [q] at e; cases e; exact ⟨by omega, rfl⟩
    let L : Str → Option Value := fun n => (((pn.drop (pn.length - its.length)).zip its).foldl dfStep (pn.zip us ++ (ks.map nm).zip ws)).lookup n
    have hL : ∀ (i : Nat) d, bs[i]? = some d → ∃ v u, Is T K H d v ∧ RelV v u ∧ (pn[i]?.bind L) = some u := fun i d e => by
      have hi : i < pn.length := by rw [← P.len, ← b1]; exact (List.getElem?_eq_some_iff.mp e).1
      obtain ⟨n, hn⟩ : ∃ n, pn[i]? = some n := ⟨_, List.getElem?_eq_getElem hi⟩
      rw [hn]
      show ∃ v u, Is T K H d v ∧ RelV v u ∧ L n = some u
      have eL : L n = ((us[i]?).or (((ks.map nm).zip ws).lookup n)).or (if pn.length - its.length ≤ i then its[i - (pn.length - its.length)]? else none) := by
        show (((pn.drop (pn.length - its.length)).zip its).foldl dfStep _).lookup n = _
        rw [foldl_df, List.lookup_append, L1 i n hn, L3 i n hn]
      rw [eL]
      rcases b3 i d e with q | ⟨q1, q⟩
      · obtain ⟨v, e1, j⟩ := i1.get q
        obtain ⟨u, e2, r⟩ := r1.get e1
        exact ⟨v, u, j, r, by rw [e2]; rfl⟩
      · have un : us[i]? = none := List.getElem?_eq_none (by omega)
        rw [un, Option.none_or]
        rcases q with ⟨k, q2, q3⟩ | ⟨q2, q3⟩
        · have := P.at_ i k q2
          rw [hn] at this
          cases this
          obtain ⟨b, e2, v, j, r⟩ := (lkk k).1 d q3
          exact ⟨v, b, j, r, by rw [e2]; rfl⟩
        · have kn : ((ks.map nm).zip ws).lookup n = none := by
            cases z : ((ks.map nm).zip ws).lookup n with
            | none => rfl
            | some u =>
              have hm : n ∈ ks.map nm := keys ▸ List.mem_map_of_mem (f := (·.1)) (PySem.mem_of_lookup z)
              obtain ⟨k, hk', e2⟩ := List.mem_map.mp hm
              obtain ⟨j, hj⟩ := List.mem_iff_getElem?.mp (List.mem_of_mem_drop (inps k hk'))
              have hij := ndix (P.at_ j k hj) (e2 ▸ hn)
              subst hij
              have := (lkk k).2 (q2 k hj)
              rw [e2, z] at this
              cases this
          rw [kn, Option.none_or]
          obtain ⟨c1, c2⟩ := df_at i d q3
          have hc : pn.length - its.length = ps.length - df.length := by rw [P.len, li]
          rw [hc, if_pos c1]
          obtain ⟨v, e1, j⟩ := i3.get c2
          obtain ⟨u, e2, r⟩ := r3.get e1
          exact ⟨v, u, j, r, e2⟩
    obtain ⟨bv, bu, g1, g2, g3, g4⟩ := pick_vals (L := fun i => pn[i]?.bind L) hL
    have lb : bu.length = pn.length := by rw [g3, b1, P.len]
    obtain ⟨k, e1, e2⟩ := bind_val (kw := (ks.map nm).zip ws) hp hps (us := us) (its := its) (by rw [lu, ← P.len]; exact b2) (by rw [li, ← P.len]; exact hdl) (fun q hq => by
      have hm : q.1 ∈ ks.map nm := keys ▸ List.mem_map_of_mem (f := (·.1)) hq
      obtain ⟨k, hk', e2⟩ := List.mem_map.mp hm
      obtain ⟨j, _, hj⟩ := ixk k hk'
      exact e2 ▸ List.mem_of_getElem? hj) (by rw [keys]; exact nodup_map (fun a b => nm_inj) (by have := ndN_ok k1; rwa [keys2] at this)) (fun q hq => by
      have hm : q.1 ∈ ks.map nm := keys ▸ List.mem_map_of_mem (f := (·.1)) hq
      obtain ⟨k, hk', e2⟩ := List.mem_map.mp hm
      obtain ⟨j, hle, hj⟩ := ixk k hk'
      rw [← e2, L1 j _ hj]
      exact List.getElem?_eq_none (by omega)) (fun n hn => by
      obtain ⟨i, hi⟩ := List.mem_iff_getElem?.mp hn
      have hlt : i < pn.length - its.length := by
        have := (List.getElem?_eq_some_iff.mp hi).1
        rw [List.length_take] at this
        omega
      rw [List.getElem?_take_of_lt hlt] at hi
      have hb : i < bs.length := by rw [b1, P.len]; omega
      obtain ⟨v, u, _, _, q⟩ := hL i _ (List.getElem?_eq_getElem hb)
      rw [hi] at q
      have q : L n = some u := q
      have eL : L n = ((pn.zip us ++ (ks.map nm).zip ws).lookup n).or (((pn.drop (pn.length - its.length)).zip its).lookup n) := foldl_df n _ _
      rw [eL, L3 i n hi, if_neg (by omega), Option.or_none] at q
      rw [q]
      rfl)
    refine ⟨bv, bu, g1, g2, lb, k, e1, fun o ho => ?_⟩
    rw [e2 o ho]
    congr 1
    exact binds_zip (L := L) lb fun i n e => by
      have := g4 i (by rw [← g3, lb]; exact (List.getElem?_eq_some_iff.mp e).1)
      simp only [e, Option.bind_some] at this
      exact this
  · cases h
end Cn

namespace Cn
open PySem PySem.Spec PyProof.Rows L2

/-! ## XX. Exceptions: raised -/
/-- an exception handed on with its dict frozen -/
def frzX (Q : XK) : XK := fun cls d H => ∃ dd fs, d = some dd ∧ H dd = some (.xd fs) ∧ ∀ od, Q cls d (upd H dd (.frz od (.xd fs)))
theorem PMk_frz {X : Cx} {e : Expr} {t : L2.St → Hp → XK → Prop} (h : PMk X e t) : PMk X e (fun σ H Q => t σ H (frzX Q)) := fun pins s σ H Q I q => by
  refine wpAny_mono (h pins s σ H _ I q) (fun u s' hu => ?_) fun _ _ z => z
  obtain ⟨a, oe, vs, sI, H', cls, d, rfl, J, k, hne, ha, hz, hd, h1, na, os, ag, r, dd, fs, ed, hdd, hq⟩ := hu
  obtain ⟨od, ho⟩ := obj_of J.hok hdd trivial
  refine ⟨a, oe, vs, sI, _, cls, d, rfl, Inv.freeze J hdd trivial ho, k, hne, ha, hz, hd, h1, ?_, os, ag, r, hq od⟩
  rw [upd_ne (fun z => by rw [z, hdd] at na; cases na)]
  exact na
/-- what is made of the arguments -/
def rzK (c : Nat) (ds : List D) (k : List D → Prop) : Prop := match xfl c, ds with
  | [], _ => k []
  | [_], [d] => k [d]
  | _, _ => False
def dRaise0 (c : Nat) : DTS := fun _ ρ g DD => match xdi c with
  | some i => DD.ex ⟨c, [.int i]⟩ ρ g
  | none => False
def dRaise (c : Nat) (ts : List DTE) : DTS := fun C ρ g DD => dArgs ts C ρ g (fun ds g1 => ds.length ≤ 1000 ∧ rzK c ds fun l => DD.ex ⟨c, l⟩ ρ g1) fun x g1 => DD.ex x ρ g1
/-- of a class that may be raised: without an own __init__ -/
structure RzA (K : PySem.W.Frag) (C : Addr) (n : Nat) : Prop where
  ex : ∃ B newId initId bmB, ExcBaseFacts B newId initId bmB ∧ PySem.W.excIn K C bmB newId = true
  kp : PySem.W.keepIn K (.ref C) = true
  sub : PySem.W.subIn K (.ref C) (.type "BaseException") = some true
  ty : PySem.W.typeIn K (.ref C) = some (.type "type")
section
variable {X : Cx} {T : Tab} {C : Cal} {W : WX} {pos pos' p : Pos} {x : Str} {e : Expr} {es : List Expr} {ts : List DTE} {c : Nat}
theorem XdF_nil {H : Hp} {c : Nat} (h : xfl c = []) : XdF H none (xfl c) [] := by rw [h]; exact ⟨rfl, rfl⟩
theorem ds_raiseA (hc : X.calm = true) (tk : Takes X W) (R : RzA X.K (T.xA c) c) (gC : X.mg x = some (.ref (T.xA c))) (hg : Gl X x) (hok : T.xok c = true) (hx : xfl c = []) (hp : (e :: es).all plainArg = true) (ha : PA X (e :: es) (LA T X.K C W ts))
    (hdb : (x == ("__debug__" : Str)) = false) : PS X (.Raise (some (.Call (.Name x p) (e :: es) [] pos)) none pos') (LS T X.K C W (dRaise c ts)) := by
  obtain ⟨B, newId, initId, bmB, F, q⟩ := R.ex
  have hp' : plainArg e = true ∧ es.all plainArg = true := by simpa using hp
  refine PS.imp (ps_raise hc tk (pmk_ownA F q gC R.kp (raises_own R.sub R.ty) hg ha hdb (star_cons hp'.1) (by rw [star_any hp'.2] <;> rfl))) fun Dn σ H ⟨ρ, g, DD, rs, rg, h, cc⟩ => ?_
  refine ⟨ρ, g, _, _, rs, rg, h, ⟨fun vs ds H1 g1 k1 i1 rg1 h1 => ?_⟩, cc.exE rs⟩
  obtain ⟨hl, h2⟩ := h1
  refine ⟨by rw [← i1.length]; exact Nat.le_trans hl (by rw [sizeLine_eq]; omega), ?_⟩
  unfold rzK at h2
  rw [hx] at h2
  exact cc.ex _ _ _ _ _ _ _ k1 ⟨hok, rfl, [], XdF_nil hx, .nil⟩ (rs.mono k1.kp) rg1 h2
/-! its own __init__: what is above is asked, one field -/
def spI (K : PySem.W.Frag) (f : Str) : Sp := fun vs H Q _ => ∃ (a : Addr) (v : V) (D : Addr), vs = [.ref a, v] ∧ OexC K D ∧ PySem.W.findIn K (.ref D) f = some none ∧ H a = some (exo a D none) ∧ ∀ dx, H dx = none → dx ≠ a → Q .non (upd (upd H dx (exd dx [(f, v)])) a (exo a D (some dx)))
end
/-- Base.__init__(self, ..) by an own class above -/
structure BiC (K : PySem.W.Frag) (B : Addr) (mc : Value) : Prop where
  rd : PySem.W.readsIn K B mc = true
  ga : PySem.W.specialIn K (.ref B) "__getattribute__" = some (some (.builtin "type.__getattribute__"))
  at_ : PySem.W.findCls K (.ref B) mc "__init__" = some (.val (.builtin "ValueError.__init__"))
theorem pe_binit {X : Cx} {x : Str} {B : Addr} {mc : Value} {e : Expr} {es : List Expr} {p1 p2 pos : Pos} {ta : TA} (M : BiC X.K B mc) (hg : Gl X x) (hm : X.mg x = some (.ref B)) (hdb : (x == ("__debug__" : Str)) = false) (ha : PA X (e :: es) ta)
    (hp : (e :: es).all plainArg = true) (hf : (e :: es).length < 29) (hline : (p2.endLine == pos.line) = true) :
    PE X (.Call (.Attribute (.Name x p1) "__init__" p2) (e :: es) [] pos) (tVeI X.K ta) := by
  have hp' : plainArg e = true ∧ es.all plainArg = true := by simpa using hp
  refine ⟨fun pins s σ H Q I h => ?_⟩
  refine meth_shape (ks := []) (kws := []) (by rfl) hp rfl (by simpa using hf) hline (ld_glob I hg hm (fun pl => ?_) hdb)
  refine PySem.W.method_cls I.kIn M.ga (PySem.W.cls_value I.kIn M.rd M.at_ rfl ?_)
  show wpAny _ _ (callWith pos (Value.builtin "ValueError.__init__") [] (backTo pos (starEach (e :: es) X.env)) []) _ _ _
  refine PyProof.Rows.callWith_method1 (thn (ha.run pos pins _ σ H _ (I.tok _) h) fun us s1 ⟨vs, H1, I1, r1, a, C, ws, ev, hl, T, ea, q⟩ => ?_) (star_cons hp'.1) (by rw [star_any hp'.2] <;> rfl)
  subst ev
  cases r1 with
  | @cons _ u0 _ ur ra rw' =>
    obtain rfl : u0 = Value.ref a := ra
    have hlen : ur.length ≤ sizeLine := by
      rw [← Paired.length rw', sizeLine_eq]
      omega
    exact oinit_ok T I1 ea hlen fun s' J => ⟨.non, H1, J, rfl, q⟩
/-- the def of such an __init__ -/
structure IniD (K : PySem.W.Frag) (mg : Str → Option Value) (f : Addr) (fx : Str) (df : Option Int) : Prop where
  ex : ∃ (qual : Str) (params : Arguments) (scope : Scope) (dvs : List V) (kvs : List (Str × V)) (fd : FuncData) (N : List Str) (sx vx bx : Str) (B : Addr) (mc : Value) (m : Str) (j : Nat) (p1 p2 p3 p4 p5 p6 p7 p8 p9 p10 : Pos),
    FunD K "__init__" qual params [.Expr (.Call (.Attribute (.Name bx p1) "__init__" p2) [.Name sx p3, .Constant (.str m) j p4] [] p5) p6, .Assign [.Attribute (.Name sx p7) fx p8] (.Name vx p9) p10] scope dvs kvs f fd ∧
    FnScope N [sx, vx] scope ∧ BiC K B mc ∧ mg bx = some (.ref B) ∧ scope.names.lookup bx = some .globalImplicit ∧ scope.names.lookup sx = some .local ∧ scope.names.lookup vx = some .local ∧ (p2.endLine == p5.line) = true ∧ (Binds K fd [sx, vx] [] ∧ ∀ i, df = some i → ∃ ds, Vals [V.int i] ds ∧ Binds K fd [sx, vx] ds) ∧
    (bx == ("__debug__" : Str)) = false ∧ ((sx == ("__debug__" : Str)) = false ∧ (sx == ("__classdict__" : Str)) = false) ∧ (vx == ("__debug__" : Str)) = false ∧ (vx == ("__classdict__" : Str)) = false
theorem pre_at {N ps : List Str} {scope : Scope} (S : FnScope N ps scope) {i : Nat} {x : Str} (h : ps[i]? = some x) : N[i]? = some x := by
  have hi := (List.getElem?_eq_some_iff.mp h).1
  have h2 : (N.take ps.length)[i]? = some x := by rw [S.pre]; exact h
  rw [List.getElem?_take, if_pos hi] at h2
  exact h2
theorem spI_len {K : PySem.W.Frag} {f : Str} {vs : List V} {H : Hp} {Q : VK} {E : XK} (h : spI K f vs H Q E) : vs.length = 2 := by
  obtain ⟨a, v, D, rfl, _⟩ := h
  rfl
theorem ini_fn {K : PySem.W.Frag} {mg : Str → Option Value} {f : Addr} {fx : Str} {df : Option Int} (h : IniD K mg f fx df) {P : Program} {w : World} {base : Heap} {k : Nat} : ∃ fd ps, FnOk P w K mg base (L2.CX P w) (k + 1) f fd ps (spI K fx) ∧ (Binds K fd ps [] ∧ ∀ i, df = some i → ∃ ds, Vals [V.int i] ds ∧ Binds K fd ps ds) := by
  obtain ⟨qual, params, scope, dvs, kvs, fd, N, sx, vx, bx, B, mc, m, j, p1, p2, p3, p4, p5, p6, p7, p8, p9, p10, fn, S, M, hm, hb, hs, hv, hline, hbd, db, ds, dv⟩ := h
  obtain ⟨oc, od, dV, kV, doc, pm, an, cdv, ct, osl, rfl, lk, hcd, hD, _⟩ := fn.ex
  refine ⟨_, [sx, vx], fn_of lk hcd S (fun vs H Q E h => spI_len h) (fun A outer s H vs Q E hr hsp => ?_), hbd⟩
  obtain ⟨a, v, D, rfl, T, hno, ha, hq⟩ := hsp
  have hN0 : N[0]? = some sx := pre_at S rfl
  have hN1 : N[1]? = some vx := pre_at S rfl
  generalize hX : cxOf (L2.CX P w) P w K mg base N qual scope f cdv A outer s H E = X
  have eK : X.K = K := by subst hX; rfl
  have eN : X.N = N := by subst hX; rfl
  have eM : X.mg = mg := by subst hX; rfl
  have eS : X.env.scope = scope := by subst hX; rfl
  have hGl : Gl X bx := by unfold Gl Env.kindOf; rw [eS]; exact hb
  have vs : Vis X.env.scope sx := by rw [eS]; exact .inl hs
  have vv : Vis X.env.scope vx := by rw [eS]; exact .inl hv
  have e0 : ∀ {p}, PE X (.Name sx p) _ := fun {p} => pe_var (i := 0) (by rw [eN]; exact hN0) vs ds.1 ds.2
  have e1 : ∀ {p}, PE X (.Name vx p) _ := fun {p} => pe_var (i := 1) (by rw [eN]; exact hN1) vv dv.1 dv.2
  have call := pe_binit (X := X) (p1 := p1) (p2 := p2) (pos := p5) (e := .Name sx p3) (es := [.Constant (.str m) j p4]) (by rw [eK]; exact M) hGl (by rw [eM]; exact hm) db (pa_cons e0 (pa_cons pe_str pa_nil)) (by rfl) (by simp) hline
  refine ⟨_, pss_cons (ps_expr call (by rfl)) (pss_one (ps_ost e0 e1 (by rfl))), ?_⟩
  have h0 : (L2.start N [V.ref a, v])[0]? = some (some (.ref a)) := rfl
  have h1 : (L2.start N [V.ref a, v])[1]? = some (some v) := rfl
  exact ⟨.ref a, h0, a, D, [.str m], rfl, by simp, by rw [eK]; exact T, ha, v, h1, .ref a, h0, a, D, rfl, by rw [eK]; exact T, by rw [eK]; exact hno, .inl ⟨ha, hq⟩⟩
theorem fm2 {n1 n2 : Str} (hne : n1 ≠ n2) (u v : Value) : ([n1, n2].filterMap fun n => ([(n1, u), (n2, v)].lookup n).map (n, ·)) = [n1, n2].zip [u, v] := by
  have h2 : (n2 == n1) = false := beq_eq_false_iff_ne.mpr (Ne.symm hne)
  simp [List.lookup, h2]
def dfV : Option Int → List V
  | some i => [.int i]
  | none => []
theorem bind_two {K : PySem.W.Frag} {x qual : Str} {n1 n2 : Str} {args : List Arg} {dl : List Expr} {body : List Stmt} {scope : Scope} {dvs : List V} {kvs : List (Str × V)} {f : Addr} {fd : FuncData} {df : Option Int} (F : FunD K x qual ⟨[], args, none, [], [], none, dl⟩ body scope dvs kvs f fd)
    (h : args.map (·.arg) = [n1, n2]) (hne : n1 ≠ n2) (hdv : dvs = dfV df) : Binds K fd [n1, n2] [] ∧ ∀ i, df = some i → ∃ ds, Vals [V.int i] ds ∧ Binds K fd [n1, n2] ds := by
  obtain ⟨oc, od, dV, kV, doc, pm, an, cdv, ct, osl, rfl, lk, hcd, hD, hK⟩ := F.ex
  have h2 : (n2 == n1) = false := beq_eq_false_iff_ne.mpr (Ne.symm hne)
  have l1 : ∀ u v : Value, [(n1, u), (n2, v)].lookup n2 = some v := fun u v => by simp [List.lookup, h2]
  have whole : ∀ (its : List Value) (o : Option (Array Value)) (us : List Value), its.length ≤ 1 → us.length = 2 → (o.getD #[]).toList = its → ∃ k : Option (Array Value) → Sem (List (Str × Value)), bindArgs (PySem.W.fnOf x qual ⟨[], args, none, [], [], none, dl⟩ body scope dV kV doc pm an cdv ct) ⟨us, []⟩ = seqItems? dV >>= k ∧ k o = pure ([n1, n2].zip us) := fun its o us hi hl ho => by
    match us, hl with
    | [u, v], _ =>
      obtain ⟨k, e1, e2⟩ := bind_val (fd := PySem.W.fnOf x qual ⟨[], args, none, [], [], none, dl⟩ body scope dV kV doc pm an cdv ct) (us := [u, v]) (kw := []) (its := its) rfl h (by simp) (by simp; omega) (by simp) (by simp) (by simp) (fun n hn => by
        have hn' : n ∈ [n1, n2] := List.mem_of_mem_take hn
        simp at hn'
        rcases hn' with rfl | rfl
        · simp [List.lookup]
        · simp [List.lookup, h2])
      refine ⟨k, e1, ?_⟩
      rw [e2 o ho]
      have e3 : (([n1, n2].drop ([n1, n2].length - its.length)).zip its).foldl dfStep ([n1, n2].zip [u, v] ++ []) = [(n1, u), (n2, v)] := by
        match its, hi with
        | [], _ => rfl
        | [d], _ =>
          show dfStep [(n1, u), (n2, v)] (n2, d) = _
          unfold dfStep
          simp [l1]
      rw [e3, fm2 hne]
  refine ⟨fun s us X hl => ?_, fun i hi => ?_⟩
  · rw [List.append_nil] at hl ⊢
    rcases hD with ⟨e1, e2⟩ | ⟨_, Td, o, its, m, e2, lT, oT, rT⟩
    · subst e2
      obtain ⟨k, e3, e4⟩ := whole [] none us (by simp) hl rfl
      refine .of_eq ?_
      rw [e3]
      show (pure none : Sem (Option (Array Value))) >>= k = _
      rw [pure_bind, e4]
    · subst e2
      have hi : its.length ≤ 1 := by
        rw [← rT.length, hdv]
        cases df <;> simp [dfV]
      obtain ⟨k, e3, e4⟩ := whole its (some its.toArray) us hi hl rfl
      refine L2.BindsTo.of_looks fun M => ?_
      rw [e3]
      exact looks_items X lT oT (.of_pure e4)
  · subst hi
    simp only [dfV] at hdv
    subst hdv
    rcases hD with ⟨e1, _⟩ | ⟨_, Td, o, its, m, e2, lT, oT, rT⟩
    · cases e1
    · subst e2
      refine ⟨its, rT, fun s us X hl => ?_⟩
      obtain ⟨d, rfl, _⟩ := vals1 rT
      have hu : us.length = 1 := by simpa using hl
      match us, hu with
      | [u], _ =>
        obtain ⟨k, e1, e2⟩ := bind_val (fd := PySem.W.fnOf x qual ⟨[], args, none, [], [], none, dl⟩ body scope (.ref Td) kV doc pm an cdv ct) (us := [u]) (kw := []) (its := [d]) rfl h (by simp) (by simp) (by simp) (by simp) (by simp) (fun n hn => by
          simp at hn
          subst hn
          simp [List.lookup])
        refine L2.BindsTo.of_looks fun M => ?_
        rw [e1]
        refine looks_items X lT oT (.of_pure ?_)
        rw [e2 _ rfl]
        have e3 : (([n1, n2].drop ([n1, n2].length - [d].length)).zip [d]).foldl dfStep ([n1, n2].zip [u] ++ []) = [(n1, u), (n2, d)] := by
          show dfStep [(n1, u)] (n2, d) = _
          unfold dfStep
          simp [List.lookup, h2]
        rw [e3, fm2 hne]
        rfl
/-- of a class that may be raised: with an own __init__ of this shape, somewhere above -/
structure RzB (K : PySem.W.Frag) (mg : Str → Option Value) (C : Addr) (n : Nat) (df : Option Int) : Prop where
  ex : ∃ fI, PySem.W.findIn K (.ref C) "__init__" = some (some (.ref fI)) ∧ PySem.W.typeIn K (.ref fI) = some (.type "function") ∧ IniD K mg fI (nm n) df
  T : OexC K C
  no : PySem.W.findIn K (.ref C) (nm n) = some none
section
variable {X : Cx} {T : Tab} {C : Cal} {W : WX} {pos pos' p : Pos} {x : Str} {e : Expr} {es : List Expr} {ts : List DTE} {c n k : Nat}
/-- the end of making it: its one field -/
theorem rzB_end {df : Option Int} {Dn : Ends} {σ : L2.St} {H H1 : Hp} {ρ : R} {g g1 : G} {DD : DE} {d : D} {v : V} (R : RzB X.K X.mg (T.xA c) n df) (hok : T.xok c = true) (hx : xfl c = [n]) (rs : RS T X.K H ρ σ) (cc : CtS T X.K g H W DD Dn) (k1 : Kg g H g1 H1) (rg1 : RG T X.K g1 H1) (iv : Is T X.K H1 d v) (h2 : DD.ex ⟨c, [d]⟩ ρ g1) (a : Addr) (na : H1 a = none) :
    spI X.K (nm n) [.ref a, v] (upd H1 a (exo a (T.xA c) none)) (fun v H2 => v = .non ∧ ∃ (d : Addr) (fs : List (Str × V)), H2 a = some (exo a (T.xA c) (some d)) ∧ H2 d = some (exd d fs) ∧ H1 d = none ∧ frzX (fun cls dd H' => W cls dd σ H') (.ref (T.xA c)) (some d) (upd (L2.del H2 a) d (.xd fs))) (fun _ _ _ => False) := by
  refine ⟨a, v, T.xA c, rfl, R.T, R.no, upd_same, fun dx hdx hne => ⟨rfl, dx, [(nm n, v)], upd_same, by rw [upd_ne hne, upd_same], by rw [upd_ne hne] at hdx; exact hdx, dx, [(nm n, v)], rfl, upd_same, fun od => ?_⟩⟩
  have hd1 : H1 dx = none := by rw [upd_ne hne] at hdx; exact hdx
  have eH : upd (upd (L2.del (upd (upd (upd H1 a (exo a (T.xA c) none)) dx (exd dx [(nm n, v)])) a (exo a (T.xA c) (some dx))) a) dx (.xd [(nm n, v)])) dx (.frz od (.xd [(nm n, v)])) = upd H1 dx (.frz od (.xd [(nm n, v)])) := by
    funext b
    by_cases hb1 : b = dx
    · subst hb1
      rw [upd_same, upd_same]
    · rw [upd_ne hb1, upd_ne hb1, upd_ne hb1]
      by_cases hb2 : b = a
      · subst hb2
        rw [del_same, na]
      · rw [del_ne hb2, upd_ne hb2, upd_ne hb1, upd_ne hb2]
  rw [eH]
  have kn := Kg.new (g := g1) (o := .frz od (.xd [(nm n, v)])) hd1
  refine cc.ex _ _ _ _ _ _ _ (k1.trans kn) ⟨hok, rfl, [v], ?_, .cons (iv.mono kn.kp) .nil⟩ ((rs.mono k1.kp).mono kn.kp) (rg1.beside hd1) h2
  show XdF _ _ (xfl c) _
  rw [hx]
  exact ⟨dx, od, [(nm n, v)], rfl, upd_same, by simp [List.lookup]⟩
theorem ds_raiseB {df : Option Int} (hc : X.calm = true) (tk : Takes X W) (R : RzB X.K X.mg (T.xA c) n df) (gC : X.mg x = some (.ref (T.xA c))) (hg : Gl X x) (hok : T.xok c = true) (hx : xfl c = [n]) (hr : Room (k + 2) X.A) (hp : (e :: es).all plainArg = true) (ha : PA X (e :: es) (LA T X.K C W ts))
    (hdb : (x == ("__debug__" : Str)) = false) : PS X (.Raise (some (.Call (.Name x p) (e :: es) [] pos)) none pos') (LS T X.K C W (dRaise c ts)) := by
  obtain ⟨fI, iC, tI, hI⟩ := R.ex
  obtain ⟨fd, ps, F1, hb, _⟩ := ini_fn (P := X.prog) (w := X.w) (base := X.base) (k := k) hI
  have hp' : plainArg e = true ∧ es.all plainArg = true := by simpa using hp
  have mk := pmk_oex (X := X) (dvs := []) (ds := []) (pos := pos) (p := p) R.T iC tI F1 hr hb .nil (fun _ _ _ _ _ _ _ ⟨_, _, _, _, _, _, _, _, _, _, _, _, z⟩ => z.elim) hg gC ha hdb (star_cons hp'.1) (by rw [star_any hp'.2] <;> rfl)
  refine PS.imp (ps_raise hc tk (PMk_frz mk)) fun Dn σ H ⟨ρ, g, DD, rs, rg, h, cc⟩ => ?_
  refine ⟨ρ, g, _, _, rs, rg, h, ⟨fun vs ds H1 g1 k1 i1 rg1 h1 => ?_⟩, cc.exE rs⟩
  obtain ⟨hl, h2⟩ := h1
  refine ⟨by rw [← i1.length]; exact hl, fun a na => ?_⟩
  unfold rzK at h2
  rw [hx] at h2
  match ds, i1, h2 with
  | [], _, h2 => exact h2.elim
  | _ :: _ :: _, _, h2 => exact h2.elim
  | [d], i1, h2 =>
    simp only [IsL] at i1
    obtain ⟨v, vs', rfl, iv, rfl⟩ := i1
    exact rzB_end R hok hx rs cc k1 rg1 iv h2 a na
/-- C(), its field by default -/
theorem pmk_oex0 {CX : CXT} {x : Str} {C fI : Addr} {k : Nat} {fd : FuncData} {ps : List Str} {sp : Sp} {ds : List Value} {dvs : List V} (T : OexC X.K C) (iC : PySem.W.findIn X.K (.ref C) "__init__" = some (some (.ref fI))) (tI : PySem.W.typeIn X.K (.ref fI) = some (.type "function"))
    (F1 : FnOk X.prog X.w X.K X.mg X.base CX k fI fd ps sp) (hr : Room (k + 1) X.A) (hb : Binds X.K fd ps ds) (hd : Vals dvs ds) (hx : Passes CX X (fun _ _ _ => False)) (hg : Gl X x) (hm : X.mg x = some (.ref C)) (hdb : (x == ("__debug__" : Str)) = false) :
    PMk X (.Call (.Name x p) [] [] pos) (tMkO C sp dvs tNil) := by
  intro pins s σ H Q I h
  obtain ⟨nm, q, N, bs, bm, sn, sub, ab, col, dd, k0, k1, k2, k3, k5, hC, hbm⟩ := T.cls
  refine wpAny_Call_Name_kw (ld_glob I hg hm ?_ hdb)
  refine PySem.W.callWith_K0 I.kIn T.kC ?_
  show wpAny _ _ (call (.ref C) []) _ _ _
  obtain ⟨hz, q1⟩ := h
  have I1 := I
  obtain ⟨hp, g, dr, tk, os⟩ := s
  have hsz : hp.objs.size ≤ hp.objs.size + 1 := Nat.le_succ _
  have hn : H (hp.objs.size + 1) = none := I1.hok.fresh hsz
  have hq := q1 (hp.objs.size + 1) hn
  rw [List.nil_append] at hq
  have kk : ∀ b o, hp.get? b = some o → ((hp.push (PySem.W.kdv_tup [])).push (PySem.HandSPX.excO C hp.objs.size)).get? b = some o := fun b o e => Heap.get?_push_of_some _ (Heap.get?_push_of_some _ e)
  have hget : ((hp.push (PySem.W.kdv_tup [])).push (PySem.HandSPX.excO C hp.objs.size)).get? (hp.objs.size + 1) = some (PySem.HandSPX.excO C hp.objs.size) := by heap_get
  have I2 : Inv X pins σ (upd H (hp.objs.size + 1) (exo (hp.objs.size + 1) C none)) ⟨(hp.push (PySem.W.kdv_tup [])).push (PySem.HandSPX.excO C hp.objs.size), g, dr, tk, os⟩ :=
    I1.laid (t' := tk) (a := hp.objs.size + 1) (o := exo (hp.objs.size + 1) C none) (h' := (hp.push (PySem.W.kdv_tup [])).push (PySem.HandSPX.excO C hp.objs.size)) kk hsz (exo_ok hget)
  have r2 : Vals (V.ref (hp.objs.size + 1) :: dvs) (Value.ref (hp.objs.size + 1) :: ds) := .cons rfl hd
  have hl : ([Value.ref (hp.objs.size + 1)] ++ ds).length = ps.length := by
    have e := r2.length
    rw [F1.len _ _ _ _ hq] at e
    exact e.symm
  have hb' := hb _ [Value.ref (hp.objs.size + 1)] I2.kIn hl
  have e0 : ([Value.ref (hp.objs.size + 1)] ++ ds) = Value.ref (hp.objs.size + 1) :: ds := rfl
  rw [e0] at hb'
  refine wpAny_call (PySem.HandSPX.call_own F.excBase_ValueError (fun Y => PySem.HandSPX.refsVE_contains Y bm hbm) (I1.kIn _ _ hC) (PySem.W.looks_findIn I1.kIn iC) (fun self => PySem.W.bind_fn I1.kIn self tI) (by decide +kernel)
    (codeAny_mono (F1.run _ X.stack _ _ ⟨[Value.ref (hp.objs.size + 1)], []⟩ (Value.ref (hp.objs.size + 1) :: ds) _ _ (fun _ _ _ => False) (hr.make C [] []) (I2.env0.make C [] []) hb' r2 hq) fun r s' hq' => ?_))
  cases r with
  | error er => exact hx pins σ _ _ er s' I2 hq'
  | ok fl =>
    cases fl with
    | ret u =>
      obtain ⟨v, H2, os2, bare2, un2, hok2, rv, ev, d, fs, ea, ed, hd1, q2⟩ := hq'
      subst ev
      obtain ⟨h2, g2, d2, t2, os'⟩ := s'
      exact ⟨rv, mk_end (raises_own T.exC T.tyC) I1 hsz kk un2 hok2 os2 bare2 ea ed hd1 q2⟩
    | next => exact False.elim hq'
    | brk => exact False.elim hq'
    | cont => exact False.elim hq'
theorem ds_raise0 {i : Int} (hc : X.calm = true) (tk : Takes X W) (R : RzB X.K X.mg (T.xA c) n (some i)) (gC : X.mg x = some (.ref (T.xA c))) (hg : Gl X x) (hok : T.xok c = true) (hx : xfl c = [n]) (hi : xdi c = some i) (hr : Room (k + 2) X.A)
    (hdb : (x == ("__debug__" : Str)) = false) : PS X (.Raise (some (.Call (.Name x p) [] [] pos)) none pos') (LS T X.K C W (dRaise0 c)) := by
  obtain ⟨fI, iC, tI, hI⟩ := R.ex
  obtain ⟨fd, ps, F1, _, hb⟩ := ini_fn (P := X.prog) (w := X.w) (base := X.base) (k := k) hI
  obtain ⟨ds, hv, hb⟩ := hb i rfl
  have mk := pmk_oex0 (X := X) (dvs := [.int i]) (ds := ds) (pos := pos) (p := p) R.T iC tI F1 hr hb hv (fun _ _ _ _ _ _ _ ⟨_, _, _, _, _, _, _, _, _, _, _, _, z⟩ => z.elim) hg gC hdb
  refine PS.imp (ps_raise hc tk (PMk_frz mk)) fun Dn σ H ⟨ρ, g, DD, rs, rg, h, cc⟩ => ?_
  unfold dRaise0 at h
  rw [hi] at h
  exact ⟨by simp, fun a na => rzB_end (d := .int i) (v := .int i) R hok hx rs cc (Kg.refl g H) rg (by simp only [Is]) h a na⟩
end
end Cn

namespace Cn
open PySem PySem.Spec PyProof.Rows L2

/-! ## XY. try .. except -/
theorem exF_ok {P : Program} {w : World} {H : Hp} {h : Heap} {a : Addr} {oe : Obj} (e : h.get? a = some oe) : ObjOk P w H h a (.frz oe (exF a)) := by
  refine ⟨e, ?_⟩
  exact ⟨⟨oe, e⟩, ⟨oe, e⟩, fun h1 h2 ⟨o, q⟩ k => ⟨o, k o q⟩⟩
theorem RS.unset {T : Tab} {K : PySem.W.Frag} {H : Hp} {ρ : R} {σ : L2.St} (r : RS T K H ρ σ) (i : Nat) : RS T K H (ρ.set i none) (σ.set i none) := by
  refine ⟨by rw [List.length_set, List.length_set, r.len], fun j x e => ?_⟩
  by_cases hj : j = i
  · subst hj
    have hl : j < ρ.length := by
      have := (List.getElem?_eq_some_iff.mp e).1
      rwa [List.length_set] at this
    rw [List.getElem?_set_self hl] at e
    cases e
  · rw [List.getElem?_set_ne (Ne.symm hj)] at e ⊢
    exact r.at_ j x e
section
variable {X : Cx} {pins : List (Addr × Obj)} {σ : L2.St} {H : Hp} {s : Shared} {a : Addr} {oe : Obj}
/-- a thing that nobody tracked is tracked from now on -/
theorem Inv.track (I : Inv X pins σ H s) (ha : s.heap.get? a = some oe) (na : H a = none) (n0 : X.s_0.heap.get? a = none) (nL : a ≠ X.env.locals) (nC : ∀ v, oe.data ≠ .cell v) (nP : ∀ p ∈ X.pn ++ pins, p.1 ≠ a) : Inv X pins σ (upd H a (.frz oe (exF a))) s := by
  have ne : ∀ {b : Addr} {o : HO}, H b = some o → b ≠ a := fun {b o} q z => by rw [z, na] at q; cases q
  refine ⟨I.ok, I.os, I.bare, ⟨I.base.keep, I.base.slot, fun b o e n hx => ?_, I.base.there, fun b xs e => ?_, fun b o u e => ?_, fun b ps e => ?_⟩, I.loc, I.cell, ?_, fun x c e => ?_, fun p hp => ?_, fun b u e => ?_, I.len⟩
  · rw [upd_ne (fun z => by rw [z, n0] at e; cases e)]
    exact I.base.free b o e n hx
  · have z := I.base.tups b xs e
    rw [upd_ne (ne z)]
    exact z
  · have z := I.base.frzs b o u e
    rw [upd_ne (ne z)]
    exact z
  · obtain ⟨m, z⟩ := I.base.tbls b ps e
    exact ⟨m, by rw [upd_ne (ne z)]; exact z⟩
  · rw [upd_ne (Ne.symm nL)]
    exact I.free
  · have z := I.freeC x c e
    rw [upd_ne]
    · exact z
    · intro q
      obtain ⟨v, hv⟩ := I.cell x c e
      rw [q] at hv
      obtain ⟨o', h1, h2⟩ := hv
      rw [ha] at h1
      cases h1
      exact nC _ h2
  · obtain ⟨h1, h2, h3, h4, h5⟩ := I.pin p hp
    exact ⟨h1, by rw [upd_ne (nP p hp)]; exact h2, h3, h4, h5⟩
  · by_cases hb : b = a
    · subst hb
      rw [upd_same] at e
      cases e
      exact exF_ok ha
    · rw [upd_ne hb] at e
      exact (I.hok b u e).stay (fun _ _ _ q => q) (fun c q => by rw [upd_ne (ne q)]; exact q) fun c xs q => by rw [upd_ne (ne q)]; exact q
theorem Inv.toSuite (I : Inv X pins σ H s) : Inv (X.suite a (X.pn ++ pins)) [] σ H s :=
  ⟨I.ok.suite _ _, I.os, I.bare, I.base, I.loc, I.cell, I.free, I.freeC, fun p hp => I.pin p (by rw [List.append_nil] at hp; exact hp), I.hok, I.len⟩
theorem Inv.ofSuite {pn' : List (Addr × Obj)} (I : Inv (X.suite a (X.pn ++ pins)) pn' σ H s) (ok : X.Ok) : Inv X pins σ H s :=
  ⟨ok, I.os, I.bare, I.base, I.loc, I.cell, I.free, I.freeC, fun p hp => I.pin p (List.mem_append_left _ hp), I.hok, I.len⟩
end
/-- the clauses: the class, the name's slot, the suite -/
abbrev XH := List (Nat × (Option Nat × DTS))
def unS (i : Option Nat) (ρ : R) : R := match i with
  | none => ρ
  | some j => ρ.set j none
def inS (i : Option Nat) (d : D) (ρ : R) : R := match i with
  | none => ρ
  | some j => ρ.set j (some d)
def sufD (i : Option Nat) (DD : DE) : DE := { nx := fun ρ g => DD.nx (unS i ρ) g, rt := DD.rt, bk := fun ρ g => DD.bk (unS i ρ) g, ct := fun ρ g => DD.ct (unS i ρ) g, ex := fun _ _ _ => False }
def dHand : XH → DX → Cal → R → G → DE → Prop
  | [], x, _, ρ, g, DD => DD.ex x ρ g
  | (k, i, t) :: r, x, C, ρ, g, DD => match xsub x.c k with
    | true => t C (inS i (.exc x.c x.l) ρ) g (sufD i DD)
    | false => dHand r x C ρ g DD
def dTry (tb : DTS) (hs : XH) : DTS := fun C ρ g DD => tb C ρ g { DD with ex := fun x ρ1 g1 => dHand hs x C ρ1 g1 DD }
/-- the clauses of the text read as these -/
inductive HdF (X : Cx) (T : Tab) (C : Cal) : List ExceptHandler → XH → Prop
  | nil : HdF X T C [] []
  | cons {x : Str} {k : Nat} {i : Option Nat} {n : Option Str} {t : DTS} {b₀ : Stmt} {suite : List Stmt} {np pos' : Pos} {hds : List ExceptHandler} {l : XH} (hc : Names X x (.ref (T.xA k)))
      (hx : ∀ c, T.xok c = true → PySem.W.exmOne X.K (.ref (T.xA c)) (.ref (T.xA k)) = some (xsub c k))
      (hn : match i, n with
        | none, none => True
        | some j, some y => X.N[j]? = some y ∧ X.env.kindOf y = some .local
        | _, _ => False)
      (hsu : ∀ (a : Addr) (pn : List (Addr × Obj)), PSs (X.suite a pn) (b₀ :: suite) (LS T X.K C (fun _ _ _ _ => False) t)) (r : HdF X T C hds l) :
      HdF X T C (.ExceptHandler (some (.Name x np)) n (b₀ :: suite) pos' :: hds) ((k, i, t) :: l)
section
variable {X : Cx} {T : Tab} {C : Cal} {Wout : WX} {body : List Stmt} {h₀ : ExceptHandler} {hds : List ExceptHandler} {l : XH} {pos : Pos} {tb : DTS}
/-- what the body wishes of an exception -/
def wTr (X : Cx) (T : Tab) (C : Cal) (Wout : WX) (l : XH) (DD : DE) (Dn : Ends) : WX := fun cls d σ H => ∃ x ρ g, EXr T X.K H cls d x ∧ RS T X.K H ρ σ ∧ RG T X.K g H ∧ dHand l x C ρ g DD ∧ CtS T X.K g H Wout DD Dn
theorem ds_try (hs : X.stack = X.env :: X.outer) (hf : X.env.frame = some X.env.locals) (hex : X.ex = []) (hN : X.N.Nodup) (tk : Takes X Wout)
    (hb : ∀ (W : WX) (pn : List (Addr × Obj)) (xe : Value → Shared → Prop), Takes (X.tr pn xe) W → PassesOwn (model X.prog X.w) X.A X.env xe → PSs (X.tr pn xe) body (LS T X.K C W tb))
    (hh : HdF X T C (h₀ :: hds) l) : PS X (.Try body (h₀ :: hds) [] [] pos) (LS T X.K C Wout (dTry tb l)) := by
  refine ⟨fun pins s σ H D I ⟨ρ, g, DD, rs, rg, h, ct⟩ => ?_⟩
  have ok := I.ok
  have hfr : X.A.frames = some (X.env :: X.outer) := by rw [ok.frames, hs]
  have h' : LS T X.K C (wTr X T C Wout l DD D) tb D σ H := ⟨ρ, g, _, rs, rg, h, ⟨ct.nx, ct.rt, ct.bk, ct.ct, fun x cls dd ρ1 σ1 H1 g1 k1 e1 r1 rg1 q => ⟨x, ρ1, g1, e1, r1, rg1, q, ct.mono k1⟩⟩⟩
  refine wpAny_Try_except ?_
  refine wpAny_mono ((hb (wTr X T C Wout l DD D) (X.pn ++ pins) (fun e s₁ => wpAny (model X.prog X.w) X.A (noteFrame e X.env) (fun _ s₂ => wpAny (model X.prog X.w) X.A (setFlight e none) (fun _ s₃ =>
    wpAny (model X.prog X.w) X.A (handleBy e X.env (h₀ :: hds)) (SP X pins D) X.xe s₃) X.xe s₂) X.xe s₁) (fun u s' xx => ?_) PassesOwn.looking).run [] s σ H D (I.toTry _) h') (fun f s1 hsp => ?_) (fun e s1 he => he)
  · -- the catch
    obtain ⟨a, B, sI, pins', σ', H', cls, d, rfl, J', nb, up, sky, na, os, ag, x, ρ1, g1, ex1, rs1, rg1, hd1, ct1⟩ := xx
    have J : Inv X pins σ' H' sI := J'.ofTry ok
    have sky' : Sky B (X.env :: X.outer) a (Zc cls d) X.env.locals s'.heap := by rw [← hs]; exact sky
    show wpAny (model X.prog X.w) X.A (noteFrame (.ref a) X.env) _ _ _
    refine Sky.land Zc.steady hfr hf sky' fun h3 fl3 up3 => ?_
    have J3 : Inv X pins σ' H' { s' with heap := h3 } := J.landed nb fl3.1 (up.trans up3) os ag
    obtain ⟨oe3, vs3, he3, hz3, hd3⟩ := fl3.there
    have notFr : ∀ {h : Heap} {o : Obj} {vs : Array Value}, h.FunFrames B (X.env :: X.outer) → h.get? a = some o → o.data = .fields vs → a ∉ frs (X.env :: X.outer) := fun {h o vs} ff e dd hm => by
      obtain ⟨_, o', e', hnf⟩ := ff.mem hm
      rw [e] at e'; cases e'
      exact hnf _ dd
    have nfr := notFr fl3.2.2.1 he3 hd3
    have nL : a ≠ X.env.locals := fun z => nfr (List.mem_filterMap.mpr ⟨X.env, List.mem_cons_self, by rw [hf, z]⟩)
    have nF : a ∉ X.fs := fun hm => by
      obtain ⟨e, he, q⟩ := List.mem_filterMap.mp hm
      exact nfr (List.mem_filterMap.mpr ⟨e, List.mem_cons_of_mem _ he, q⟩)
    have hBa : B.get? a = none := fl3.2.1
    have nI : sI.heap.get? a = none := by
      cases e : sI.heap.get? a with
      | none => rfl
      | some o =>
        have := nb a o e (by rw [hs]; exact nfr)
        rw [hBa] at this
        cases this
    have n0 : X.s_0.heap.get? a = none := by
      cases e : X.s_0.heap.get? a with
      | none => rfl
      | some o =>
        obtain ⟨o', z⟩ := J.base.there a o e (by rw [hex]; simp)
        rw [nI] at z
        cases z
    have nP : ∀ p ∈ X.pn ++ pins, p.1 ≠ a := fun p hp z => by
      have := (J.pin p hp).1
      rw [z, nI] at this
      cases this
    have S3 := Inv.toSuite (a := a) (Inv.track J3 he3 na n0 nL (fun v z => by rw [hd3] at z; cases z) nP)
    have go : ∀ {hds' : List ExceptHandler} {l' : XH}, HdF X T C hds' l' → dHand l' x C ρ1 g1 DD →
        wpAny (model X.prog X.w) X.A (handleBy (.ref a) X.env hds') (SP X pins D) X.xe { s' with heap := h3 } := by
      intro hds' l' hk
      induction hk with
      | nil =>
        intro w
        refine wpAny_handleBy_nil ?_
        obtain ⟨k1, k2, k3, oe, vs, T', oT, ts', he, hz, hd, h1, hr⟩ := id fl3
        unfold PySem.passOn
        refine wpAny_bind (wpAny_field he hd h1 ?_)
        rw [if_neg (show ¬ ((Value.ref T' == Value.none) = true) from by simp)]
        have fin : wpAny (model X.prog X.w) X.A (setFlight (.ref a) X.env.frame) (fun _ s4 => wpAny (model X.prog X.w) X.A (throw (.ref a) : Sem Flow) (SP X pins D) X.xe s4) X.xe { s' with heap := h3 } := by
          rw [hf]
          refine HandSPX.setFlight_upZ fl3 fun h4 hh4 up4 => wpAny_throw (tk _ _ ?_)
          exact ⟨a, B, sI, pins, σ', H', cls, d, rfl, J, nb, (up.trans up3).trans up4, .inr (.inr (by rw [hs]; exact hh4)), na, os, ag, ct1.ex _ _ _ _ _ _ _ (Kg.refl _ _) ex1 rs1 rg1 w⟩
        first
          | exact wpAny_bind (wpAny_pure (wpAny_bind fin))
          | exact wpAny_bind fin
      | @cons xn k i n t b₀ suite np pos' hds2 l2 hc hx hn hsu r ih =>
        intro w
        obtain ⟨hok, rfl, xs, hxd, hil⟩ := ex1
        refine wpAny_handleBy_cons (codeAny_handlers_test ?_) (by intro q; cases q)
        have LT : PySem.W.Looks (model X.prog X.w) h3 (typeOf (.ref a)) (.ref (T.xA x.c)) := fun A Q E s k q => wpAny_typeOf_ref (k _ _ he3) (by rw [hz3.1]; exact q)
        have LM := PySem.W.exm_one (M := model X.prog X.w) (J3.kIn) LT (hx x.c hok)
        have test : ∀ {Q : Value → Shared → Prop} {E : Value → Shared → Prop}, Q (.ref (T.xA k)) { s' with heap := h3 } → wpAny (model X.prog X.w) (X.A.mark (some (.ref a))) (eval (.Name xn np) X.env) Q E { s' with heap := h3 } := fun {Q E} q => by
          obtain ⟨hg, hdbg, hm | ⟨hm, hv, hnn⟩⟩ := hc
          · exact ld_glob (X := X.suite a (X.pn ++ pins)) S3 hg hm q hdbg
          · exact ld_blt (X := X.suite a (X.pn ++ pins)) S3 hg hm hv q hnn hdbg
        refine test (LM.here ?_)
        unfold dHand at w
        cases hb1 : xsub x.c k with
        | true =>
          rw [hb1] at w
          dsimp only at w
          have kn : ∀ {o : HO}, Kg g1 H' g1 (upd H' a o) := fun {o} => Kg.new na
          have land : ∀ {h4 : Heap}, HandSPX.FlyingZ B (X.env :: X.outer) a (Zc (.ref (T.xA x.c)) d) h4 → h3.UpToSlots h4 → ∃ oe4 : Obj, Inv (X.suite a (X.pn ++ pins)) [] σ' (upd H' a (.frz oe4 (exF a))) { s' with heap := h4 } ∧ Is T X.K (upd H' a (.frz oe4 (exF a))) (.exc x.c x.l) (.ref a) := fun {h4} fl4 up4 => by
            have J4 : Inv X pins σ' H' { s' with heap := h4 } := J.landed nb fl4.1 ((up.trans up3).trans up4) os ag
            obtain ⟨oe4, vs4, he4, hz4, hd4⟩ := fl4.there
            refine ⟨oe4, Inv.toSuite (a := a) (Inv.track J4 he4 na n0 nL (fun v z => by rw [hd4] at z; cases z) nP), ?_⟩
            simp only [Is]
            exact ⟨a, oe4, vs4, xs, hok, rfl, upd_same, hz4.1, hd4, by rw [hz4.2]; exact hxd.keep (Kp.new na), hil.mono (Kp.new na)⟩
          match i, n, hn with
          | none, none, _ =>
            refine codeAny_handlers_suite ?_
            refine HandSPX.lands_againZ fl3 fun h4 fl4 up4 => ?_
            obtain ⟨oe4, S4, isx⟩ := land fl4 up4
            refine wpAny_mono ((hsu a (X.pn ++ pins)).run [] _ _ _ D S4 ⟨ρ1, g1, sufD none DD, rs1.mono (Kp.new na), rg1.beside na, w, ⟨fun ρ2 σ2 H2 g2 k2 r2 rg2 q => ct1.nx _ _ _ _ (kn.trans k2) r2 rg2 q, fun v d2 H2 g2 k2 i2 rg2 q => ct1.rt _ _ _ _ (kn.trans k2) i2 rg2 q,
              fun ρ2 σ2 H2 g2 k2 r2 rg2 q => ct1.bk _ _ _ _ (kn.trans k2) r2 rg2 q, fun ρ2 σ2 H2 g2 k2 r2 rg2 q => ct1.ct _ _ _ _ (kn.trans k2) r2 rg2 q, fun _ _ _ _ _ _ _ _ _ _ _ z => z.elim⟩⟩) (fun f s6 hsp => ?_) (fun _ _ z => False.elim z)
            cases f with
            | next =>
              obtain ⟨σ6, H6, S6, q6⟩ := hsp
              exact ⟨_, _, Inv.ofSuite S6 ok, q6⟩
            | brk =>
              obtain ⟨σ6, H6, S6, q6⟩ := hsp
              exact ⟨_, _, Inv.ofSuite S6 ok, q6⟩
            | cont =>
              obtain ⟨σ6, H6, S6, q6⟩ := hsp
              exact ⟨_, _, Inv.ofSuite S6 ok, q6⟩
            | ret u =>
              obtain ⟨v6, σ6, H6, S6, r6, q6⟩ := hsp
              exact ⟨_, _, _, Inv.ofSuite S6 ok, r6, q6⟩
          | some j, some y, hn =>
            obtain ⟨hi, hln⟩ := hn
            have hloc : Loc X.env.scope y := .inl hln
            refine codeAny_handlers_suite_as ?_
            refine HandSPX.lands_againZ fl3 fun h4 fl4 up4 => ?_
            obtain ⟨oe4, S4, isx⟩ := land fl4 up4
            refine store_ok (X := X.suite a (X.pn ++ pins)) (v := .ref a) S4 hN hi hloc rfl (fun s5 S5 => ?_) (.inr hln)
            refine wpAny_mono ((hsu a (X.pn ++ pins)).run [] s5 _ _ { nx := fun σ' H' => D.nx (σ'.set j none) H', rt := D.rt, bk := fun σ' H' => D.bk (σ'.set j none) H', ct := fun σ' H' => D.ct (σ'.set j none) H' } S5
              ⟨ρ1.set j (some (.exc x.c x.l)), g1, sufD (some j) DD, (rs1.mono (Kp.new na)).set j isx, rg1.beside na, w, ⟨fun ρ2 σ2 H2 g2 k2 r2 rg2 q => ct1.nx _ _ _ _ (kn.trans k2) (r2.unset j) rg2 q, fun v d2 H2 g2 k2 i2 rg2 q => ct1.rt _ _ _ _ (kn.trans k2) i2 rg2 q,
              fun ρ2 σ2 H2 g2 k2 r2 rg2 q => ct1.bk _ _ _ _ (kn.trans k2) (r2.unset j) rg2 q, fun ρ2 σ2 H2 g2 k2 r2 rg2 q => ct1.ct _ _ _ _ (kn.trans k2) (r2.unset j) rg2 q, fun _ _ _ _ _ _ _ _ _ _ _ z => z.elim⟩⟩) (fun f s6 hsp => ?_) (fun _ _ z => False.elim z)
            have end_ : ∀ {σ6 : L2.St} {H6 : Hp} {Q : Shared → Prop}, Inv (X.suite a (X.pn ++ pins)) [] σ6 H6 s6 → (∀ s7, Inv X pins (σ6.set j none) H6 s7 → Q s7) →
                wpAny (model X.prog X.w) X.A (do bindName X.env y .none; unbindBehindTheSuite X.env y pos') (fun _ s7 => Q s7) X.xe s6 := fun {σ6 H6 Q} S6 hq => gone_ok (Inv.ofSuite S6 ok) hN hi hln hq
            cases f with
            | next =>
              obtain ⟨σ6, H6, S6, q6⟩ := hsp
              exact end_ S6 fun s7 J7 => ⟨_, _, J7, q6⟩
            | brk =>
              obtain ⟨σ6, H6, S6, q6⟩ := hsp
              exact end_ S6 fun s7 J7 => ⟨_, _, J7, q6⟩
            | cont =>
              obtain ⟨σ6, H6, S6, q6⟩ := hsp
              exact end_ S6 fun s7 J7 => ⟨_, _, J7, q6⟩
            | ret u =>
              obtain ⟨v6, σ6, H6, S6, r6, q6⟩ := hsp
              exact end_ S6 fun s7 J7 => ⟨_, _, _, J7, r6, q6⟩
          | none, some _, hn => exact hn.elim
          | some _, none, hn => exact hn.elim
        | false =>
          rw [hb1] at w
          show wpAny _ X.A (handleBy (.ref a) X.env hds2) _ _ _
          exact ih w
    exact go hh hd1
  · cases f with
    | next =>
      obtain ⟨σ', H', J', q⟩ := hsp
      exact wpAny_execs_nil ⟨σ', H', J'.ofTry ok, q⟩
    | brk =>
      obtain ⟨σ', H', J', q⟩ := hsp
      exact ⟨σ', H', J'.ofTry ok, q⟩
    | cont =>
      obtain ⟨σ', H', J', q⟩ := hsp
      exact ⟨σ', H', J'.ofTry ok, q⟩
    | ret u =>
      obtain ⟨v, σ', H', J', r, q⟩ := hsp
      exact ⟨v, σ', H', J'.ofTry ok, r, q⟩
end
end Cn

namespace Cn
open PySem PySem.Spec PyProof.Rows L2

/-! ## XZ. The text of an except suite -/
def isiB (Γ : Sig) (sc : Sc) (x : Str) (kws : List Keyword) : Bool := match kws with
  | [] => (isGl sc x).and ((eqS x "isinstance").and ((memS x Γ.blts).and ((lkS x Γ.fns).isNone.and (lkS x Γ.clss).isNone)))
  | _ => false
/-- repr of a number -/
def oReprI : DOL := fun ds g Q => match ds with
  | [.int i] => i.natAbs.log2 < 1920 ∧ Q (.str (intS i)) g
  | _ => False
def repB (Γ : Sig) (sc : Sc) (x : Str) (kws : List Keyword) : Bool := match kws with
  | [] => (isGl sc x).and ((eqS x "repr").and ((memS x Γ.blts).and ((lkS x Γ.fns).isNone.and (lkS x Γ.clss).isNone)))
  | _ => false
/-- a def that may be called there, a method's name -/
def hotF (Γ : Sig) (sc : Sc) (x : Str) : Option Nat := match isGl sc x, lkS x Γ.fns with
  | true, some f => (match memN f Γ.hots with
    | true => some f
    | false => none)
  | _, _ => none
def hotM (Γ : Sig) (x : Str) : Option Nat := match nmIx x with
  | some m => (match memN m Γ.hms with
    | true => some m
    | false => none)
  | none => none
def stepHE (Γ : Sig) (N : List Str) (sc : Sc) (q : Expr → DTE) (t : Expr → DTT) (e : Expr) : DTE := match e with
  | .Constant c _ _ => cConst c
  | .Name x _ => cName Γ N sc x
  | .UnaryOp .Not a _ => dNotV (q a)
  | .BoolOp .And vs _ => cAndV (vs.map q)
  | .BoolOp .Or vs _ => cOrV (vs.map q)
  | .Tuple es _ _ => (match es.all plainArg with
    | true => dOps oTup (es.map q)
    | false => dStop)
  | .List es pos => (match es.all plainArg with
    | true => dOps (oLst (mutAt Γ pos)) (es.map q)
    | false => dStop)
  | .Attribute o x _ => (match plainBase o, nmIx x with
    | true, some f => dUn (oAttr f) (q o)
    | _, _ => dStop)
  | .Subscript a i _ => (match plainIx i with
    | true => dBin oIx (q a) (q i)
    | false => dStop)
  | .BinOp a op b pos => cBin (mutAt Γ pos) op (q a) (q b)
  | .IfExp c a b _ => dIf (t c) (q a) (q b)
  | .Call (.Name x _) es kws _ => (match isiB Γ sc x kws, repB Γ sc x kws, es.all plainArg, nonNil es, hotF Γ sc x, kwIx kws with
    | true, _, true, true, _, _ => dOps oIsi (es.map q)
    | false, true, true, true, _, _ => dOps oReprI (es.map q)
    | false, false, true, _, some f, some ks => dCall f (es.map q) ks (kws.map fun k => q k.value)
    | _, _, _, _, _, _ => dStop)
  | .Call (.Attribute o x apos) es kws pos => (match plainBase o, Nat.blt (es.length + kws.length) 29, Nat.beq apos.endLine pos.line, hotM Γ x, kwIx kws, es.all plainArg with
    | true, true, true, some mm, some ks, true => dMeth Γ.mt mm (q o) (es.map q) ks (kws.map fun k => q k.value)
    | _, _, _, _, _, _ => dStop)
  | _ => dStop
def stepHT (q : Expr → DTE) (t : Expr → DTT) (e : Expr) : DTT := match e with
  | .UnaryOp .Not a _ => dNot (t a)
  | .BoolOp .And vs _ => cAndT (vs.map t)
  | .BoolOp .Or vs _ => cOrT (vs.map t)
  | .Compare _ _ _ _ => dStopT
  | .IfExp _ _ _ _ => dStopT
  | e => dTru (q e)
def hotP (Γ : Sig) (N : List Str) (sc : Sc) : Nat → (Expr → DTE) × (Expr → DTT)
  | 0 => (fun _ => dStop, fun _ => dStopT)
  | n + 1 => (stepHE Γ N sc (hotP Γ N sc n).1 (hotP Γ N sc n).2, stepHT (hotP Γ N sc n).1 (hotP Γ N sc n).2)
def hotE (Γ : Sig) (N : List Str) (sc : Sc) (n : Nat) : Expr → DTE := (hotP Γ N sc n).1
def hotT (Γ : Sig) (N : List Str) (sc : Sc) (n : Nat) : Expr → DTT := (hotP Γ N sc n).2
def hSet (N : List Str) (sc : Sc) (q : Expr → DTE) (x : Str) (e : Expr) : DTS := match isLoc sc x, ixS x N 0, isComp e with
  | true, some i, false => dAsg (.nm i) (q e)
  | _, _, _ => dStopS
def hAsg (N : List Str) (sc : Sc) (q : Expr → DTE) (tg e : Expr) : DTS := match tg with
  | .Name x _ => hSet N sc q x e
  | .Subscript o i _ => (match plainIx i with
    | true => dPut (q o) (q i) (q e)
    | false => dStopS)
  | _ => dStopS
def hBlock (f : Stmt → DTS) : List Stmt → DTS
  | [] => dNext
  | s :: r => match r with
    | [] => f s
    | _ :: _ => dSeq (f s) (hBlock f r)
def stepHS (N : List Str) (sc : Sc) (q : Expr → DTE) (t : Expr → DTT) (r : List Stmt → DTS) (st : Stmt) : DTS := match st with
  | .Pass _ => dNext
  | .Break _ => dBrk
  | .Continue _ => dCnt
  | .Expr (.Constant (.str _) _ _) _ => dNext
  | .Expr e _ => (match isComp e with
    | false => dExpr (q e)
    | true => dStopS)
  | .Return (some e) _ => dRet (q e)
  | .Return none _ => dRetN
  | .If c a b _ => dIfS (t c) (r a) (r b)
  | .Assign [tg] e _ => hAsg N sc q tg e
  | _ => dStopS
def hotS (Γ : Sig) (N : List Str) (sc : Sc) : Nat → List Stmt → DTS
  | 0 => fun _ => dStopS
  | n + 1 => hBlock (stepHS N sc (hotE Γ N sc 12) (hotT Γ N sc 12) (hotS Γ N sc n))
section
variable {X : Cx} {T : Tab} {Γ : Sig} {C : Cal} {N : List Str} {sc : Sc} {W : WX} {pos : Pos}
theorem cReprI {X : Cx} {T : Tab} : CallR X (.builtin "repr") (LOL T X.K oReprI) := by
  intro pins s σ H xs us Q I rx ⟨ds, g, QD, il, rg, h, c⟩
  unfold oReprI at h
  split at h
  · rename_i i
    obtain ⟨v, rfl, iv⟩ := IsL.one il
    obtain ⟨u, rfl, r⟩ := vals1 rx
    simp only [Is] at iv
    subst iv
    obtain ⟨tk, rfl⟩ := r
    refine PySem.P.repr_of_int h.1 ⟨.str (S (intS i)), H, I.tok _, ?_, c.is (d := .str (intS i)) (by simp only [Is]) rg h.2⟩
    rw [← S_int]
    exact ⟨_, rfl⟩
  · exact h.elim
theorem stepHE_ok {k : Nat} (G : GoodH T Γ C N k X sc W) {q : Expr → DTE} (Q : ∀ e, PE X e (LE T X.K C W (q e))) {t : Expr → DTT} (Qt : ∀ e, PT X e (LT T X.K C W (t e))) (e : Expr) : PE X e (LE T X.K C W (stepHE Γ N sc q t e)) := by
  unfold stepHE
  split
  · exact cConst_ok
  · exact cName_okB G.B
  · exact de_notV (Q _)
  · exact cAndV_ok Q _
  · exact cOrV_ok Q _
  · split
    · rename_i hp
      exact de_tup (cArgs_ok Q _ hp)
    · exact de_stop
  · split
    · rename_i hp
      exact de_lst (cArgs_ok Q _ hp)
    · exact de_stop
  · split
    · rename_i h1 h2
      exact de_attr G.B.KC (nmIx_ok h2) h1 (Q _)
    · exact de_stop
  · split
    · rename_i h
      exact de_ix (by have := G.rh.un; omega) h (Q _) (Q _)
    · exact de_stop
  · exact cBin_ok (Q _) (Q _)
  · exact de_if (Qt _) (Q _) (Q _)
  · rename_i x px es kws ps
    split
    · rename_i _ _ _ h1 h2 h3
      cases es with
      | nil => cases h3
      | cons e es =>
        unfold isiB at h1
        split at h1
        · simp only [Bool.and_eq_true] at h1
          obtain ⟨g1, g2, g3, _⟩ := h1
          have ex := eqS_iff.mp g2
          subst ex
          exact de_blt (show CallR X (Bk.v (.b "isinstance")) (LOL T X.K oIsi) from cIsi G.B.KC) (isGl_okB G.B g1).1 (G.B.blts _ (memS_ok g3)) boot_isinstance (by decide) (by decide) h2 (cArgs_ok Q _ h2)
        · cases h1
    · rename_i _ _ h0 h1 h2 h3
      cases es with
      | nil => cases h3
      | cons e es =>
        unfold repB at h1
        split at h1
        · simp only [Bool.and_eq_true] at h1
          obtain ⟨g1, g2, g3, _⟩ := h1
          have ex := eqS_iff.mp g2
          subst ex
          exact de_blt (show CallR X (Bk.v (.b "repr")) (LOL T X.K oReprI) from cReprI) (isGl_okB G.B g1).1 (G.B.blts _ (memS_ok g3)) boot_repr (by decide) (by decide) h2 (cArgs_ok Q _ h2)
        · cases h1
    · rename_i f ks h1 h0 h2 h3 h4
      unfold hotF at h3
      split at h3
      · rename_i f' g1 g2
        split at h3
        · rename_i g3
          cases h3
          rw [lkS_eq] at g2
          obtain ⟨f1, f2⟩ := G.B.fns _ _ g2
          obtain ⟨g4, g5⟩ := isGl_okB G.B g1
          exact de_callG (run_h (G.hcs _ g3) G.rh G.tk) g4 f1 f2 g5 (by rw [List.length_map]) h2 (kwIx_ok h4) (cArgs_ok Q _ h2) (cKws_ok Q _)
        · cases h3
      · cases h3
    · exact de_stop
  · rename_i o x apos es kws ps
    split
    · rename_i mm ks h1 h2 h3 h4 h5 h6
      unfold hotM at h4
      split at h4
      · rename_i m hm
        split at h4
        · rename_i hh
          cases h4
          have hk := kwIx_ok h5
          refine de_methG (fun c f hf => run_h (G.hcs _ (G.hmo _ c f hh hf)) G.rh G.tk) G.B.KC (fun c f o q => G.mth c _ f o q) (fun d g o q => bmt_ok q) (nmIx_ok hm) h1 ?_ ?_ (by rw [List.length_map]) (klen hk) h6 hk (Q o) (cArgs_ok Q _ h6) (cKws_ok Q _)
          · exact Nat.le_of_ble_eq_true h2
          · exact beq_iff_eq.mpr (Nat.eq_of_beq_eq_true h3)
        · cases h4
      · cases h4
    · exact de_stop
  · exact de_stop
theorem stepHT_ok {q : Expr → DTE} (Q : ∀ e, PE X e (LE T X.K C W (q e))) {t : Expr → DTT} (Qt : ∀ e, PT X e (LT T X.K C W (t e))) (e : Expr) : PT X e (LT T X.K C W (stepHT q t e)) := by
  unfold stepHT
  split
  · exact dt_not (Qt _)
  · exact (cAndT_ok Qt _).pt
  · exact (cOrT_ok Qt _).pt
  · exact dt_stop
  · exact dt_stop
  · rename_i h1 h2 h3 h4 h5
    refine dt_tru ?_ (Q e)
    unfold plainT
    split
    · rename_i a b; exact absurd rfl (h1 a b)
    · rename_i op vs b
      cases op
      · exact absurd rfl (h2 vs b)
      · exact absurd rfl (h3 vs b)
    · rename_i a b c d; exact absurd rfl (h5 a b c d)
    · rename_i a b c d; exact absurd rfl (h4 a b c d)
    · rfl
theorem hotP_ok {k : Nat} (G : GoodH T Γ C N k X sc W) : ∀ n, (∀ e, PE X e (LE T X.K C W (hotE Γ N sc n e))) ∧ ∀ e, PT X e (LT T X.K C W (hotT Γ N sc n e))
  | 0 => ⟨fun _ => de_stop, fun _ => dt_stop⟩
  | n + 1 => ⟨fun e => stepHE_ok G (hotP_ok G n).1 (hotP_ok G n).2 e, fun e => stepHT_ok (hotP_ok G n).1 (hotP_ok G n).2 e⟩
theorem hotE_ok {k : Nat} (G : GoodH T Γ C N k X sc W) (n : Nat) (e : Expr) : PE X e (LE T X.K C W (hotE Γ N sc n e)) := (hotP_ok G n).1 e
theorem hotT_ok {k : Nat} (G : GoodH T Γ C N k X sc W) (n : Nat) (e : Expr) : PT X e (LT T X.K C W (hotT Γ N sc n e)) := (hotP_ok G n).2 e
theorem ndB (G : GoodB T Γ N X sc) : X.N.Nodup := by rw [G.hN]; exact G.nd
theorem soleH {t e : Expr} {l : Nat} {env : Env} : swapsWithSole [t] e l env = swapsWith e (some t) l env := by unfold swapsWithSole; rfl
theorem hSet_ok {x : Str} {px : Pos} (G : GoodB T Γ N X sc) {q : Expr → DTE} (Q : ∀ e, PE X e (LE T X.K C W (q e))) (e : Expr) : PS X (.Assign [.Name x px] e pos) (LS T X.K C W (hSet N sc q x e)) := by
  unfold hSet
  split
  · rename_i i hl hi hc
    obtain ⟨l1, l2⟩ := isLoc_okB G hl
    exact ds_asg (Q e) (dg_name (ndB G) (by rw [G.hN]; exact ixS_at hi) l1 l2) (soleH.trans (sw_plain hc)) (ss_name rfl) rfl
  · exact ds_stop
theorem hAsg_ok (G : GoodB T Γ N X sc) {q : Expr → DTE} (Q : ∀ e, PE X e (LE T X.K C W (q e))) (tg e : Expr) : PS X (.Assign [tg] e pos) (LS T X.K C W (hAsg N sc q tg e)) := by
  unfold hAsg
  split
  · exact hSet_ok G Q e
  · split
    · rename_i h
      exact ds_put (Q _) (Q _) (Q _) (soleH.trans (sw_tgt rfl)) h
    · exact ds_stop
  · exact ds_stop
theorem hBlock_ok {f : Stmt → DTS} (h : ∀ st, PS X st (LS T X.K C W (f st))) : ∀ l : List Stmt, PSs X l (LS T X.K C W (hBlock f l))
  | [] => dss_nil
  | [s] => dss_one (h s)
  | s :: t :: r => by
    unfold hBlock
    exact dss_cons (h s) (hBlock_ok h (t :: r))
theorem stepHS_ok {k : Nat} (G : GoodH T Γ C N k X sc W) {q : Expr → DTE} (Q : ∀ e, PE X e (LE T X.K C W (q e))) {t : Expr → DTT} (Qt : ∀ e, PT X e (LT T X.K C W (t e))) {r : List Stmt → DTS} (hr : ∀ l, PSs X l (LS T X.K C W (r l))) (st : Stmt) : PS X st (LS T X.K C W (stepHS N sc q t r st)) := by
  unfold stepHS
  split
  · exact ds_pass
  · exact ds_brk
  · exact ds_cnt
  · exact ds_doc
  · split
    · rename_i h
      exact ds_expr (Q _) (sw_plain h)
    · exact ds_stop
  · exact ds_ret (Q _)
  · exact ds_retN
  · exact ds_if (Qt _) (hr _) (hr _)
  · exact hAsg_ok G.B Q _ _
  · exact ds_stop
theorem hotS_ok {k : Nat} (G : GoodH T Γ C N k X sc W) : ∀ n l, PSs X l (LS T X.K C W (hotS Γ N sc n l))
  | 0, l => ⟨fun _ _ _ _ _ _ ⟨_, _, _, _, _, h, _⟩ => h.elim⟩
  | n + 1, l => hBlock_ok (fun st => stepHS_ok G (fun e => hotE_ok G 12 e) (fun e => hotT_ok G 12 e) (fun l => hotS_ok G n l) st) l
theorem GoodB.suite (G : GoodB T Γ N X sc) (a : Addr) (pn : List (Addr × Obj)) : GoodB T Γ N (X.suite a pn) sc := ⟨G.hN, G.nd, G.hsc, G.kind, G.cell, G.KC, G.fns, G.clss, G.blts, G.cons, G.xcl⟩
/-- the clauses of the text -/
def cHds (Γ : Sig) (N : List Str) (sc : Sc) : List ExceptHandler → Option XH
  | [] => some []
  | .ExceptHandler (some (.Name x _)) n (b₀ :: suite) _ :: r => (match isGl sc x, lkS x Γ.xcls, cHds Γ N sc r with
    | true, some k, some l => (match n with
      | none => some ((k, none, hotS Γ N sc 8 (b₀ :: suite)) :: l)
      | some y => (match lcl sc.sc y, ixS y N 0 with
        | true, some j => some ((k, some j, hotS Γ N sc 8 (b₀ :: suite)) :: l)
        | _, _ => none))
    | _, _, _ => none)
  | _ => none
theorem GoodH.suite {k : Nat} (G : GoodH T Γ C N k X sc W) (a : Addr) (pn : List (Addr × Obj)) : GoodH T Γ C N k (X.suite a pn) sc (fun _ _ _ _ => False) := ⟨G.B.suite a pn, takes_no, ⟨G.rh.dp, G.rh.un⟩, G.mth, G.hcs, G.hmo⟩
theorem cHds_ok {k : Nat} (G : GoodH T Γ C N k X sc W) : ∀ {hds : List ExceptHandler} {l : XH}, cHds Γ N sc hds = some l → HdF X T C hds l
  | [], l, h => by cases h; exact .nil
  | hd :: r, l, h => by
    unfold cHds at h
    split at h
    · rename_i e
      cases e
    · rename_i x px n b₀ suite ps r' e
      cases e
      split at h
      · rename_i k l2 h1 h2 h3
        obtain ⟨g1, g2⟩ := isGl_okB G.B h1
        rw [lkS_eq] at h2
        obtain ⟨m1, m2⟩ := G.B.xcl x _ h2
        split at h
        · cases h
          exact .cons ⟨g1, g2, .inl m1⟩ (fun c hc => G.B.KC.xexm c _ hc m2) trivial (fun a pn => hotS_ok (G.suite a pn) 8 _) (cHds_ok G h3)
        · rename_i y
          split at h
          · rename_i j h4 h5
            cases h
            refine .cons ⟨g1, g2, .inl m1⟩ (fun c hc => G.B.KC.xexm c _ hc m2) ⟨by rw [G.B.hN]; exact ixS_at h5, ?_⟩ (fun a pn => hotS_ok (G.suite a pn) 8 _) (cHds_ok G h3)
            unfold Env.kindOf
            rw [G.B.hsc]
            exact lcl_ok h4
          · cases h
      · cases h
    · cases h
end
end Cn

namespace Cn
open PySem PySem.Spec PyProof.Rows L2

/-! ## BB. Statements of the text -/
structure GoodS (T : Tab) (Γ : Sig) (C : Cal) (N : List Str) (k : Nat) (X : Cx) (sc : Sc) (W : WX) : Prop where
  E : GoodE T Γ C N k X sc W
  pass : PassesOwn (model X.prog X.w) X.A X.env X.xe
  stk : X.stack = X.env :: X.outer
  frm : X.env.frame = some X.env.locals
  ex : X.ex = []
  rz : ∀ c, memN c Γ.rzs = true → T.xok c = true → (xfl c = [] ∧ RzA X.K (T.xA c) c) ∨ ∃ n, xfl c = [n] ∧ RzB X.K X.mg (T.xA c) n (xdi c)
/-- x += y -/
def oIAdd : DO2 := fun x y g Q => match x, y with
  | .int i, .int j => Q (.int (i + j)) g
  | .str a, .str b => a.length + b.length ≤ sizeLine ∧ Q (.str (a ++ b)) g
  | _, _ => False
def oISub : DO2 := fun x y g Q => match x, y with
  | .int i, .int j => Q (.int (i - j)) g
  | _, _ => False
section
variable {X : Cx} {T : Tab}
theorem PIp_of {op : Operator} {o : DO2} (h : ∀ x y H Q, LO2 T X.K o x y H Q → ∃ r, PIp X op r ∧ r x y H Q) : PIp X op (LO2 T X.K o) := fun pins s σ H x y v u Q I r1 r2 q => by
  obtain ⟨r, hr, hq⟩ := h x y H Q q
  exact hr pins s σ H x y v u Q I r1 r2 hq
theorem xIAdd : PIp X .Add (LO2 T X.K oIAdd) := PIp_of fun x y H Q ⟨dx, dy, g, QD, ix, iy, rg, h, c⟩ => by
  unfold oIAdd at h
  split at h
  · simp only [Is] at ix iy
    exact ⟨_, ip_add, _, _, ix, iy, c.is (by simp only [Is]) rg h⟩
  · simp only [Is] at ix iy
    exact ⟨rAddS, in_addS, _, _, ix, iy, by rw [S_len, S_len]; exact h.1, c.is (by simp only [Is]; rw [S_app]) rg h.2⟩
  · exact h.elim
theorem xISub : PIp X .Sub (LO2 T X.K oISub) := PIp_of fun x y H Q ⟨dx, dy, g, QD, ix, iy, rg, h, c⟩ => by
  unfold oISub at h
  split at h
  · simp only [Is] at ix iy
    exact ⟨_, ip_sub, _, _, ix, iy, c.is (by simp only [Is]) rg h⟩
  · exact h.elim
end
theorem sole {t e : Expr} {l : Nat} {env : Env} : swapsWithSole [t] e l env = swapsWith e (some t) l env := by unfold swapsWithSole; rfl
def ipD : Operator → Option DO2
  | .Add => some oIAdd | .Sub => some oISub | _ => none
def cSet (Γ : Sig) (N : List Str) (sc : Sc) (p : Pk) (x : Str) (e : Expr) : DTS := match isLoc sc x, ixS x N 0 with
  | true, some i => (match e with
    | .ListComp elt [⟨tg, iter, ifs, 0⟩] scope pc => dAsg (.nm i) (cComp Γ N sc p (mutAt Γ pc) elt tg iter ifs scope)
    | e => (match isComp e with
      | false => dAsg (.nm i) (p.e sc e)
      | true => dStopS))
  | _, _ => dStopS
def cPar (N : List Str) (sc : Sc) (p : Pk) (ts vs : List Expr) (other : DTS) : DTS := match ts, vs with
  | [.Name x px, .Name y py], [a, b] => (match [a, b].all plainArg, [a, b].all (foldedForSure 8), [a, b].all (constantsAlone 8), lcl sc.sc x && (lcl sc.sc y && (Nat.beq py.line px.line && !eqS y x)), ixS x N 0, ixS y N 0 with
    | true, true, _, _, _, _ => other
    | true, false, false, true, some i, some j => dPar [i, j] [p.e sc a, p.e sc b]
    | _, _, _, _, _, _ => dStopS)
  | [.Name x px, .Name y py, .Name z pz], [a, b, c] => (match [a, b, c].all plainArg, [a, b, c].all (foldedForSure 8), [a, b, c].all (constantsAlone 8),
      lcl sc.sc x && (lcl sc.sc y && (lcl sc.sc z && (Nat.beq py.line px.line && (Nat.beq pz.line px.line && (!eqS y x && (!eqS z x && !eqS z y)))))), ixS x N 0, ixS y N 0, ixS z N 0 with
    | true, true, _, _, _, _, _ => other
    | true, false, false, true, some i, some j, some l => dPar [i, j, l] [p.e sc a, p.e sc b, p.e sc c]
    | _, _, _, _, _, _, _ => dStopS)
  | ts, _ => (match ts.length == 2 || ts.length == 3 with
    | false => other
    | true => dStopS)
def cAsg (Γ : Sig) (N : List Str) (sc : Sc) (p : Pk) (tg e : Expr) : DTS := match tg with
  | .Name x _ => cSet Γ N sc p x e
  | .Subscript o i _ => (match plainIx i with
    | true => dPut (p.e sc o) (p.e sc i) (p.e sc e)
    | false => dStopS)
  | .Attribute o x _ => (match nmIx x with
    | some f => dFld f (p.e sc o) (p.e sc e)
    | none => dStopS)
  | .Tuple ts _ _ => (match cTg N sc 3 tg with
    | some t => (match e with
      | .Tuple vs _ _ => cPar N sc p ts vs (dAsg t (p.e sc e))
      | e => dAsg t (p.e sc e))
    | none => dStopS)
  | _ => dStopS
def cBlock (f : Stmt → DTS) : List Stmt → DTS
  | [] => dNext
  | s :: r => match r with
    | [] => f s
    | _ :: _ => dSeq (f s) (cBlock f r)
def cRz (Γ : Sig) (sc : Sc) (p : Pk) (e : Expr) : DTS := match e with
  | .Call (.Name x _) (a :: es) [] _ => (match isGl sc x, lkS x Γ.xcls, (a :: es).all plainArg with
    | true, some c, true => (match memN c Γ.rzs with
      | true => dRaise c ((a :: es).map (p.e sc))
      | false => dStopS)
    | _, _, _ => dStopS)
  | .Call (.Name x _) [] [] _ => (match isGl sc x, lkS x Γ.xcls with
    | true, some c => (match memN c Γ.rzs with
      | true => dRaise0 c
      | false => dStopS)
    | _, _ => dStopS)
  | _ => dStopS
def cTry (Γ : Sig) (N : List Str) (sc : Sc) (q : List Stmt → DTS) (b : List Stmt) (hds : List ExceptHandler) : DTS := match hds with
  | [] => dStopS
  | h :: r => (match cHds Γ N sc (h :: r) with
    | some l => dTry (q b) l
    | none => dStopS)
def stepS (Γ : Sig) (N : List Str) (sc : Sc) (p : Pk) (q : List Stmt → DTS) (st : Stmt) : DTS := match st with
  | .Pass _ => dNext
  | .Break _ => dBrk
  | .Continue _ => dCnt
  | .Expr (.Constant (.str _) _ _) _ => dNext
  | .Expr e _ => (match isComp e with
    | false => dExpr (p.e sc e)
    | true => dStopS)
  | .Return (some e) _ => dRet (p.e sc e)
  | .Return none _ => dRetN
  | .If c a b _ => dIfS (p.t sc c) (q a) (q b)
  | .While c b [] _ => dWhile (p.t sc c) (q b)
  | .For tg it b [] _ => (match plainIter it, cTg N sc 3 tg with
    | true, some t => dFor (cIter Γ sc p tg it) t (q b)
    | _, _ => dStopS)
  | .Assign [tg] e _ => cAsg Γ N sc p tg e
  | .AugAssign (.Name x _) op e _ => (match isLoc sc x, ixS x N 0, ipD op with
    | true, some i, some o => dAug i o (p.e sc e)
    | _, _, _ => dStopS)
  | .Raise (some e) none _ => cRz Γ sc p e
  | .Try b hds [] [] _ => cTry Γ N sc q b hds
  | _ => dStopS
def lvlS (Γ : Sig) (N : List Str) (sc : Sc) (p : Pk) : Nat → List Stmt → DTS
  | 0 => fun _ => dStopS
  | n + 1 => cBlock (stepS Γ N sc p (lvlS Γ N sc p n))
section
variable {X : Cx} {T : Tab} {Γ : Sig} {C : Cal} {N : List Str} {k : Nat} {sc : Sc} {W : WX} {pos : Pos} {p : Pk}
theorem ls_asg_stop {t : Tg} {st : Stmt} : PS X st (LS T X.K C W (dAsg t dStop)) := ⟨fun _ _ _ _ _ _ ⟨_, _, _, _, _, h, _⟩ => h.elim⟩
theorem cSetLc_ok {m : Bool} {i : Nat} {y : Str} {py spos : Pos} (G : GoodE T Γ C N k X sc W) (P : PkOk Γ N p) (hi : N[i]? = some y) (hyl : sc.sc.names.lookup y = some .local) (elt tg iter : Expr) (ifs : List Expr) (scope : Scope)
    (hsw : swapsWith (.ListComp elt [⟨tg, iter, ifs, 0⟩] scope pos) (some (.Name y py)) spos.line X.env = pure true) : PS X (.Assign [.Name y py] (.ListComp elt [⟨tg, iter, ifs, 0⟩] scope pos) spos) (LS T X.K C W (dAsg (.nm i) (cComp Γ N sc p m elt tg iter ifs scope))) := by
  unfold cComp
  split
  · rename_i t hb hit ht hgm
    split
    · rename_i ho
      have nd := G.nd
      rw [← G.hN] at nd
      have bo : BlkOk X.N X.env.scope scope (blkOwn N scope.names) := by
        have := blkB_ok (N := N) hb
        rw [G.hN, G.hsc]
        exact this
      have hy : X.N[i]? = some y := by rw [G.hN]; exact hi
      have hyl' : X.env.scope.names.lookup y = some .local := by rw [G.hsc]; exact hyl
      split
      · exact ds_setLc G.calm nd hy hyl' hsw (cIter_ok G P iter) bo (fun s H C' cl fp => cTg_ok (G.blk hgm bo.kind s H C' cl fp) 3 ht) (fun _ _ _ _ _ => pts_yes) (fun s H C' cl fp => P.e (G.blk hgm bo.kind s H C' cl fp) elt) (fun x => plainIter_ok hit x) (ownB_ok ho)
      · exact ds_setLc G.calm nd hy hyl' hsw (cIter_ok G P iter) bo (fun s H C' cl fp => cTg_ok (G.blk hgm bo.kind s H C' cl fp) 3 ht) (fun s H C' cl fp => pts_one (P.t (G.blk hgm bo.kind s H C' cl fp) _)) (fun s H C' cl fp => P.e (G.blk hgm bo.kind s H C' cl fp) elt) (fun x => plainIter_ok hit x) (ownB_ok ho)
      · exact ls_asg_stop
    · exact ls_asg_stop
  · exact ls_asg_stop
theorem ndX (G : GoodE T Γ C N k X sc W) : X.N.Nodup := by rw [G.hN]; exact G.nd
theorem cSet_ok {x : Str} {px : Pos} (G : GoodE T Γ C N k X sc W) (P : PkOk Γ N p) (e : Expr) : PS X (.Assign [.Name x px] e pos) (LS T X.K C W (cSet Γ N sc p x e)) := by
  unfold cSet
  split
  · rename_i i hl hi
    obtain ⟨l1, l2⟩ := isLoc_ok G hl
    have hi' : X.N[i]? = some x := by rw [G.hN]; exact ixS_at hi
    split
    · rename_i elt tg iter ifs scope pc
      cases hs : swB X.env.scope x px scope pc with
      | true =>
        refine cSetLc_ok G P (ixS_at hi) ?_ elt tg iter ifs scope (by rw [sw_lc (by rw [G.hsc]; exact G.kind), hs])
        unfold swB at hs
        have h1 := (Bool.and_eq_true_iff.mp hs).1
        rw [G.hsc] at h1
        exact lcl_ok h1
      | false => exact ds_asg (cComp_ok G P elt tg iter ifs scope) (dg_name (ndX G) hi' l1 l2) (by rw [sole, sw_lc (by rw [G.hsc]; exact G.kind), hs]) (ss_name rfl) rfl
    · split
      · rename_i hc
        exact ds_asg (P.e G _) (dg_name (ndX G) hi' l1 l2) (sole.trans (sw_plain hc)) (ss_name rfl) rfl
      · exact ds_stop
  · exact ds_stop
theorem not_eqS {a b : Str} (h : (!eqS a b) = true) : eqS a b = false := by
  cases e : eqS a b with
  | true => rw [e] at h; cases h
  | false => rfl
theorem ix_ne {N : List Str} {x y : Str} {i j : Nat} (h : eqS y x = false) (hi : N[i]? = some x) (hj : N[j]? = some y) : i ≠ j := fun e => by
  subst e
  rw [hi] at hj
  cases hj
  rw [eqS_iff.mpr rfl] at h
  cases h
theorem cPar_ok {kt k2 : Nat} {pt p2 : Pos} {other : DTS} (G : GoodE T Γ C N k X sc W) (P : PkOk Γ N p) (ts vs : List Expr)
    (ho : swappedStores [.Tuple ts kt pt] (.Tuple vs k2 p2) X.env = pure none → PS X (.Assign [.Tuple ts kt pt] (.Tuple vs k2 p2) pos) (LS T X.K C W other)) :
    PS X (.Assign [.Tuple ts kt pt] (.Tuple vs k2 p2) pos) (LS T X.K C W (cPar N sc p ts vs other)) := by
  have hk : X.env.scope.kind = .function := by rw [G.hsc]; exact G.kind
  unfold cPar
  split
  · split
    · rename_i h1 h2
      exact ho (ss_const h1 h2)
    · rename_i i j h1 h2 h3 h4 h5 h6
      simp only [Bool.and_eq_true] at h4
      obtain ⟨g1, g2, g3, g4⟩ := h4
      rw [← G.hsc] at g1 g2
      have hi := ixS_at h5
      rw [← G.hN] at hi
      have hj := ixS_at h6
      rw [← G.hN] at hj
      exact ds_par2 G.calm (ndX G) hi hj (ix_ne (not_eqS g4) hi hj) (lcl_ok g1) (lcl_ok g2) (cArgs_ok (P.e G) [_, _] h1) (ss_two hk g1 g2 g3 (not_eqS g4) h1 h2 h3) (sole.trans (sw_tgt rfl))
    · exact ds_stop
  · split
    · rename_i h1 h2
      exact ho (ss_const h1 h2)
    · rename_i i j l h1 h2 h3 h4 h5 h6 h7
      simp only [Bool.and_eq_true] at h4
      obtain ⟨g1, g2, g3, g4, g5, g6, g7, g8⟩ := h4
      rw [← G.hsc] at g1 g2 g3
      have hi := ixS_at h5
      rw [← G.hN] at hi
      have hj := ixS_at h6
      rw [← G.hN] at hj
      have hl := ixS_at h7
      rw [← G.hN] at hl
      exact ds_par3 G.calm (ndX G) hi hj hl (ix_ne (not_eqS g6) hi hj) (ix_ne (not_eqS g7) hi hl) (ix_ne (not_eqS g8) hj hl) (lcl_ok g1) (lcl_ok g2) (lcl_ok g3) (cArgs_ok (P.e G) [_, _, _] h1)
        (ss_three hk g1 g2 g3 g4 g5 (not_eqS g6) (not_eqS g7) (not_eqS g8) h1 h2 h3) (sole.trans (sw_tgt rfl))
    · exact ds_stop
  · split
    · rename_i h
      exact ho (ss_len h)
    · exact ds_stop
theorem cAsg_ok (G : GoodE T Γ C N k X sc W) (P : PkOk Γ N p) (tg e : Expr) : PS X (.Assign [tg] e pos) (LS T X.K C W (cAsg Γ N sc p tg e)) := by
  unfold cAsg
  split
  · exact cSet_ok G P e
  · split
    · rename_i h
      exact ds_put (P.e G _) (P.e G _) (P.e G _) (sole.trans (sw_tgt rfl)) h
    · exact ds_stop
  · split
    · rename_i f hf
      exact ds_fld G.KC (nmIx_ok hf) (P.e G _) (P.e G _) (sw_tgt rfl)
    · exact ds_stop
  · split
    · rename_i t ht
      split
      · exact cPar_ok G P _ _ fun hw => ds_asg (P.e G _) (cTg_ok G 3 ht) (sole.trans (sw_tgt rfl)) hw rfl
      · rename_i h
        refine ds_asg (P.e G _) (cTg_ok G 3 ht) (sole.trans (sw_tgt rfl)) (ss_plain ?_) rfl
        cases e <;> first | rfl | exact absurd rfl (h _ _ _)
    · exact ds_stop
  · exact ds_stop
theorem ipD_ok {op : Operator} {o : DO2} (h : ipD op = some o) : PIp X op (LO2 T X.K o) := by
  cases op <;> first | (cases h; done) | skip
  · cases h; exact xIAdd
  · cases h; exact xISub
theorem cBlock_ok {f : Stmt → DTS} (h : ∀ st, PS X st (LS T X.K C W (f st))) : ∀ l : List Stmt, PSs X l (LS T X.K C W (cBlock f l))
  | [] => dss_nil
  | [s] => dss_one (h s)
  | s :: t :: r => by
    unfold cBlock
    exact dss_cons (h s) (cBlock_ok h (t :: r))
theorem cRz_ok {e : Expr} (G : GoodS T Γ C N k X sc W) (P : PkOk Γ N p) (pos' : Pos) : PS X (.Raise (some e) none pos') (LS T X.K C W (cRz Γ sc p e)) := by
  unfold cRz
  split
  · rename_i x px a es ps
    split
    · rename_i c h1 h2 h3
      split
      · rename_i h4
        obtain ⟨g1, g2⟩ := isGl_ok G.E h1
        rw [lkS_eq] at h2
        obtain ⟨m1, m2⟩ := G.E.xcl x c h2
        have ha := cArgs_ok (P.e G.E) (a :: es) h3
        rcases G.rz c h4 m2 with ⟨z1, z2⟩ | ⟨n, z1, z2⟩
        · exact ds_raiseA G.E.calm G.E.tk z2 m1 g1 m2 z1 h3 ha g2
        · exact ds_raiseB G.E.calm G.E.tk z2 m1 g1 m2 z1 G.E.rm2.rm.room h3 ha g2
      · exact ds_stop
    · exact ds_stop
  · split
    · rename_i c h1 h2
      split
      · rename_i h4
        obtain ⟨g1, g2⟩ := isGl_ok G.E h1
        rw [lkS_eq] at h2
        obtain ⟨m1, m2⟩ := G.E.xcl _ c h2
        cases hd : xdi c with
        | none =>
          refine PS.imp (ds_stop (C := C) (W := W) (T := T)) fun Dn σ H ⟨ρ, g, DD, rs, rg, h, cc⟩ => ?_
          unfold dRaise0 at h
          rw [hd] at h
          exact h.elim
        | some i =>
          rcases G.rz c h4 m2 with ⟨z1, z2⟩ | ⟨n, z1, z2⟩
          · have z3 : xfl c ≠ [] := by
              unfold xdi at hd
              split at hd
              · decide
              · cases hd
            exact absurd z1 z3
          · rw [hd] at z2
            exact ds_raise0 G.E.calm G.E.tk z2 m1 g1 m2 z1 hd G.E.rm2.rm.room g2
      · exact ds_stop
    · exact ds_stop
  · exact ds_stop
theorem GoodE.tr (G : GoodE T Γ C N k X sc W) {W' : WX} {pn : List (Addr × Obj)} {xe : Value → Shared → Prop} (tk : Takes (X.tr pn xe) W') : GoodE T Γ C N k (X.tr pn xe) sc W' :=
  { rm2 := ⟨G.rm2.rm, G.rm2.ex⟩, cal := G.cal, calm := G.calm, hN := G.hN, nd := G.nd, hsc := G.hsc, kind := G.kind, cell := G.cell, tk := tk, KC := G.KC, mth := G.mth, fns := G.fns, clss := G.clss, mks := G.mks, blts := G.blts, cons := G.cons, hk := G.hk, rp := G.rp, eqs := G.eqs, xcl := G.xcl, sts := G.sts, lns := G.lns, hcs := G.hcs, hmo := G.hmo }
theorem cTry_ok {q : List Stmt → DTS} (G : GoodS T Γ C N k X sc W) (hq : ∀ {X : Cx} {W : WX}, GoodS T Γ C N k X sc W → ∀ l, PSs X l (LS T X.K C W (q l))) (b : List Stmt) (hds : List ExceptHandler) : PS X (.Try b hds [] [] pos) (LS T X.K C W (cTry Γ N sc q b hds)) := by
  unfold cTry
  split
  · exact ds_stop
  · split
    · rename_i l hl
      exact ds_try G.stk G.frm G.ex (ndX G.E) G.E.tk (fun W' pn xe tk ps => hq { E := G.E.tr tk, pass := ps, stk := G.stk, frm := G.frm, ex := G.ex, rz := G.rz } b) (cHds_ok G.E.toH hl)
    · exact ds_stop
theorem stepS_ok {q : List Stmt → DTS} (G : GoodS T Γ C N k X sc W) (P : PkOk Γ N p) (hq : ∀ {X : Cx} {W : WX}, GoodS T Γ C N k X sc W → ∀ l, PSs X l (LS T X.K C W (q l))) (st : Stmt) : PS X st (LS T X.K C W (stepS Γ N sc p q st)) := by
  unfold stepS
  split
  · exact ds_pass
  · exact ds_brk
  · exact ds_cnt
  · exact ds_doc
  · split
    · rename_i h
      exact ds_expr (P.e G.E _) (sw_plain h)
    · exact ds_stop
  · exact ds_ret (P.e G.E _)
  · exact ds_retN
  · exact ds_if (P.t G.E _) (hq G _) (hq G _)
  · exact ds_while G.pass (P.t G.E _) (hq G _)
  · split
    · rename_i t hi ht
      exact ds_for G.pass G.E.calm (cIter_ok G.E P _) (cTg_ok G.E 3 ht) (hq G _) (fun x => plainIter_ok hi x)
    · exact ds_stop
  · exact cAsg_ok G.E P _ _
  · split
    · rename_i i o hl hi ho
      obtain ⟨l1, l2⟩ := isLoc_ok G.E hl
      exact ds_aug (ndX G.E) (by rw [G.E.hN]; exact ixS_at hi) l1 (P.e G.E _) (ipD_ok ho) l2
    · exact ds_stop
  · exact cRz_ok G P _
  · exact cTry_ok G hq _ _
  · exact ds_stop
theorem lvlS_ok (P : PkOk Γ N p) : ∀ n, ∀ {X : Cx} {W : WX}, GoodS T Γ C N k X sc W → ∀ l, PSs X l (LS T X.K C W (lvlS Γ N sc p n l))
  | 0, _, _, _ => fun l => ⟨fun _ _ _ _ _ _ ⟨_, _, _, _, _, h, _⟩ => h.elim⟩
  | n + 1, _, _, G => fun l => cBlock_ok (fun st => stepS_ok G P (fun G l => lvlS_ok P n G l) st) l
end
end Cn

namespace Cn
open PySem PySem.Spec PyProof.Rows L2

/-! ## CC. Defs -/
/-- what a text's top has left -/
structure Top (T : Tab) (Γ : Sig) (K : PySem.W.Frag) (mg : Str → Option Value) : Prop where
  KC : ClsOk T K
  mth : ∀ c m f, T.ok c = true → Γ.mt c m = some f → Meth K (T.cA c) (nm m) (T.fA f)
  fns : ∀ x f, Γ.fns.lookup x = some f → mg x = some (.ref (T.fA f)) ∧ PySem.W.keepIn K (.ref (T.fA f)) = true
  clss : ∀ x c, Γ.clss.lookup x = some c → mg x = some (.ref (T.cA c)) ∧ T.ok c = true
  mks : ∀ c q, Γ.mks.lookup c = some q → T.ok c = true ∧ Mk K (T.cA c) (T.fA q.1)
  blts : ∀ x ∈ Γ.blts, mg x = none
  cons : ∀ x d, Γ.cons.lookup x = some d → ∃ v u, mg x = some u ∧ RelV v u ∧ ∀ H, Is T K H d v
  eqs : ∀ c f, T.ok c = true → Γ.et c = some f → EqM K (T.cA c) (T.fA f)
  xcl : ∀ x c, Γ.xcls.lookup x = some c → mg x = some (.ref (T.xA c)) ∧ T.xok c = true
  sts : ∀ c f, T.ok c = true → Γ.st c = some f → StrM K (T.cA c) (T.fA f)
  lns : ∀ c f, T.ok c = true → Γ.ln c = some f → LenM K (T.cA c) (T.fA f)
  hmo : ∀ m c f, memN m Γ.hms = true → Γ.mt c m = some f → memN f Γ.hots = true
/-- what may be raised -/
def RzOk (T : Tab) (Γ : Sig) (K : PySem.W.Frag) (mg : Str → Option Value) : Prop := ∀ c, memN c Γ.rzs = true → T.xok c = true → (xfl c = [] ∧ RzA K (T.xA c) c) ∨ ∃ n, xfl c = [n] ∧ RzB K mg (T.xA c) n (xdi c)
def startD (n : Nat) (bs : List D) : R := bs.map some ++ List.replicate (n - bs.length) none
def endsD (Q : QT) (E : ET) : DE := { nx := fun _ g => Q .non g, rt := Q, bk := fun _ _ => False, ct := fun _ _ => False, ex := fun x _ g => E x g }
/-- a def, as it reads: its slots, its parameters, their defaults, its body -/
structure Fd where
  n : Nat
  ps : List (Option Nat)
  df : List D
  b : DTS
def Fd.sp (F : Fd) (C : Cal) : DSp := fun ds kws g Q E => match bindD F.ps F.df ds kws with
  | some bs => F.b C (startD F.n bs) g (endsD Q E)
  | none => False
theorem RS.start {T : Tab} {K : PySem.W.Frag} {H : Hp} {N : List Str} {bs : List D} {bv : List V} (i : IsL T K H bs bv) : RS T K H (startD N.length bs) (start N bv) := by
  refine ⟨by simp [startD, L2.start, i.length], fun j d e => ?_⟩
  unfold startD at e
  unfold L2.start
  by_cases hj : j < bs.length
  · rw [List.getElem?_append_left (by simpa using hj), List.getElem?_map] at e
    cases q : bs[j]? with
    | none => rw [q] at e; cases e
    | some x =>
      rw [q] at e
      cases e
      obtain ⟨v, h1, h2⟩ := i.get q
      exact ⟨v, by rw [List.getElem?_append_left (by rw [List.length_map, ← i.length]; exact hj), List.getElem?_map, h1]; rfl, h2⟩
  · rw [List.getElem?_append_right (by simpa using hj), List.getElem?_replicate] at e
    split at e <;> cases e
section
variable {T : Tab} {Γ : Sig} {K : PySem.W.Frag} {mg : Str → Option Value} {P : Program} {w : World} {base : Heap} {C : Cal}
theorem cal_of {k n1 n2 : Nat} {x qual : Str} {params : Arguments} {body : List Stmt} {scope : Scope} {dvs : List V} {kvs : List (Str × V)} {a : Addr} {fd : FuncData} {N pn : List Str} {args : List Arg} {dl : List Expr} {F : Fd}
    (fn : FunD K x qual params body scope dvs kvs a fd) (S : FnScope N pn scope) (hP : PsOk F.ps pn) (hp : params = ⟨[], args, none, [], [], none, dl⟩) (hps : args.map (·.arg) = pn) (hdf : ∀ H, IsL T K H F.df dvs) (hdl : F.df.length ≤ F.ps.length) (hn : F.n = N.length)
    (top : Top T Γ K mg) (hz : RzOk T Γ K mg) (hcal : ∀ f, CalOk Γ.gm T P w K mg base k (T.fA f) (C f)) (hhc : ∀ f, memN f Γ.hots = true → HCal T P w K mg base k (T.fA f) (C f)) (hk : Γ.kR + 32 ≤ k) (rp : OwnRp Γ.w T P w K mg base Γ.kR) (hb : lvlS Γ N ⟨scope, scope⟩ (lvl Γ N n1) n2 body = F.b) : CalOk Γ.gm T P w K mg base (k + 3) a (F.sp C) := by
  intro A outer s H us ws vs zs ks Q E hr e0 r1 r2 ⟨ds, es, g, QD, ED, i1, i2, rg, h, c, ce⟩
  unfold Fd.sp at h
  split at h
  · rename_i bs hbs
    obtain ⟨oc, od, dV, kV, doc, pm, an, cdv, ct, osl, rfl, lk, hcd, hD, _⟩ := fn.ex
    have KX : K.In s.heap := e0.mod.kin.keeps fun b o e => (e0.bs b o e).1
    have lim : s.heap.NoLimit := e0.mod.nolimit.keeps fun b o e => (e0.bs b o e).1
    have lw : ws.length = es.length := by rw [← r2.length, i2.length]
    obtain ⟨ks', es', zs', ws', z1, z2, i2', r2', hke⟩ : ∃ (ks' : List Nat) (es' : List D) (zs' : List V) (ws' : List Value), ks.zip es = ks'.zip es' ∧ (ks.map nm).zip ws = (ks'.map nm).zip ws' ∧ IsL T K H es' zs' ∧ Vals zs' ws' ∧ ks'.length = es'.length := by
      refine ⟨ks.take (min ks.length es.length), es.take (min ks.length es.length), zs.take (min ks.length es.length), ws.take (min ks.length es.length), List.zip_eq_zip_take_min .., ?_, i2.take _, r2.take _, by simp⟩
      have := List.zip_eq_zip_take_min (l₁ := ks.map nm) (l₂ := ws)
      rw [List.length_map, lw] at this
      rw [this, List.map_take]
    rw [z1] at hbs
    rw [z2]
    · have bt : ∃ bv bu, IsL T K H bs bv ∧ Vals bv bu ∧ bu.length = pn.length ∧ BindsTo s (PySem.W.fnOf x qual params body scope dV kV doc pm an cdv ct) ⟨us, (ks'.map nm).zip ws'⟩ (pn.zip bu) := by
        rcases hD with ⟨e1, e2⟩ | ⟨_, Td, o, its, m, e2, lT, oT, rT⟩
        · subst e1 e2
          obtain ⟨bv, bu, b1, b2, b3, k', b4, b5⟩ := bind_rel (fd := PySem.W.fnOf x qual params body scope .none kV doc pm an cdv ct) (its := []) hP hp hps hdl hbs hke i1 i2' r1 r2' (hdf H) .nil
          refine ⟨bv, bu, b1, b2, b3, .of_eq ?_⟩
          rw [b4]
          show (pure none : Sem (Option (Array Value))) >>= k' = _
          rw [pure_bind]
          exact b5 none rfl
        · subst e2
          obtain ⟨bv, bu, b1, b2, b3, k', b4, b5⟩ := bind_rel (fd := PySem.W.fnOf x qual params body scope (.ref Td) kV doc pm an cdv ct) (its := its) hP hp hps hdl hbs hke i1 i2' r1 r2' (hdf H) rT
          refine ⟨bv, bu, b1, b2, b3, L2.BindsTo.of_looks fun M => ?_⟩
          rw [b4]
          exact looks_items KX lT oT (.of_pure (b5 (some its.toArray) rfl))
      obtain ⟨bv, bu, b1, b2, b3, hbd⟩ := bt
      have hl : bv.length = pn.length := by rw [b2.length, b3]
      have hkind : ∀ y ∈ pn.zip bu, scope.names.lookup y.1 = some .local ∨ (scope.names.lookup y.1 = some .cell ∧ ((cellsFrom (s.heap.objs.size + 1) scope.names []).lookup y.1).isSome = true) := fun ⟨n, v⟩ hy => by
        rcases S.par n (List.of_mem_zip hy).1 with q | q
        · exact .inl q
        · exact .inr ⟨q, PySem.W.cellsFrom_some _ _ _ (.inl q)⟩
      refine codeAny_call_function hr.room.depth (KX _ _ lk) rfl S.co S.gen rfl (PySem.W.codeRec_of KX hcd) (hbd _ _ _ _ ?_)
      refine wpAny_newFunctionEnv_cells S.kind hkind fun env he s1 xx => ?_
      subst he
      refine ⟨lim.keeps xx.toInCall.keep, codeAny_func ?_⟩
      have I : Inv (cxOf (L2.CX P w) P w K mg base N qual scope a cdv A outer s H E) [] (start N bv) H s1 := inv_start S hr.room.hd e0 hl b2 xx
      have G : GoodS T Γ C N k (cxOf (L2.CX P w) P w K mg base N qual scope a cdv A outer s H E) ⟨scope, scope⟩ (fun cls d _ H' => E cls d H') := {
        E := { rm2 := ⟨hr.deeper _, .inr rfl⟩, cal := hcal, calm := rfl, hN := rfl, nd := S.nd, hsc := rfl, kind := S.kind, cell := fun _ _ => rfl, tk := takes_of rfl rfl rfl rfl, KC := top.KC, mth := top.mth, fns := top.fns, clss := top.clss, mks := top.mks, blts := top.blts, cons := top.cons, hk := hk, rp := rp, eqs := top.eqs, xcl := top.xcl, sts := top.sts, lns := top.lns, hcs := hhc, hmo := top.hmo }
        pass := passes_of rfl
        stk := rfl
        frm := rfl
        ex := rfl
        rz := hz }
      have ht := lvlS_ok (lvl_ok Γ N n1) n2 G body
      rw [hb] at ht
      have hq : LS T K C (fun cls d _ H' => E cls d H') F.b { nx := fun _ H' => Q .non H', rt := Q } (start N bv) H := by
        refine ⟨startD F.n bs, g, endsD QD ED, by rw [hn]; exact RS.start b1, rg, h, ⟨fun ρ σ H' g' k1 rs rg' q => c.go _ .non _ _ k1 (by simp only [Is]) rg' q, fun v d H' g' k1 i rg' q => c.go _ _ _ _ k1 i rg' q, fun _ _ _ _ _ _ _ q => q.elim, fun _ _ _ _ _ _ _ q => q.elim,
          fun xx cls dd ρ σ H' g' k1 e rs rg' q => ce.go _ _ _ _ _ k1 e rg' q⟩⟩
      refine wpAny_mono (ht.run [] s1 (start N bv) H _ I hq) (fun fl s' hs => ?_) fun e s' hs => hs
      have fin : ∀ {σ' : L2.St} {H' : Hp} {v : V} {u : Value}, Inv (cxOf (L2.CX P w) P w K mg base N qual scope a cdv A outer s H E) [] σ' H' s' → RelV v u → Q v H' → L2.CE outer P w H s Q u s' :=
        fun {σ' H' v u} J rv q => ⟨v, H', J.os, J.bare, J.base, J.hok, rv, q⟩
      cases fl with
      | ret u =>
        obtain ⟨v, σ', H', J, rv, q⟩ := hs
        exact fin J rv q
      | next =>
        obtain ⟨σ', H', J, q⟩ := hs
        exact fin (v := V.non) (u := Value.none) J rfl q
      | brk =>
        obtain ⟨_, _, _, q⟩ := hs
        exact False.elim q
      | cont =>
        obtain ⟨_, _, _, q⟩ := hs
        exact False.elim q
  · exact h.elim
theorem hcal_of {k n2 : Nat} {x qual : Str} {params : Arguments} {body : List Stmt} {scope : Scope} {dvs : List V} {kvs : List (Str × V)} {a : Addr} {fd : FuncData} {N pn : List Str} {args : List Arg} {dl : List Expr} {F : Fd}
    (fn : FunD K x qual params body scope dvs kvs a fd) (S : FnScope N pn scope) (hP : PsOk F.ps pn) (hp : params = ⟨[], args, none, [], [], none, dl⟩) (hps : args.map (·.arg) = pn) (hdf : ∀ H, IsL T K H F.df dvs) (hdl : F.df.length ≤ F.ps.length) (hn : F.n = N.length)
    (top : Top T Γ K mg) (hhc : ∀ f, memN f Γ.hots = true → HCal T P w K mg base k (T.fA f) (C f)) (hb : hotS Γ N ⟨scope, scope⟩ n2 body = F.b) : HCal T P w K mg base (k + 1) a (F.sp C) := by
  intro A outer s H us ws vs zs ks Q E hr e0 r1 r2 ⟨ds, es, g, QD, ED, i1, i2, rg, h, c, ce⟩
  unfold Fd.sp at h
  split at h
  · rename_i bs hbs
    obtain ⟨oc, od, dV, kV, doc, pm, an, cdv, ct, osl, rfl, lk, hcd, hD, _⟩ := fn.ex
    have KX : K.In s.heap := e0.mod.kin.keeps fun b o e => (e0.bs b o e).1
    have lim : s.heap.NoLimit := e0.mod.nolimit.keeps fun b o e => (e0.bs b o e).1
    have lw : ws.length = es.length := by rw [← r2.length, i2.length]
    obtain ⟨ks', es', zs', ws', z1, z2, i2', r2', hke⟩ : ∃ (ks' : List Nat) (es' : List D) (zs' : List V) (ws' : List Value), ks.zip es = ks'.zip es' ∧ (ks.map nm).zip ws = (ks'.map nm).zip ws' ∧ IsL T K H es' zs' ∧ Vals zs' ws' ∧ ks'.length = es'.length := by
      refine ⟨ks.take (min ks.length es.length), es.take (min ks.length es.length), zs.take (min ks.length es.length), ws.take (min ks.length es.length), List.zip_eq_zip_take_min .., ?_, i2.take _, r2.take _, by simp⟩
      have := List.zip_eq_zip_take_min (l₁ := ks.map nm) (l₂ := ws)
      rw [List.length_map, lw] at this
      rw [this, List.map_take]
    rw [z1] at hbs
    rw [z2]
    · have bt : ∃ bv bu, IsL T K H bs bv ∧ Vals bv bu ∧ bu.length = pn.length ∧ BindsTo s (PySem.W.fnOf x qual params body scope dV kV doc pm an cdv ct) ⟨us, (ks'.map nm).zip ws'⟩ (pn.zip bu) := by
        rcases hD with ⟨e1, e2⟩ | ⟨_, Td, o, its, m, e2, lT, oT, rT⟩
        · subst e1 e2
          obtain ⟨bv, bu, b1, b2, b3, k', b4, b5⟩ := bind_rel (fd := PySem.W.fnOf x qual params body scope .none kV doc pm an cdv ct) (its := []) hP hp hps hdl hbs hke i1 i2' r1 r2' (hdf H) .nil
          refine ⟨bv, bu, b1, b2, b3, .of_eq ?_⟩
          rw [b4]
          show (pure none : Sem (Option (Array Value))) >>= k' = _
          rw [pure_bind]
          exact b5 none rfl
        · subst e2
          obtain ⟨bv, bu, b1, b2, b3, k', b4, b5⟩ := bind_rel (fd := PySem.W.fnOf x qual params body scope (.ref Td) kV doc pm an cdv ct) (its := its) hP hp hps hdl hbs hke i1 i2' r1 r2' (hdf H) rT
          refine ⟨bv, bu, b1, b2, b3, L2.BindsTo.of_looks fun M => ?_⟩
          rw [b4]
          exact looks_items KX lT oT (.of_pure (b5 (some its.toArray) rfl))
      obtain ⟨bv, bu, b1, b2, b3, hbd⟩ := bt
      have hl : bv.length = pn.length := by rw [b2.length, b3]
      have hkind : ∀ y ∈ pn.zip bu, scope.names.lookup y.1 = some .local ∨ (scope.names.lookup y.1 = some .cell ∧ ((cellsFrom (s.heap.objs.size + 1) scope.names []).lookup y.1).isSome = true) := fun ⟨n, v⟩ hy => by
        rcases S.par n (List.of_mem_zip hy).1 with q | q
        · exact .inl q
        · exact .inr ⟨q, PySem.W.cellsFrom_some _ _ _ (.inl q)⟩
      refine codeAny_call_function hr.depth (KX _ _ lk) rfl S.co S.gen rfl (PySem.W.codeRec_of KX hcd) (hbd _ _ _ _ ?_)
      refine wpAny_newFunctionEnv_cells S.kind hkind fun env he s1 xx => ?_
      subst he
      refine ⟨lim.keeps xx.toInCall.keep, codeAny_func ?_⟩
      have hnf : a ∉ frs outer := fun hm => by
        obtain ⟨z, _⟩ := e0.funs.mem hm
        rw [e0.mod.kin _ _ lk] at z
        cases z
      have hpin : L2H.PinOk outer H s (a, ⟨oc, od, .func (PySem.W.fnOf x qual params body scope dV kV doc pm an cdv ct), osl⟩) :=
        ⟨KX _ _ lk, (e0.bs a _ (e0.mod.kin _ _ lk)).2, hnf, fun v e => by cases e⟩
      have I := L2H.inv_startH (CX := L2.CX P w) (qual := qual) (f := a) (cd := cdv) (E := E) S hpin e0 hl b2 xx
      have G : GoodH T Γ C N k (L2H.cxH (L2.CX P w) P w K mg base N qual scope a cdv A outer s H E (a, ⟨oc, od, .func (PySem.W.fnOf x qual params body scope dV kV doc pm an cdv ct), osl⟩)) ⟨scope, scope⟩ (fun cls d _ H' => E cls d H') := {
        B := ⟨rfl, S.nd, rfl, S.kind, fun _ _ => rfl, top.KC, top.fns, top.clss, top.blts, top.cons, top.xcl⟩
        tk := takes_of rfl rfl rfl rfl
        rh := hr.deeper _
        mth := top.mth
        hcs := hhc
        hmo := top.hmo }
      have ht := hotS_ok G n2 body
      rw [hb] at ht
      have hq : LS T K C (fun cls d _ H' => E cls d H') F.b { nx := fun _ H' => Q .non H', rt := Q } (start N bv) H := by
        refine ⟨startD F.n bs, g, endsD QD ED, by rw [hn]; exact RS.start b1, rg, h, ⟨fun ρ σ H' g' k1 rs rg' q => c.go _ .non _ _ k1 (by simp only [Is]) rg' q, fun v d H' g' k1 i rg' q => c.go _ _ _ _ k1 i rg' q, fun _ _ _ _ _ _ _ q => q.elim, fun _ _ _ _ _ _ _ q => q.elim,
          fun xx cls dd ρ σ H' g' k1 e rs rg' q => ce.go _ _ _ _ _ k1 e rg' q⟩⟩
      refine wpAny_mono (ht.run [] s1 (start N bv) H _ I hq) (fun fl s' hs => ?_) fun e s' hs => hs
      have fin : ∀ {σ' : L2.St} {H' : Hp} {v : V} {u : Value}, Inv (L2H.cxH (L2.CX P w) P w K mg base N qual scope a cdv A outer s H E (a, ⟨oc, od, .func (PySem.W.fnOf x qual params body scope dV kV doc pm an cdv ct), osl⟩)) [] σ' H' s' → RelV v u → Q v H' → L2.CE outer P w H s Q u s' :=
        fun {σ' H' v u} J rv q => ⟨v, H', J.os, J.bare, J.base, J.hok, rv, q⟩
      cases fl with
      | ret u =>
        obtain ⟨v, σ', H', J, rv, q⟩ := hs
        exact fin J rv q
      | next =>
        obtain ⟨σ', H', J, q⟩ := hs
        exact fin (v := V.non) (u := Value.none) J rfl q
      | brk =>
        obtain ⟨_, _, _, q⟩ := hs
        exact False.elim q
      | cont =>
        obtain ⟨_, _, _, q⟩ := hs
        exact False.elim q
  · exact h.elim
end
end Cn

namespace Cn
open PySem PySem.Spec PyProof.Rows L2

/-! ## DD. The head -/
/-- what a law's text has: defs and classes by name and number, where each def stands, methods, constructors, built-ins, constants, where a new list may change -/
structure Lw where
  fns : List (Str × Nat)
  clss : List (Str × Nat)
  pl : List (Nat × (Str × Option Str))
  meths : List ((Nat × Nat) × Nat)
  mks : List (Nat × (Nat × Bool))
  blts : List Str
  cons : List (Str × D)
  muts : List (Nat × Nat)
  w : List Nat
  eqs : List (Nat × Nat) := []
  xcls : List (Str × Nat) := []
  rza : List Nat := []
  rzD : List (Nat × (Nat × He.DefD)) := []
  sts : List (Nat × Nat) := []
  lns : List (Nat × Nat) := []
  hots : List Nat := []
  hms : List Nat := []
def ridN (c : Nat) : Nat := match c with
  | 0 => 64
  | 1 => 26
  | _ => 14
def cnmL (c : Nat) : List (Str × Nat) → Str
  | [] => ""
  | q :: r => match Nat.beq q.2 c with
    | true => q.1
    | false => cnmL c r
def plcL (f : Nat) : List (Nat × (Str × Option Str)) → Str × Option Str
  | [] => ("", none)
  | q :: r => match Nat.beq q.1 f with
    | true => q.2
    | false => plcL f r
def mtL (c m : Nat) : List ((Nat × Nat) × Nat) → Option Nat
  | [] => none
  | q :: r => match (Nat.beq q.1.1 c).and (Nat.beq q.1.2 m) with
    | true => some q.2
    | false => mtL c m r
theorem mtL_mem {c m f : Nat} : ∀ {l : List ((Nat × Nat) × Nat)}, mtL c m l = some f → ((c, m), f) ∈ l
  | [], h => by cases h
  | q :: r, h => by
    unfold mtL at h
    split at h
    · rename_i e
      cases h
      obtain ⟨e1, e2⟩ := Bool.and_eq_true_iff.mp e
      have : q = ((c, m), q.2) := by
        rw [← Nat.eq_of_beq_eq_true e1, ← Nat.eq_of_beq_eq_true e2]
      rw [← this]
      exact List.mem_cons_self
    · exact List.mem_cons_of_mem _ (mtL_mem h)
def Lw.tab (L : Lw) (K : PySem.W.Frag) : Tab := { cA := fun c => He.ga K (cnmL c L.clss), fA := fun f => He.fAd K (plcL f L.pl), ok := fun c => L.clss.any fun q => Nat.beq q.2 c, xA := fun c => He.ga K (cnmL c L.xcls), xok := fun c => L.xcls.any fun q => Nat.beq q.2 c }
def Lw.sig (L : Lw) : Sig := { fns := L.fns, clss := L.clss, mks := L.mks, blts := L.blts, cons := L.cons, muts := L.muts, mt := fun c m => mtL c m L.meths, w := L.w, kR := 72, eqs := L.eqs, xcls := L.xcls, rzs := L.rza ++ L.rzD.map (·.1), sts := L.sts, lns := L.lns, hots := L.hots, hms := L.hms }
theorem lk_mem {α β : Type} [BEq α] [LawfulBEq α] {a : α} {b : β} : ∀ {l : List (α × β)}, l.lookup a = some b → (a, b) ∈ l
  | [], h => by cases h
  | (x, y) :: r, h => by
    unfold List.lookup at h
    split at h
    · rename_i e; cases h; rw [eq_of_beq e]; exact List.mem_cons_self
    · exact List.mem_cons_of_mem _ (lk_mem h)
def eqK2 (a b : Option Bool) : Bool := decide (a = b)
theorem eqK2_ok {a b : Option Bool} (h : eqK2 a b = true) : a = b := of_decide_eq_true h
def relC : D → Value → Bool
  | .int i, .int j _ => decide (i = j)
  | .str s, .str y _ => eqC s y.cps.toList
  | .bl b, .bool c => decide (b = c)
  | .non, .none => true
  | _, _ => false
def clsB (K : PySem.W.Frag) (C : Addr) (c : Nat) : Bool := (PySem.W.plainGet K C Str.empty).and ((PySem.W.hasDictIn K C).and ((PySem.W.plainOver K C).and ((He.eqO (PySem.W.findIn K (.ref C) "__setattr__") (some (some (.builtin "object.__setattr__")))).and
  (((fldsA c).all fun f => He.eqO (PySem.W.findIn K (.ref C) (nm f)) (some none)).and ((He.eqO (PySem.W.findIn K (.ref C) "__class__") (some (some (.builtin "object.__class__")))).and ((eqK2 (PySem.W.mroIn K C (.type "object")) (some true)).and
  ([0, 1, 2, 3, 4, 5, 6].all fun n => (eqK2 (PySem.W.kitOne K (.ref C) (.type (tyN n))) (some false)).and (eqK2 (PySem.W.kitOne K (.type (tyN n)) (.ref C)) (some false)))))))))
def xcB (K : PySem.W.Frag) (C : Addr) (c : Nat) : Bool := (xfB K C).and ((PySem.W.clsIn K C).isSome.and ((He.eqO (PySem.W.findIn K (.ref C) "__class__") (some (some (.builtin "object.__class__")))).and ((eqK2 (PySem.W.mroIn K C (.type "object")) (some true)).and
  (((xfl c).all fun f => He.eqO (PySem.W.findIn K (.ref C) (nm f)) (some none)).and
  ([0, 1, 2, 3].all fun n => eqK2 (PySem.W.kitOne K (.ref C) (.type (xtyN n))) (some (Nat.beq (xbase c) n)))))))
def veB : List Value := [Value.type "ValueError", Value.type "Exception", Value.type "BaseException", Value.type "object"]
def oexB (K : PySem.W.Frag) (C : Addr) : Bool := (match K.lookup C with
  | some ⟨.type "type", _, .cls cd, sl⟩ => (match cd.mro, sl.toList with
    | .ref C' :: bm, [_, _, _, _, some (.builtin n), _] => (decide (C' = C)).and ((decide (n = "ValueError.__new__")).and ((!cd.hasDel).and (cd.hasDict.and (PySem.HandSPX.refsVE bm))))
    | _, _ => false)
  | _ => false).and ((He.eqO (PySem.W.findIn K (.ref C) "__setattr__") (some (some (.builtin "object.__setattr__")))).and ((eqK2 (PySem.W.subIn K (.ref C) (.type "BaseException")) (some true)).and
    ((decide (PySem.W.typeIn K (.ref C) = some (PySem.Value.type "type"))).and (PySem.W.keepIn K (.ref C)))))
theorem oexB_ok {K : PySem.W.Frag} {C : Addr} (h : oexB K C = true) : OexC K C := by
  unfold oexB at h
  simp only [Bool.and_eq_true] at h
  obtain ⟨h1, h2, h3, h4, h5⟩ := h
  refine ⟨?_, He.eqO_ok h2, of_decide_eq_true h3, of_decide_eq_true h4, h5⟩
  split at h1
  · rename_i dd cd sl ho
    split at h1
    · rename_i C' bm k0 k1 k2 k3 n k5 hm hs
      simp only [Bool.and_eq_true, decide_eq_true_eq, Bool.not_eq_true'] at h1
      obtain ⟨rfl, rfl, hdel, hd, hb⟩ := h1
      obtain ⟨nm, bs, mro, ns, qn, hdc, sn, sub, ab, col, del⟩ := cd
      dsimp only at hm hdel hd
      subst hm hdel hd
      have hsl : sl = #[k0, k1, k2, k3, some (.builtin "ValueError.__new__"), k5] := by
        obtain ⟨l⟩ := sl
        simp only at hs
        rw [hs]
      subst hsl
      exact ⟨nm, qn, ns, bs, bm, sn, sub, ab, col, dd, k0, k1, k2, k3, k5, ho, hb⟩
    · cases h1
  · cases h1
def zdB : List Value := [Value.type "ZeroDivisionError", Value.type "ArithmeticError", Value.type "Exception", Value.type "BaseException", Value.type "object"]
def rzaB (K : PySem.W.Frag) (C : Addr) (c : Nat) : Bool := ((PySem.W.excIn K C veB "ValueError.__new__").or (PySem.W.excIn K C zdB "ZeroDivisionError.__new__")).and ((PySem.W.keepIn K (.ref C)).and ((eqK2 (PySem.W.subIn K (.ref C) (.type "BaseException")) (some true)).and (decide (PySem.W.typeIn K (.ref C) = some (PySem.Value.type "type")))))
def valIs (r : Option PySem.W.CFound) (v : String) : Bool := match r with
  | some (.val (.builtin n)) => decide (n = v)
  | _ => false
theorem valIs_ok {r : Option PySem.W.CFound} {v : String} (h : valIs r v = true) : r = some (.val (.builtin v)) := by
  unfold valIs at h
  split at h
  · rw [of_decide_eq_true h]
  · cases h
def refOf (K : PySem.W.Frag) (x : Str) : Option Addr := match PySem.W.nsIn K mainGlobals x with
  | some (some (.ref a)) => some a
  | _ => none
def lclB (sc : Scope) (x : Str) : Bool := match lkS x sc.names with
  | some .local => true
  | _ => false
def glbB (sc : Scope) (x : Str) : Bool := match lkS x sc.names with
  | some .globalImplicit => true
  | _ => false
def ndS : List Str → Bool
  | [] => true
  | a :: l => (!(memS a l)).and (ndS l)
def preB : List Str → List Str → Bool
  | _, [] => true
  | n :: N, p :: P => (eqS n p).and (preB N P)
  | [], _ :: _ => false
def scB (N P : List Str) (sc : Scope) : Bool := (isFnK sc.kind).and ((!sc.isCoroutine).and ((!sc.isGenerator).and ((ndS N).and ((preB N P).and ((P.all fun x => match lkS x sc.names with
  | some .local => true
  | some .cell => true
  | _ => false).and (sc.names.all fun y => !(kEq y.2 .free)))))))
theorem memS_no {x : Str} : ∀ {l : List Str}, memS x l = false → x ∉ l
  | [], _ => by simp
  | y :: r, h => by
    unfold memS at h
    obtain ⟨h1, h2⟩ := Bool.or_eq_false_iff.mp h
    have : x ≠ y := fun z => by rw [eqS_iff.mpr z] at h1; cases h1
    simp [this, memS_no h2]
theorem ndS_ok : ∀ {l : List Str}, ndS l = true → l.Nodup
  | [], _ => List.nodup_nil
  | a :: l, h => by
    unfold ndS at h
    obtain ⟨h1, h2⟩ := Bool.and_eq_true_iff.mp h
    refine List.nodup_cons.mpr ⟨?_, ndS_ok h2⟩
    cases e : memS a l with
    | true => rw [e] at h1; cases h1
    | false => exact memS_no e
theorem preB_ok : ∀ {N P : List Str}, preB N P = true → N.take P.length = P
  | _, [], _ => by simp
  | n :: N, p :: P, h => by
    unfold preB at h
    obtain ⟨h1, h2⟩ := Bool.and_eq_true_iff.mp h
    simp [eqS_iff.mp h1, preB_ok h2]
  | [], _ :: _, h => by cases h
theorem scB_ok {N P : List Str} {sc : Scope} (h : scB N P sc = true) : FnScope N P sc := by
  unfold scB at h
  simp only [Bool.and_eq_true] at h
  obtain ⟨h1, h2, h3, h4, h5, h6, h7⟩ := h
  refine ⟨?_, by simpa using h2, by simpa using h3, ndS_ok h4, preB_ok h5, fun x hx => ?_, fun y hy e => ?_⟩
  · unfold isFnK at h1; split at h1
    · assumption
    · cases h1
  · have z := List.all_eq_true.mp h6 x hx
    rw [lkS_eq] at z
    split at z
    · rename_i e; exact .inl e
    · rename_i e; exact .inr e
    · cases z
  · have z := List.all_eq_true.mp h7 y hy
    rw [e] at z
    cases z
/-- Base.__init__(self, ".."); self.f = v -/
def dflI (o : Option Int) (l : List He.Dv) : Bool := match o, l with
  | none, [] => true
  | some i, [.int j] => decide (i = j)
  | _, _ => false
def iniB (K : PySem.W.Frag) (c f : Nat) (d : He.DefD) : Bool := match d.params, d.body, dflI (xdi c) d.dfl with
  | ⟨[], [a1, a2], none, [], [], none, _⟩, [.Expr (.Call (.Attribute (.Name bx _) ix p2) [.Name sx _, .Constant (.str _) _ _] [] p5) _, .Assign [.Attribute (.Name sy _) fx _] (.Name vx _) _], true =>
    (eqS ix "__init__").and ((eqS sx a1.arg).and ((eqS sy a1.arg).and ((eqS vx a2.arg).and ((eqS fx (nm f)).and ((eqS d.name "__init__").and ((scB [a1.arg, a2.arg] [a1.arg, a2.arg] d.scope).and ((glbB d.scope bx).and ((lclB d.scope a1.arg).and ((lclB d.scope a2.arg).and
      ((p2.endLine == p5.line).and ((!eqS bx dbg).and ((!eqS a1.arg dbg).and ((!eqS a1.arg cld).and ((!eqS a2.arg dbg).and ((!eqS a2.arg cld).and ((!eqS a1.arg a2.arg).and (match refOf K bx with
        | some B => (PySem.W.readsIn K B (.type "type")).and ((decide (PySem.W.specialIn K (.ref B) "__getattribute__" = some (some (.builtin "type.__getattribute__")))).and (valIs (PySem.W.findCls K (.ref B) (PySem.Value.type "type") "__init__") "ValueError.__init__"))
        | none => false)))))))))))))))))
  | _, _, _ => false
theorem lclB_ok {sc : Scope} {x : Str} (h : lclB sc x = true) : sc.names.lookup x = some .local := by
  unfold lclB at h
  split at h
  · rename_i e; rw [lkS_eq] at e; exact e
  · cases h
theorem glbB_ok {sc : Scope} {x : Str} (h : glbB sc x = true) : sc.names.lookup x = some .globalImplicit := by
  unfold glbB at h
  split at h
  · rename_i e; rw [lkS_eq] at e; exact e
  · cases h
theorem refOf_ok {K : PySem.W.Frag} {x : Str} {a : Addr} (h : refOf K x = some a) : PySem.W.nsIn K mainGlobals x = some (some (.ref a)) := by
  unfold refOf at h
  split at h
  · rename_i e; cases h; exact e
  · cases h
def rzDB (K : PySem.W.Frag) (C : Addr) (q : Nat × (Nat × He.DefD)) : Bool := (eqC (xfl q.1) [q.2.1]).and ((oexB K C).and ((He.eqO (PySem.W.findIn K (.ref C) (nm q.2.1)) (some none)).and ((He.eqO (PySem.W.findIn K (.ref C) "__init__") (some (some (.ref (He.fAd K q.2.2.at_))))).and
  ((decide (PySem.W.typeIn K (.ref (He.fAd K q.2.2.at_)) = some (PySem.Value.type "function"))).and (iniB K q.1 q.2.1 q.2.2)))))
def Lw.chkX (L : Lw) (K : PySem.W.Frag) : Bool :=
  (L.xcls.all fun q => (He.eqO (PySem.W.nsIn K mainGlobals q.1) (some (some (.ref (He.ga K (cnmL q.2 L.xcls)))))).and (xcB K (He.ga K (cnmL q.2 L.xcls)) q.2)).and
  ((L.xcls.all fun q => L.xcls.all fun p => (eqK2 (PySem.W.kitOne K (.ref (He.ga K (cnmL q.2 L.xcls))) (.ref (He.ga K (cnmL p.2 L.xcls)))) (some (xsub q.2 p.2))).and (eqK2 (PySem.W.exmOne K (.ref (He.ga K (cnmL q.2 L.xcls))) (.ref (He.ga K (cnmL p.2 L.xcls)))) (some (xsub q.2 p.2)))).and
  ((L.rza.all fun c => (eqC (xfl c) []).and (rzaB K (He.ga K (cnmL c L.xcls)) c)).and
  (L.rzD.all fun q => rzDB K (He.ga K (cnmL q.1 L.xcls)) q)))
def Lw.chkO (L : Lw) (K : PySem.W.Frag) : Bool := (L.meths.all fun q => (!(memN q.1.2 L.hms)).or (memN q.2 L.hots)).and (
  (L.sts.all fun q => (He.eqO (PySem.W.findIn K (.ref (He.ga K (cnmL q.1 L.clss))) "__str__") (some (some (.ref (He.fAd K (plcL q.2 L.pl)))))).and ((PySem.W.isFn K (.ref (He.fAd K (plcL q.2 L.pl)))).and
    ((He.eqO (PySem.W.findIn K (.ref (He.ga K (cnmL q.1 L.clss))) "__format__") (some (some (.builtin "object.__format__")))).and (eqK2 (PySem.W.mroIn K (He.ga K (cnmL q.1 L.clss)) (.type "object")) (some true))))).and
  (L.lns.all fun q => (He.eqO (PySem.W.findIn K (.ref (He.ga K (cnmL q.1 L.clss))) "__len__") (some (some (.ref (He.fAd K (plcL q.2 L.pl)))))).and ((PySem.W.isFn K (.ref (He.fAd K (plcL q.2 L.pl)))).and
    (He.eqO (PySem.W.findIn K (.ref (He.ga K (cnmL q.1 L.clss))) "__bool__") (some none)))))
def Lw.chk (L : Lw) (K : PySem.W.Frag) : Bool := (L.chkX K).and ((L.chkO K).and (
  (L.fns.all fun q => (He.eqO (PySem.W.nsIn K mainGlobals q.1) (some (some (.ref (He.fAd K (plcL q.2 L.pl)))))).and (PySem.W.keepIn K (.ref (He.fAd K (plcL q.2 L.pl))))).and
  ((L.clss.all fun q => (He.eqO (PySem.W.nsIn K mainGlobals q.1) (some (some (.ref (He.ga K (cnmL q.2 L.clss)))))).and (clsB K (He.ga K (cnmL q.2 L.clss)) q.2)).and
  (((He.eqO (PySem.W.specialIn K (.builtin "object.__class__") "__get__") (some (some (.builtin "getset_descriptor.__get__")))).and (eqK2 (PySem.W.takesIn K (.builtin "object.__class__")) (some true))).and
  ((L.clss.all fun q => L.clss.all fun p => eqK2 (PySem.W.kitOne K (.ref (He.ga K (cnmL q.2 L.clss))) (.ref (He.ga K (cnmL p.2 L.clss)))) (some (Nat.beq q.2 p.2))).and
  ((L.meths.all fun q => (He.eqO (PySem.W.findIn K (.ref (He.ga K (cnmL q.1.1 L.clss))) (nm q.1.2)) (some (some (.ref (He.fAd K (plcL q.2 L.pl)))))).and ((PySem.W.isFn K (.ref (He.fAd K (plcL q.2 L.pl)))).and (PySem.W.keepIn K (.ref (He.fAd K (plcL q.2 L.pl)))))).and
  ((L.mks.all fun q => ((L.clss.any fun p => Nat.beq p.2 q.1).and (PySem.W.makesIn K (He.ga K (cnmL q.1 L.clss)))).and ((He.eqO (PySem.W.findIn K (.ref (He.ga K (cnmL q.1 L.clss))) "__init__") (some (some (.ref (He.fAd K (plcL q.2.1 L.pl)))))).and
    ((PySem.W.isFn K (.ref (He.fAd K (plcL q.2.1 L.pl)))).and (PySem.W.keepIn K (.ref (He.ga K (cnmL q.1 L.clss))))))).and
  ((L.blts.all fun x => He.eqO (PySem.W.nsIn K mainGlobals x) (some none)).and
  ((L.cons.all fun q => match PySem.W.nsIn K mainGlobals q.1 with
    | some (some u) => relC q.2 u
    | _ => false).and
  ((L.eqs.all fun q => (He.eqO (PySem.W.findIn K (.ref (He.ga K (cnmL q.1 L.clss))) "__eq__") (some (some (.ref (He.fAd K (plcL q.2 L.pl)))))).and ((PySem.W.isFn K (.ref (He.fAd K (plcL q.2 L.pl)))).and
    ((He.eqO (PySem.W.findIn K (.ref (He.ga K (cnmL q.1 L.clss))) "__ne__") (some (some (.builtin "object.__ne__")))).and (eqK2 (PySem.W.mroIn K (He.ga K (cnmL q.1 L.clss)) (.type "object")) (some true))))).and
  (L.w.all fun c => (He.eqO (PySem.W.findIn K (.ref (He.ga K (cnmL c L.clss))) "__repr__") (some (some (.ref (He.fAd K (plcL (ridN c) L.pl)))))).and (PySem.W.isFn K (.ref (He.fAd K (plcL (ridN c) L.pl)))))))))))))))
theorem relC_ok {T : Tab} {K : PySem.W.Frag} {d : D} {u : Value} (h : relC d u = true) : ∃ v, RelV v u ∧ ∀ H, Is T K H d v := by
  unfold relC at h
  split at h
  · have e := of_decide_eq_true h
    subst e
    exact ⟨.int _, ⟨_, rfl⟩, fun H => by simp only [Is]⟩
  · rename_i s y t
    have e := eqC_iff.mp h
    refine ⟨.str y, ⟨_, rfl⟩, fun H => ?_⟩
    simp only [Is]
    rw [e, S_list]
  · have e := of_decide_eq_true h
    subst e
    exact ⟨.bl _, rfl, fun H => by simp only [Is]⟩
  · exact ⟨.non, rfl, fun H => by simp only [Is]⟩
  · cases h
section
variable {L : Lw} {K : PySem.W.Frag} {h : Heap} {mg : Str → Option Value}
theorem ok_mem {c : Nat} (h : (L.tab K).ok c = true) : ∃ q ∈ L.clss, q.2 = c := by
  have h : (L.clss.any fun q => Nat.beq q.2 c) = true := h
  rw [List.any_eq_true] at h
  obtain ⟨q, hq, e⟩ := h
  exact ⟨q, hq, Nat.eq_of_beq_eq_true e⟩
theorem top_of (X : K.In h) (G : h.Ns mainGlobals mg) (c : L.chk K = true) : Top (L.tab K) L.sig K mg := by
  unfold Lw.chk at c
  obtain ⟨cx, c⟩ := Bool.and_eq_true_iff.mp c
  unfold Lw.chkX at cx
  obtain ⟨x1, cx⟩ := Bool.and_eq_true_iff.mp cx
  obtain ⟨x2, _⟩ := Bool.and_eq_true_iff.mp cx
  rw [List.all_eq_true] at x1 x2
  have xo : ∀ c, (L.tab K).xok c = true → ∃ q ∈ L.xcls, q.2 = c := fun c h => by
    have h : (L.xcls.any fun q => Nat.beq q.2 c) = true := h
    rw [List.any_eq_true] at h
    obtain ⟨q, hq, e⟩ := h
    exact ⟨q, hq, Nat.eq_of_beq_eq_true e⟩
  have xc : ∀ c, (L.tab K).xok c = true → xcB K ((L.tab K).xA c) c = true := fun c hc => by
    obtain ⟨q, hq, e⟩ := xo c hc
    subst e
    exact (Bool.and_eq_true_iff.mp (x1 q hq)).2
  obtain ⟨co, c⟩ := Bool.and_eq_true_iff.mp c
  unfold Lw.chkO at co
  obtain ⟨co0, co⟩ := Bool.and_eq_true_iff.mp co
  obtain ⟨co1, co2⟩ := Bool.and_eq_true_iff.mp co
  rw [List.all_eq_true] at co0 co1 co2
  obtain ⟨c1, c⟩ := Bool.and_eq_true_iff.mp c
  obtain ⟨c2, c⟩ := Bool.and_eq_true_iff.mp c
  obtain ⟨c3, c⟩ := Bool.and_eq_true_iff.mp c
  obtain ⟨c4, c⟩ := Bool.and_eq_true_iff.mp c
  obtain ⟨c5, c⟩ := Bool.and_eq_true_iff.mp c
  obtain ⟨c6, c⟩ := Bool.and_eq_true_iff.mp c
  obtain ⟨c7, c⟩ := Bool.and_eq_true_iff.mp c
  obtain ⟨c8, c⟩ := Bool.and_eq_true_iff.mp c
  obtain ⟨ce, _⟩ := Bool.and_eq_true_iff.mp c
  rw [List.all_eq_true] at c1 c2 c4 c5 c6 c7 c8 ce
  have cl : ∀ c, (L.tab K).ok c = true → clsB K ((L.tab K).cA c) c = true := fun c hc => by
    obtain ⟨q, hq, e⟩ := ok_mem hc
    subst e
    exact (Bool.and_eq_true_iff.mp (c2 q hq)).2
  have cl' : ∀ c, (L.tab K).ok c = true → _ := fun c hc => by
    have z := cl c hc
    unfold clsB at z
    exact z
  refine ⟨⟨fun c hc => ?_, fun c f hc hf => ?_, fun c hc => ?_, ?_, fun c n hc hn => ?_, fun c n hc hn => ?_, fun c d hc hd => ?_, fun c hc => ?xa, fun c f hc hf => ?xno, fun c d hc hd => ?xkit, fun c d hc hd => ?xexm, fun c n hc hn => ?xkitT⟩, fun c m f hc hf => ?_, fun x f hf => ?_, fun x c hc => ?_, fun c q hq => ?_, fun x hx => ?_, fun x d hd => ?_, fun c f hc hf => ?_, fun x c hc => ?xcl, fun c f hc hf => ?sts, fun c f hc hf => ?lns, fun m c f hm hf => ?hmo⟩
  case xa =>
    have z := xc c hc
    unfold xcB at z
    simp only [Bool.and_eq_true] at z
    exact ⟨xfB_ok z.1, z.2.1, He.eqO_ok z.2.2.1, eqK2_ok z.2.2.2.1⟩
  case xno =>
    have z := xc c hc
    unfold xcB at z
    simp only [Bool.and_eq_true] at z
    exact He.eqO_ok (List.all_eq_true.mp z.2.2.2.2.1 f (by rw [List.contains_eq_mem] at hf; exact of_decide_eq_true hf))
  case xkit =>
    obtain ⟨q, hq, e⟩ := xo c hc
    obtain ⟨p, hp, e'⟩ := xo d hd
    subst e e'
    exact eqK2_ok (Bool.and_eq_true_iff.mp (List.all_eq_true.mp (x2 q hq) p hp)).1
  case xexm =>
    obtain ⟨q, hq, e⟩ := xo c hc
    obtain ⟨p, hp, e'⟩ := xo d hd
    subst e e'
    exact eqK2_ok (Bool.and_eq_true_iff.mp (List.all_eq_true.mp (x2 q hq) p hp)).2
  case xkitT =>
    have z := xc c hc
    unfold xcB at z
    simp only [Bool.and_eq_true] at z
    exact eqK2_ok (List.all_eq_true.mp z.2.2.2.2.2 n (by match n, hn with | 0, _ | 1, _ | 2, _ | 3, _ => simp))
  case hmo =>
    have z := co0 _ (mtL_mem (l := L.meths) hf)
    have hm : memN m L.hms = true := hm
    dsimp only at z
    rw [hm] at z
    exact z
  case sts =>
    have z := co1 _ (lk_mem (show L.sts.lookup c = some f from hf))
    simp only [Bool.and_eq_true] at z
    exact ⟨He.eqO_ok z.1, z.2.1, He.eqO_ok z.2.2.1, eqK2_ok z.2.2.2⟩
  case lns =>
    have z := co2 _ (lk_mem (show L.lns.lookup c = some f from hf))
    simp only [Bool.and_eq_true] at z
    exact ⟨He.eqO_ok z.1, z.2.1, He.eqO_ok z.2.2⟩
  case xcl =>
    have hm := PySem.mem_of_lookup (show L.xcls.lookup x = some c from hc)
    have z := x1 _ hm
    simp only [Bool.and_eq_true] at z
    exact ⟨PySem.W.mg_of X G (He.eqO_ok z.1), List.any_eq_true.mpr ⟨_, hm, Nat.beq_refl _⟩⟩
  · have z := cl' c hc
    simp only [Bool.and_eq_true] at z
    exact ⟨z.1, z.2.1, z.2.2.1, He.eqO_ok z.2.2.2.1⟩
  · have z := cl' c hc
    simp only [Bool.and_eq_true] at z
    have y := List.all_eq_true.mp z.2.2.2.2.1 f (by rw [List.contains_eq_mem] at hf; exact of_decide_eq_true hf)
    exact He.eqO_ok y
  · have z := cl' c hc
    simp only [Bool.and_eq_true] at z
    exact ⟨He.eqO_ok z.2.2.2.2.2.1, eqK2_ok z.2.2.2.2.2.2.1⟩
  · obtain ⟨d1, d2⟩ := Bool.and_eq_true_iff.mp c3
    exact ⟨He.eqO_ok d1, eqK2_ok d2⟩
  · have z := cl' c hc
    simp only [Bool.and_eq_true] at z
    have y := List.all_eq_true.mp z.2.2.2.2.2.2.2 n (by match n, hn with | 0, _ | 1, _ | 2, _ | 3, _ | 4, _ | 5, _ | 6, _ => simp)
    simp only [Bool.and_eq_true] at y
    exact eqK2_ok y.1
  · have z := cl' c hc
    simp only [Bool.and_eq_true] at z
    have y := List.all_eq_true.mp z.2.2.2.2.2.2.2 n (by match n, hn with | 0, _ | 1, _ | 2, _ | 3, _ | 4, _ | 5, _ | 6, _ => simp)
    simp only [Bool.and_eq_true] at y
    exact eqK2_ok y.2
  · obtain ⟨q, hq, e⟩ := ok_mem hc
    obtain ⟨p, hp, e'⟩ := ok_mem hd
    subst e e'
    have y := eqK2_ok (List.all_eq_true.mp (c4 q hq) p hp)
    refine y.trans (congrArg some ?_)
    cases e : Nat.beq q.2 p.2 with
    | true => rw [Nat.eq_of_beq_eq_true e]; exact (beq_self_eq_true _).symm
    | false => exact (beq_eq_false_iff_ne.mpr fun z => by rw [z, Nat.beq_refl] at e; cases e).symm
  · have z := c5 _ (mtL_mem (l := L.meths) hf)
    simp only [Bool.and_eq_true] at z
    exact ⟨He.eqO_ok z.1, z.2.1, z.2.2⟩
  · have z := c1 _ (PySem.mem_of_lookup (show L.fns.lookup x = some f from hf))
    simp only [Bool.and_eq_true] at z
    exact ⟨PySem.W.mg_of X G (He.eqO_ok z.1), z.2⟩
  · have hm := PySem.mem_of_lookup (show L.clss.lookup x = some c from hc)
    have z := c2 _ hm
    simp only [Bool.and_eq_true] at z
    exact ⟨PySem.W.mg_of X G (He.eqO_ok z.1), List.any_eq_true.mpr ⟨_, hm, Nat.beq_refl _⟩⟩
  · have hm := lk_mem (show L.mks.lookup c = some q from hq)
    have z := c6 _ hm
    simp only [Bool.and_eq_true] at z
    exact ⟨z.1.1, z.1.2, He.eqO_ok z.2.1, z.2.2.1, z.2.2.2⟩
  · exact PySem.W.mg_none_of X G (He.eqO_ok (c7 x hx))
  · have z := c8 _ (PySem.mem_of_lookup (show L.cons.lookup x = some d from hd))
    dsimp only at z
    split at z
    · rename_i u e
      obtain ⟨v, r, i⟩ := relC_ok (T := L.tab K) (K := K) z
      exact ⟨v, u, PySem.W.mg_of X G e, r, i⟩
    · cases z
  · have z := ce _ (lk_mem (show L.eqs.lookup c = some f from hf))
    simp only [Bool.and_eq_true] at z
    exact ⟨He.eqO_ok z.1, z.2.1, He.eqO_ok z.2.2.1, eqK2_ok z.2.2.2⟩
theorem own_at (c : L.chk K = true) {n : Nat} (hn : memN n L.w = true) : PySem.W.findIn K (.ref ((L.tab K).cA n)) "__repr__" = some (some (.ref ((L.tab K).fA (ridN n)))) ∧ PySem.W.isFn K (.ref ((L.tab K).fA (ridN n))) = true := by
  unfold Lw.chk at c
  obtain ⟨_, c⟩ := Bool.and_eq_true_iff.mp c
  obtain ⟨_, c⟩ := Bool.and_eq_true_iff.mp c
  obtain ⟨_, c⟩ := Bool.and_eq_true_iff.mp c
  obtain ⟨_, c⟩ := Bool.and_eq_true_iff.mp c
  obtain ⟨_, c⟩ := Bool.and_eq_true_iff.mp c
  obtain ⟨_, c⟩ := Bool.and_eq_true_iff.mp c
  obtain ⟨_, c⟩ := Bool.and_eq_true_iff.mp c
  obtain ⟨_, c⟩ := Bool.and_eq_true_iff.mp c
  obtain ⟨_, c⟩ := Bool.and_eq_true_iff.mp c
  obtain ⟨_, c⟩ := Bool.and_eq_true_iff.mp c
  obtain ⟨_, c9⟩ := Bool.and_eq_true_iff.mp c
  unfold memN at hn
  rw [List.any_eq_true] at hn
  obtain ⟨m, hm, e⟩ := hn
  rw [← Nat.eq_of_beq_eq_true e] at hm
  obtain ⟨h1, h2⟩ := Bool.and_eq_true_iff.mp (List.all_eq_true.mp c9 n hm)
  exact ⟨He.eqO_ok h1, h2⟩
end
end Cn

namespace Cn
open PySem PySem.Spec PyProof.Rows L2

/-! ## DE. The own __repr__ of the frozen classes -/
def cW : List Nat := [87, 101, 105, 103, 104, 116, 40]
def cN : List Nat := [78, 111, 116, 101, 40]
def cC : List Nat := [67, 97, 115, 107, 40]
def cc : List Nat := [44, 32]
def cE : List Nat := [41]
def rbW : DTS := dSeq (dIfS (dTst (dBin (oEq false) (dUn (oAttr 8) (dVar 0)) (dC (.int 1)))) (dRet (dJoin [dC (.str cW), dFmt (dUn (oAttr 111) (dVar 0)), dC (.str cE)])) dNext)
  (dRet (dJoin [dC (.str cW), dFmt (dUn (oAttr 111) (dVar 0)), dC (.str cc), dFmt (dUn (oAttr 8) (dVar 0)), dC (.str cE)]))
def rbN : DTS := dRet (dJoin [dC (.str cN), dFmtR (some 0) [] (dUn (oAttr 64) (dVar 0)), dC (.str cc), dFmtR (some 0) [] (dUn (oAttr 116) (dVar 0)), dC (.str cc), dFmt (dUn (oAttr 37) (dVar 0)), dC (.str cc), dFmt (dUn (oAttr 7) (dVar 0)), dC (.str cE)])
def rbC : DTS := dRet (dJoin [dC (.str cC), dFmtR (some 10) [0] (dUn (oAttr 60) (dVar 0)), dC (.str cc), dFmt (dUn (oAttr 97) (dVar 0)), dC (.str cc), dFmtR (some 10) [0] (dUn (oAttr 77) (dVar 0)), dC (.str cE)])
def rf (b : DTS) : Fd := ⟨1, [some 93], [], b⟩
theorem lit_W : ("Weight(" : Str) = S cW := by decide +kernel
theorem lit_N : ("Note(" : Str) = S cN := by decide +kernel
theorem lit_C : ("Cask(" : Str) = S cC := by decide +kernel
theorem lit_c : (", " : Str) = S cc := by decide +kernel
theorem lit_E : (")" : Str) = S cE := by decide +kernel
theorem sp_one {b : DTS} {C : Cal} {d : D} {g : G} {Q : QT} {E : ET} (h : b C [some d] g (endsD Q E)) : (rf b).sp C [d] [] g Q E := by
  unfold Fd.sp
  have e : bindD (rf b).ps (rf b).df [d] [] = some [d] := rfl
  rw [e]
  exact h
theorem S_toList (s : List Nat) : (S s).cps.toList = s := by simp [S]
theorem rpL_cons {w : List Nat} {d : D} {l : List D} {ts : List Str} (h : rpL w (d :: l) = some ts) : ∃ t r, ts = t :: r ∧ rpT w d = some t ∧ rpL w l = some r := by
  simp only [rpL] at h
  split at h
  · rename_i t r e1 e2
    cases h
    exact ⟨t, r, rfl, e1, e2⟩
  · cases h
theorem rp_int {w : List Nat} {i : Int} {t : Str} (h : rpT w (.int i) = some t) : i.natAbs.log2 < 1920 ∧ t = S (intS i) := by
  simp only [rpT] at h
  split at h
  · cases h
    exact ⟨by assumption, S_int i⟩
  · cases h
theorem rpI0 {l : List D} {ts : List Str} {txt : Str} (h : rpI 0 l ts = some txt) : ∃ a b t u, l = [.int a, .int b] ∧ ts = [t, u] ∧ txt = if b = 1 then ("Weight(" : Str) ++ t ++ (")" : Str) else ("Weight(" : Str) ++ t ++ (", " : Str) ++ u ++ (")" : Str) := by
  simp only [rpI] at h
  split at h <;> first | omega | (cases h; done) | (cases h; exact ⟨_, _, _, _, rfl, rfl, rfl⟩)
theorem rpI1 {l : List D} {ts : List Str} {txt : Str} (h : rpI 1 l ts = some txt) : ∃ a b c d t u v x, l = [.str a, .str b, .int c, .int d] ∧ ts = [t, u, v, x] ∧ txt = ("Note(" : Str) ++ t ++ (", " : Str) ++ u ++ (", " : Str) ++ v ++ (", " : Str) ++ x ++ (")" : Str) := by
  simp only [rpI] at h
  split at h <;> first | omega | (cases h; done) | (cases h; exact ⟨_, _, _, _, _, _, _, _, rfl, rfl, rfl⟩)
theorem rpI2 {l : List D} {ts : List Str} {txt : Str} (h : rpI 2 l ts = some txt) : ∃ a b c t u v, l = [.str a, .int b, .tup c] ∧ ts = [t, u, v] ∧ c.all prtB = true ∧ txt = ("Cask(" : Str) ++ t ++ (", " : Str) ++ u ++ (", " : Str) ++ v ++ (")" : Str) := by
  simp only [rpI] at h
  split at h <;> first | omega | (cases h; done) | skip
  split at h
  · cases h; exact ⟨_, _, _, _, _, _, rfl, rfl, by assumption, rfl⟩
  · cases h
theorem prt_shape {d : D} (h : prtB d = true) : ∃ s a b, d = .tup [.str s, .ins 0 [.int a, .int b]] := by
  unfold prtB at h
  split at h
  · exact ⟨_, _, _, rfl⟩
  · cases h
theorem prts_dat : ∀ {l : List D}, l.all prtB = true → datL l = true ∧ depL l ≤ 2
  | [], _ => ⟨rfl, by simp [depL]⟩
  | d :: l, h => by
    simp only [List.all_cons, Bool.and_eq_true] at h
    obtain ⟨a, b⟩ := prts_dat h.2
    obtain ⟨s, x, y, rfl⟩ := prt_shape h.1
    exact ⟨by simp [datL, dat, a], by simp [depL, dep]; omega⟩
theorem prts_rp {w : List Nat} : ∀ {l : List D} {ts : List Str}, l.all prtB = true → rpL w l = some ts → rpL [0] l = some ts
  | [], ts, _, h => by simpa only [rpL] using h
  | d :: l, ts, hp, h => by
    simp only [List.all_cons, Bool.and_eq_true] at hp
    obtain ⟨t, r, rfl, h1, h2⟩ := rpL_cons h
    have ih := prts_rp hp.2 h2
    obtain ⟨s, x, y, rfl⟩ := prt_shape hp.1
    have e : rpT [0] (.tup [.str s, .ins 0 [.int x, .int y]]) = some t := by
      simp only [rpT, rpL] at h1 ⊢
      have e0 : memN 0 [0] = true := rfl
      rw [e0]
      cases hm : memN 0 w with
      | true => rw [hm] at h1; exact h1
      | false => rw [hm] at h1; simp at h1
    show (match rpT [0] _, rpL [0] l with
      | some t, some ts => some (t :: ts)
      | _, _ => none) = _
    rw [e, ih]
theorem spW {w : List Nat} {C : Cal} {ds : List D} {kws : List (Nat × D)} {g : G} {Q : QT} {E : ET} (h : spRp w 0 ds kws g Q E) : (rf rbW).sp C ds kws g Q E := by
  obtain ⟨l, txt, rfl, rfl, ht, hz, q⟩ := h
  simp only [rpT] at ht
  split at ht
  · rename_i ts _ hts
    obtain ⟨a, b, t, u, rfl, rfl, hx⟩ := rpI0 ht
    obtain ⟨t', r, e, ha, hr⟩ := rpL_cons hts
    obtain ⟨u', r', e', hb, hr'⟩ := rpL_cons hr
    cases e; cases e'
    obtain ⟨la, rfl⟩ := rp_int ha
    obtain ⟨lb, rfl⟩ := rp_int hb
    refine sp_one ?_
    rw [lit_W, lit_c, lit_E] at hx
    simp only [S_app] at hx
    subst hx
    by_cases hb1 : b = 1
    · subst hb1
      simp only [if_true, S_len, S_toList, List.length_append] at hz q
      simp [rbW, dSeq, dIfS, dTst, dBin, dUn, dVar, getS, dC, dRet, dJoin, dJn, dFmt, oAttr, oEq, endsD, flds, scD, eqD, List.lookup, la]
      refine ⟨by omega, by omega, by omega, ?_⟩
      simpa using q
    · simp only [hb1, if_false, S_len, S_toList, List.length_append] at hz q
      simp [rbW, dSeq, dIfS, dTst, dBin, dUn, dVar, getS, dC, dRet, dJoin, dJn, dFmt, oAttr, oEq, endsD, flds, scD, eqD, List.lookup, la, lb, (beq_eq_false_iff_ne.mpr hb1 : (b == 1) = false), dNext]
      refine ⟨by omega, by omega, by omega, by omega, by omega, ?_⟩
      simpa using q
  · cases ht

theorem rp_str {w : List Nat} {s : List Nat} {t : Str} (h : rpT w (.str s) = some t) : t = reprText (S s) := by
  simp only [rpT] at h
  cases h; rfl
theorem spN {w : List Nat} {C : Cal} {ds : List D} {kws : List (Nat × D)} {g : G} {Q : QT} {E : ET} (h : spRp w 1 ds kws g Q E) : (rf rbN).sp C ds kws g Q E := by
  obtain ⟨l, txt, rfl, rfl, ht, hz, q⟩ := h
  simp only [rpT] at ht
  split at ht
  · rename_i ts _ hts
    obtain ⟨a, b, c, d, t, u, v, x, rfl, rfl, hx⟩ := rpI1 ht
    obtain ⟨t', r, e, h1, hr⟩ := rpL_cons hts
    obtain ⟨u', r', e', h2, hr'⟩ := rpL_cons hr
    obtain ⟨v', r'', e'', h3, hr''⟩ := rpL_cons hr'
    obtain ⟨x', r3, e3, h4, _⟩ := rpL_cons hr''
    cases e; cases e'; cases e''; cases e3
    obtain ⟨lc, rfl⟩ := rp_int h3
    obtain ⟨ld, rfl⟩ := rp_int h4
    have ht1 := rp_str h1
    have ht2 := rp_str h2
    subst ht1 ht2
    refine sp_one ?_
    generalize hA : reprText (S a) = A at *
    generalize hB : reprText (S b) = B at *
    rw [lit_N, lit_c, lit_E, ← S_list A, ← S_list B] at hx
    simp only [S_app] at hx
    subst hx
    have lA : A.length = A.cps.toList.length := by simp [Str.length]
    have lB : B.length = B.cps.toList.length := by simp [Str.length]
    have eA : rpG (some 0) [] g (.str a) = some A := by simp [rpG, dat, dep, gmOk, rpT, hA]
    have eB : rpG (some 0) [] g (.str b) = some B := by simp [rpG, dat, dep, gmOk, rpT, hB]
    simp only [S_len, S_toList, List.length_append, Array.length_toList] at hz q
    simp only [rbN, dRet, dJoin, dJn, dFmt, dFmtR, dUn, dVar, getS, dC, oAttr, flds, endsD, List.getElem?_cons_zero, List.zip_cons_cons, List.zip_nil_left, List.lookup, List.nil_append, List.length_append, List.length_nil, List.append_assoc, Nat.zero_add, eA, eB, lA, lB]
    simp [eA, eB, lA, lB, lc, ld]
    refine ⟨by omega, by omega, by omega, by omega, by omega, by omega, by omega, by omega, by omega, by omega, by omega, ?_⟩
    simpa using q
  · cases ht
theorem spC {w : List Nat} {C : Cal} {ds : List D} {kws : List (Nat × D)} {g : G} {Q : QT} {E : ET} (h : spRp w 2 ds kws g Q E) : (rf rbC).sp C ds kws g Q E := by
  obtain ⟨l, txt, rfl, rfl, ht, hz, q⟩ := h
  simp only [rpT] at ht
  split at ht
  · rename_i ts _ hts
    obtain ⟨a, b, p, t, u, v, rfl, rfl, hp, hx⟩ := rpI2 ht
    obtain ⟨t', r, e, h1, hr⟩ := rpL_cons hts
    obtain ⟨u', r', e', h2, hr'⟩ := rpL_cons hr
    obtain ⟨v', r'', e'', h3, _⟩ := rpL_cons hr'
    cases e; cases e'; cases e''
    obtain ⟨lb, rfl⟩ := rp_int h2
    have ht1 := rp_str h1
    subst ht1
    refine sp_one ?_
    generalize hA : reprText (S a) = A at *
    rw [lit_C, lit_c, lit_E, ← S_list A, ← S_list v] at hx
    simp only [S_app] at hx
    subst hx
    have lA : A.length = A.cps.toList.length := by simp [Str.length]
    have lv : v.length = v.cps.toList.length := by simp [Str.length]
    have eA : rpG (some 10) [0] g (.str a) = some A := by simp [rpG, dat, dep, gmOk, rpT, hA]
    have ev : rpG (some 10) [0] g (.tup p) = some v := by
      obtain ⟨d1, d2⟩ := prts_dat hp
      simp only [rpT] at h3
      obtain ⟨ts, e1, e2⟩ := Option.map_eq_some_iff.mp h3
      have e3 := prts_rp hp e1
      have n1 : Nat.ble (depL p + 1) 30 = true := Nat.ble_eq_true_of_le (by omega)
      have n2 : Nat.ble (depL p + 1) 10 = true := Nat.ble_eq_true_of_le (by omega)
      simp [rpG, dat, dep, gmOk, rpT, d1, n1, n2, e3, e2]
    simp only [S_len, S_toList, List.length_append, Array.length_toList] at hz q
    simp only [rbC, dRet, dJoin, dJn, dFmt, dFmtR, dUn, dVar, getS, dC, oAttr, flds, endsD, List.getElem?_cons_zero, List.zip_cons_cons, List.zip_nil_left, List.lookup, List.nil_append, List.length_append, List.length_nil, List.append_assoc, Nat.zero_add, eA, ev, lA, lv]
    simp [eA, ev, lA, lv, lb]
    refine ⟨by omega, by omega, by omega, by omega, by omega, by omega, by omega, by omega, by omega, ?_⟩
    simpa using q
  · cases ht
theorem CalOk.imp {gm : Option Nat} {T : Tab} {P : Program} {w : World} {K : PySem.W.Frag} {mg : Str → Option Value} {base : Heap} {k : Nat} {a : Addr} {sp sp' : DSp} (c : CalOk gm T P w K mg base k a sp) (h : ∀ ds kws g Q E, sp' ds kws g Q E → sp ds kws g Q E) : CalOk gm T P w K mg base k a sp' :=
  fun A outer s H us ws vs zs ks Q E r e0 r1 r2 ⟨ds, es, g, QD, ED, i1, i2, rg, q, c1, c2⟩ => c A outer s H us ws vs zs ks Q E r e0 r1 r2 ⟨ds, es, g, QD, ED, i1, i2, rg, h _ _ _ _ _ q, c1, c2⟩
theorem own_nil {T : Tab} {P : Program} {wd : World} {K : PySem.W.Frag} {mg : Str → Option Value} {base : Heap} {k : Nat} : OwnRp [] T P wd K mg base k := ⟨fun c h => by cases h⟩
theorem cal_none {gm : Option Nat} {T : Tab} {P : Program} {w : World} {K : PySem.W.Frag} {mg : Str → Option Value} {base : Heap} {k : Nat} {a : Addr} : CalOk gm T P w K mg base k a (fun _ _ _ _ _ => False) :=
  fun A outer s H us ws vs zs ks Q E hr e0 r1 r2 ⟨_, _, _, _, _, _, _, _, z, _⟩ => z.elim
end Cn

namespace Cn
open PySem PySem.Spec PyProof.Rows L2

/-! ## EE. The Hook, the law's call -/
def notL (o : Obj) : Bool := match o.cls with
  | .type c => !(decide (c = "list"))
  | _ => true
def frC (g : Addr → Option Obj) (as : List Addr) : PySem.W.Frag := (He.frG g as).filter fun p => notL p.2
def NoL (K : PySem.W.Frag) : Prop := ∀ a o, K.lookup a = some o → notL o = true
theorem frG_mem {g : Addr → Option Obj} {as : List Addr} {a : Addr} {o : Obj} (h : (a, o) ∈ He.frG g as) : g a = some o := by
  unfold He.frG at h
  obtain ⟨b, _, hb⟩ := List.mem_filterMap.mp h
  cases e : g b with
  | none => rw [e] at hb; cases hb
  | some q => rw [e] at hb; cases hb; exact e
theorem frC_in {as : List Addr} {h : Heap} : (frC h.get? as).In h := fun _ _ e => frG_mem (List.mem_filter.mp (lk_mem e)).1
theorem frC_no {g : Addr → Option Obj} {as : List Addr} : NoL (frC g as) := fun _ _ e => (List.mem_filter.mp (lk_mem e)).2
abbrev AlC : Type := Bool × List He.FnW
def obsC (L : Lw) (fn : List He.DefD) (K : PySem.W.Frag) : AlC := ((L.chk K).and (fn.all fun d => d.ok K), fn.map fun d => He.fnW K d.at_)
def valC (fn : List He.DefD) : AlC := (true, fn.map He.DefD.val)
def SaysC (L : Lw) (fn : List He.DefD) (K : PySem.W.Frag) : Prop := NoL K ∧ obsC L fn K = valC fn
def obsCG (n : Nat) (L : Lw) (fn : List He.DefD) (g : Addr → Option Obj) : AlC := obsC L fn (frC g (cStatics :: He.asD g n))
def hookC (n : Nat) (L : Lw) (fn : List He.DefD) : PySem.W.Hook where
  α := AlC
  obs := fun s => obsCG n L fn s.heap.get?
  val := fun _ => valC fn
  says := fun _ h => ∃ K : PySem.W.Frag, K.In h ∧ SaysC L fn K
  of := fun _ _ e => ⟨_, frC_in, frC_no, e⟩
  keeps := fun _ _ _ ⟨K, hK, c⟩ k => ⟨K, PySem.W.Frag.In.keeps hK k, c⟩
theorem obsCG_eq {n : Nat} {L : Lw} {fn : List He.DefD} {g : Addr → Option Obj} {s : Shared} (h : ∀ a, g a = s.heap.get? a) : obsCG n L fn g = (hookC n L fn).obs s := by
  have e : g = s.heap.get? := funext h
  rw [e] <;> rfl
section
variable {L : Lw} {fn : List He.DefD} {K : PySem.W.Frag}
theorem SaysC.chk (c : SaysC L fn K) : L.chk K = true := (Bool.and_eq_true_iff.mp (show (L.chk K).and (fn.all fun d => d.ok K) = true from congrArg (fun z : AlC => z.1) c.2)).1
theorem SaysC.def_ (c : SaysC L fn K) {d : He.DefD} (h : d ∈ fn) : ∃ fd, FunD K d.name d.qual d.params d.body d.scope (d.dvs K) (d.kws K) (He.fAd K d.at_) fd := by
  have c2 := (Bool.and_eq_true_iff.mp (show (L.chk K).and (fn.all fun d => d.ok K) = true from congrArg (fun z : AlC => z.1) c.2)).2
  have e : fn.map (fun d => He.fnW K d.at_) = fn.map He.DefD.val := congrArg (fun z : AlC => z.2) c.2
  obtain ⟨i, hi⟩ := List.mem_iff_getElem?.mp h
  have e2 : (fn.map fun d => He.fnW K d.at_)[i]? = (fn.map He.DefD.val)[i]? := by rw [e]
  rw [List.getElem?_map, List.getElem?_map, hi] at e2
  exact He.DefD.funD (Option.some.inj e2) (List.all_eq_true.mp c2 d h)
end
/-- THE LAW'S CALL -/
theorem law_callC {T : Tab} {P : Program} {w : World} {K : PySem.W.Frag} {mg mb : Str → Option Value} {k : Nat} {fa a : Addr} {sp : DSp} {s₁ : Shared} {vs : List Value} {ns : List Int}
    (KX : K.In s₁.heap) (hnl : NoL K) (hns : s₁.heap.Ns mainGlobals mg) (hb : s₁.heap.Ns builtinsNs mb) (hbb : ∀ x : Str, x ≠ "__name__" → mb x = bootBuiltins x) (hlim : s₁.heap.NoLimit) (hg : s₁.gens = #[])
    (ha : s₁.heap.get? a = some { cls := .type "list", data := .seq vs.toArray }) (hi : IntsAre vs ns) (hl : ns.length ≤ sizeLine) (hr : Room k callerA)
    (F : ∀ base : Heap, K.In base → base.Ns mainGlobals mg → CalOk none T P w K mg base k fa sp)
    (hsp : sp [.lst (ns.map D.int)] [] (fun _ => none) (fun d _ => d = .bl true) noE) :
    codeAny (model P w) callerA (.call (.ref fa) ⟨[.ref a], []⟩) (fun r s' => r = .ok (.ret (.bool true)) ∧ OldK s₁.heap s'.heap ∧ s'.os = s₁.os ∧ AllBare s'.gens) s₁ := by
  have rv := vals_ints hi
  have lenV := hi.length
  have hk : K.lookup a = none := by
    cases q : K.lookup a with
    | none => rfl
    | some o =>
      have e := KX a o q
      rw [ha] at e
      cases e
      have := hnl a _ q
      simp [notL] at this
  generalize hH : (fun b => if b = a then some (HO.frz { cls := .type "list", data := .seq vs.toArray } (.lst (ns.map V.int))) else none : Hp) = H
  have Ha : H a = some (.frz { cls := .type "list", data := .seq vs.toArray } (.lst (ns.map V.int))) := by rw [← hH]; exact if_pos rfl
  have Hn : ∀ b, b ≠ a → H b = none := fun b hb => by rw [← hH]; exact if_neg hb
  have hA : ∀ b, H b ≠ none → b = a := fun b z => by
    by_cases hb : b = a
    · exact hb
    · exact absurd (Hn b hb) z
  have hok : HOk P w H s₁.heap := fun b u z => by
    by_cases hb : b = a
    · subst hb
      rw [Ha] at z
      cases z
      exact ⟨ha, by rw [List.length_map]; exact hl, vs, _, rv, ha⟩
    · rw [Hn b hb] at z; cases z
  have base_of : ∀ {b : Addr} {o : Obj}, s₁.heap.get? b = some o → H b = none → (hidT s₁.heap H).get? b = some o := fun e n => hidT_get e n
  have noA : ∀ {b : Addr} {o : Obj} {es : Array DictEntry} {ep : Nat}, s₁.heap.get? b = some o → o.data = .dict es ep → H b = none := fun {b o es ep} e d => by
    by_cases hb : b = a
    · subst hb
      rw [ha] at e; cases e
      have d' : Data.seq vs.toArray _ = Data.dict es ep := d
      cases d'
    · exact Hn b hb
  have nsK : ∀ {b : Addr} {m : Str → Option Value}, s₁.heap.Ns b m → (hidT s₁.heap H).Ns b m := fun {b m} ⟨o, es, ep, e, d, r⟩ => ⟨o, es, ep, base_of e (noA e d), d, r⟩
  have hKb : K.In (hidT s₁.heap H) := fun b o e => base_of (KX b o e) (by
    by_cases hb : b = a
    · subst hb; rw [hk] at e; cases e
    · exact Hn b hb)
  have hM : Mod K mg (hidT s₁.heap H) := ⟨hKb, nsK hns, ⟨mb, nsK hb, hbb⟩, let ⟨mc, h1, h2⟩ := hlim; ⟨mc, nsK h1, h2⟩⟩
  have e0 : Env0 P w K mg (hidT s₁.heap H) callerA [] s₁ H := ⟨rfl, hM, fun b o e => of_hidT e, Nat.le_of_eq (hidT_size _ _), trivial, fun b hb => absurd (show b ∈ ([] : List Addr) from hb) (by simp), hok, .of_eq hg⟩
  have hq : LSp T K sp [] [.ref a] [] H (fun v _ => v = .bl true) (fun _ _ _ => False) := by
    refine ⟨[.lst (ns.map D.int)], [], _, _, _, .cons ?_ .nil, .nil, (fun b o e => by cases e), hsp, ⟨fun v d H' g' _ i _ q => ?_⟩, CtE.no⟩
    · simp only [Is]
      refine ⟨a, ns.map V.int, rfl, ⟨_, Ha⟩, ?_⟩
      clear hi hl Ha hH hok rv lenV hsp
      induction ns with
      | nil => exact .nil
      | cons n ns ih => exact .cons (by simp only [Is]) ih
    · subst q
      simpa only [Is] using i
  refine codeAny_mono (F _ hKb (nsK hns) callerA [] s₁ H [.ref a] [] [.ref a] [] [] _ _ ⟨hr, rfl⟩ e0 (.cons rfl .nil) .nil hq) fun r s' h => ?_
  cases r with
  | error e =>
    obtain ⟨_, _, _, _, _, _, _, _, _, _, _, _, z⟩ := h
    exact z.elim
  | ok fl =>
    cases fl with
    | next => exact False.elim h
    | brk => exact False.elim h
    | cont => exact False.elim h
    | ret u =>
      obtain ⟨v, H', os, bare, un, hok', r', q⟩ := h
      have q' : v = .bl true := q
      subst q'
      obtain rfl : u = Value.bool true := r'
      refine ⟨rfl, OldK.of_keep fun b o e => ?_, os, bare⟩
      by_cases hb : b = a
      · subst hb
        have z2 := un.frzs b _ _ Ha
        obtain ⟨e1, _⟩ := hok b _ Ha
        obtain ⟨e2, _⟩ := hok' b _ z2
        rw [e] at e1; cases e1
        exact e2
      · exact un.keep b o e (Hn b hb) (by intro z; exact absurd (show b ∈ ([] : List Addr) from z) (by simp)) (by simp)
/-- the end of a law's head -/
theorem walk_ofC {l : PySem.W.OpenLaw} {n : Nat} {q : Program} {loose : List Str} {XP : (Str → Option Value) → Heap → Prop} {YP : World → Heap → Prop} {d : DefRec} (hn : l.most = some n) (hn2 : n ≤ sizeLine) (hdf : d.params.defaults = [])
    (F : ∀ (w : World) (mg : Str → Option Value) (fa : Addr) (h : Heap), YP w h → h.Ns mainGlobals mg → mg d.name = some (.ref fa) →
      ∃ (K : PySem.W.Frag) (T : Tab) (k : Nat) (sp : DSp), K.In h ∧ NoL K ∧ Room k callerA ∧ (∀ ns : List Int, ns.length ≤ n → (∀ z ∈ ns, Builtin.Int.intBits z ≤ 1048576) → sp [.lst (ns.map D.int)] [] (fun _ => none) (fun d _ => d = .bl true) noE) ∧
        ∀ base : Heap, K.In base → base.Ns mainGlobals mg → CalOk none T l.prog w K mg base k fa sp) :
    PySem.W.WalkO q loose XP YP l.row.toRowW d [] (fun f vs => PySem.call f vs) := by
  refine Att.attach_callB hn hdf fun w s₀ s₁ mg mb fa o pm cd doc a vs ns G Y ho hd hcd hmg hobj hints hlen hbits hg => ?_
  obtain ⟨K, T, k, sp, KX, hnl, hr, hsp, hF⟩ := F w mg fa _ Y G.T.g hmg
  exact law_callC KX hnl G.T.g G.T.b G.T.builtins G.T.nolimit hg hobj hints (Nat.le_trans hlen hn2) hr hF (hsp ns hlen hbits)

/-! ## FF. What the defs do, by levels -/
/-- no promise -/
def cal0 : Cal := fun _ _ _ _ _ _ => False
/-- the defs by number: what they read as -/
def den (tbl : Nat → Option Fd) : Nat → Cal
  | 0 => cal0
  | n + 1 => fun f => match tbl f with
    | some F => F.sp (den tbl n)
    | none => fun _ _ _ _ _ => False
/-- one def of the text, with what it reads as -/
structure Df where
  id : Nat
  d : He.DefD
  args : List Arg
  dl : List Expr
  N : List Str
  F : Fd
def psB : List (Option Nat) → List Str → Bool
  | [], [] => true
  | p :: ps, x :: xs => (match p with
    | none => true
    | some k => eqS (nm k) x).and (psB ps xs)
  | _, _ => false
def dvD : He.Dv → Option D
  | .non => some .non
  | .bl b => some (.bl b)
  | .int i => some (.int i)
  | .str x => some (.str x.cps.toList)
  | _ => none
theorem psB_ok : ∀ {ps : List (Option Nat)} {pn : List Str}, psB ps pn = true → ps.length = pn.length ∧ ∀ (i k : Nat), ps[i]? = some (some k) → pn[i]? = some (nm k)
  | [], [], _ => ⟨rfl, fun i k h => by simp at h⟩
  | [], _ :: _, h => by cases h
  | _ :: _, [], h => by cases h
  | p :: ps, x :: xs, h => by
    unfold psB at h
    obtain ⟨h1, h2⟩ := Bool.and_eq_true_iff.mp h
    obtain ⟨a, b⟩ := psB_ok h2
    refine ⟨by simp [a], fun i k e => ?_⟩
    cases i with
    | zero =>
      simp at e
      subst e
      simp [eqS_iff.mp h1]
    | succ i => simpa using b i k (by simpa using e)
theorem dv_ok {T : Tab} {K : PySem.W.Frag} {H : Hp} : ∀ {ds : List He.Dv} {df : List D}, ds.map dvD = df.map some → IsL T K H df (ds.map (He.Dv.v K))
  | [], [], _ => .nil
  | [], _ :: _, h => by simp at h
  | _ :: _, [], h => by simp at h
  | x :: ds, d :: df, h => by
    simp only [List.map_cons, List.cons.injEq] at h
    refine .cons ?_ (dv_ok h.2)
    have h1 := h.1
    unfold dvD at h1
    split at h1 <;> first | (cases h1; done) | (cases h1; simp only [Is, He.Dv.v, S_list])
/-- what is asked of a def's record -/
structure DfOk (L : Lw) (Γ : Sig) (f : Df) (n1 n2 : Nat) : Prop where
  pl : plcL f.id L.pl = f.d.at_
  par : f.d.params = ⟨[], f.args, none, [], [], none, f.dl⟩
  sc : scB f.N (f.args.map (·.arg)) f.d.scope = true
  ps : psB f.F.ps (f.args.map (·.arg)) = true
  df : f.d.dfl.map dvD = f.F.df.map some
  dl : f.F.df.length ≤ f.F.ps.length
  n : f.F.n = f.N.length
  b : lvlS Γ f.N ⟨f.d.scope, f.d.scope⟩ (lvl Γ f.N n1) n2 f.d.body = f.F.b
theorem nd_of {sc : Scope} {N P : List Str} (h : FnScope N P sc) : P.Nodup := by rw [← h.pre]; exact h.nd.sublist (List.take_sublist _ _)
/-- the readings of an own __repr__: below other guards -/
def Lw.sigR (L : Lw) (c : Nat) : Sig := { L.sig with gm := some (mC c), w := (if c = 2 then [0] else []), kR := (if c = 2 then 35 else 0), eqs := [], rzs := [], sts := [], lns := [], hots := [], hms := [] }
theorem Top.re {T : Tab} {L : Lw} {K : PySem.W.Frag} {mg : Str → Option Value} (t : Top T L.sig K mg) (c : Nat) : Top T (L.sigR c) K mg := ⟨t.KC, t.mth, t.fns, t.clss, t.mks, t.blts, t.cons, fun c f _ h => (by cases h), t.xcl, fun c f _ h => (by cases h), fun c f _ h => (by cases h), fun m c f h => (by cases h)⟩
theorem rz_none {T : Tab} {L : Lw} {K : PySem.W.Frag} {mg : Str → Option Value} (c : Nat) : RzOk T (L.sigR c) K mg := fun _ h _ => by cases h
section
variable {L : Lw} {fn : List He.DefD} {K : PySem.W.Frag} {P : Program} {w : World} {h : Heap} {mg : Str → Option Value} {n1 n2 : Nat}
/-- one def, by its record -/
theorem cal_rec (c : SaysC L fn K) {Γ : Sig} (top : Top (L.tab K) Γ K mg) (hz : RzOk (L.tab K) Γ K mg) {base : Heap} {C : Cal} {k : Nat} {r : Df} (hm : r.d ∈ fn) (ok : DfOk L Γ r n1 n2) (hcal : ∀ f, CalOk Γ.gm (L.tab K) P w K mg base k ((L.tab K).fA f) (C f)) (hhc : ∀ f, memN f Γ.hots = true → HCal (L.tab K) P w K mg base k ((L.tab K).fA f) (C f)) (hk : Γ.kR + 32 ≤ k) (rp : OwnRp Γ.w (L.tab K) P w K mg base Γ.kR) :
    CalOk Γ.gm (L.tab K) P w K mg base (k + 3) ((L.tab K).fA r.id) (r.F.sp C) := by
  obtain ⟨fd, fn'⟩ := c.def_ hm
  have sc := scB_ok ok.sc
  obtain ⟨p1, p2⟩ := psB_ok ok.ps
  have hA : (L.tab K).fA r.id = He.fAd K r.d.at_ := by
    show He.fAd K (plcL r.id L.pl) = _
    rw [ok.pl]
  rw [hA]
  exact cal_of fn' sc ⟨p1, nd_of sc, p2⟩ ok.par rfl (fun H => dv_ok ok.df) ok.dl ok.n top hz hcal hhc hk rp ok.b
theorem hcal_rec (c : SaysC L fn K) {Γ : Sig} (top : Top (L.tab K) Γ K mg) {base : Heap} {C : Cal} {k : Nat} {r : Df} (hm : r.d ∈ fn) (ok : DfOk L Γ r n1 n2) (hb : hotS Γ r.N ⟨r.d.scope, r.d.scope⟩ n2 r.d.body = r.F.b) (hhc : ∀ f, memN f Γ.hots = true → HCal (L.tab K) P w K mg base k ((L.tab K).fA f) (C f)) :
    HCal (L.tab K) P w K mg base (k + 1) ((L.tab K).fA r.id) (r.F.sp C) := by
  obtain ⟨fd, fn'⟩ := c.def_ hm
  have sc := scB_ok ok.sc
  obtain ⟨p1, p2⟩ := psB_ok ok.ps
  have hA : (L.tab K).fA r.id = He.fAd K r.d.at_ := by
    show He.fAd K (plcL r.id L.pl) = _
    rw [ok.pl]
  rw [hA]
  exact hcal_of fn' sc ⟨p1, nd_of sc, p2⟩ ok.par rfl (fun H => dv_ok ok.df) ok.dl ok.n top hhc hb
/-- what is asked of the records of the own __repr__ -/
structure RpOk (L : Lw) (fn : List He.DefD) (n1 n2 : Nat) : Prop where
  r0 : memN 0 L.w = true → ∃ r : Df, r.id = 64 ∧ r.F = rf rbW ∧ r.d ∈ fn ∧ DfOk L (L.sigR 0) r n1 n2
  r1 : memN 1 L.w = true → ∃ r : Df, r.id = 26 ∧ r.F = rf rbN ∧ r.d ∈ fn ∧ DfOk L (L.sigR 1) r n1 n2
  r2 : memN 2 L.w = true → memN 0 L.w = true ∧ ∃ r : Df, r.id = 14 ∧ r.F = rf rbC ∧ r.d ∈ fn ∧ DfOk L (L.sigR 2) r n1 n2
  le : ∀ c, memN c L.w = true → c < 3
theorem own_ok (X : K.In h) (G : h.Ns mainGlobals mg) (c : SaysC L fn K) (r : RpOk L fn n1 n2) (base : Heap) : OwnRp L.w (L.tab K) P w K mg base 72 := by
  have top := top_of X G c.chk
  have w0 : memN 0 L.w = true → ∀ v, CalOk (some (mC 0)) (L.tab K) P w K mg base 35 ((L.tab K).fA 64) (spRp v 0) := fun h0 v => by
    obtain ⟨q, e1, e2, hm, ok⟩ := r.r0 h0
    have := cal_rec (P := P) (w := w) (C := fun _ _ _ _ _ _ => False) (k := 32) c (top.re 0) (rz_none 0) (base := base) hm ok (fun f => cal_none) (fun f h => by cases h) (by show 0 + 32 ≤ 32; omega) own_nil
    rw [e1, e2] at this
    exact this.imp fun _ _ _ _ _ => spW
  refine ⟨fun n hn _ => ⟨_, (own_at c.chk hn).1, (own_at c.chk hn).2, ?_⟩⟩
  have hlt := r.le n hn
  match n, hlt, hn with
  | 0, _, hn => exact (w0 hn _).mono (by omega)
  | 1, _, hn =>
    obtain ⟨q, e1, e2, hm, ok⟩ := r.r1 hn
    have := cal_rec (P := P) (w := w) (C := fun _ _ _ _ _ _ => False) (k := 32) c (top.re 1) (rz_none 1) (base := base) hm ok (fun f => cal_none) (fun f h => by cases h) (by show 0 + 32 ≤ 32; omega) own_nil
    rw [e1, e2] at this
    exact (this.imp fun _ _ _ _ _ => spN).mono (by omega)
  | 2, _, hn =>
    obtain ⟨h0, q, e1, e2, hm, ok⟩ := r.r2 hn
    have o0 : OwnRp [0] (L.tab K) P w K mg base 35 := ⟨fun m hm2 _ => by
      have : m = 0 := by
        unfold memN at hm2
        simp at hm2
        exact hm2
      subst this
      exact ⟨_, (own_at c.chk h0).1, (own_at c.chk h0).2, w0 h0 _⟩⟩
    have := cal_rec (P := P) (w := w) (C := fun _ _ _ _ _ _ => False) (k := 68) c (top.re 2) (rz_none 2) (base := base) hm ok (fun f => cal_none) (fun f h => by cases h) (by show 35 + 32 ≤ 68; omega) o0
    rw [e1, e2] at this
    exact (this.imp fun _ _ _ _ _ => spC).mono (by omega)
/-- the defs that may be called from suites -/
def HotsOk (L : Lw) (fn : List He.DefD) (tbl : Nat → Option Fd) (n1 n2 : Nat) : Prop := ∀ f, memN f L.hots = true → ∃ r : Df, r.id = f ∧ tbl f = some r.F ∧ r.d ∈ fn ∧ DfOk L L.sig r n1 n2 ∧ hotS L.sig r.N ⟨r.d.scope, r.d.scope⟩ n2 r.d.body = r.F.b
theorem hden_ok (X : K.In h) (G : h.Ns mainGlobals mg) (c : SaysC L fn K) {tbl : Nat → Option Fd} (hh : HotsOk L fn tbl n1 n2) (base : Heap) :
    ∀ n f, memN f L.hots = true → HCal (L.tab K) P w K mg base (3 * n + 110) ((L.tab K).fA f) (den tbl n f)
  | 0, f, _ => fun A outer s H us ws vs zs ks Q E hr e0 r1 r2 ⟨_, _, _, _, _, _, _, _, z, _⟩ => z.elim
  | n + 1, f, hf => by
    obtain ⟨r, e1, e2, hm, ok, hb⟩ := hh f hf
    have : den tbl (n + 1) f = r.F.sp (den tbl n) := by
      show (match tbl f with
        | some F => F.sp (den tbl n)
        | none => fun _ _ _ _ _ => False) = _
      rw [e2]
    rw [this, ← e1]
    exact (hcal_rec (Γ := L.sig) c (top_of X G c.chk) hm ok hb fun f' hf' => hden_ok X G c hh base n f' hf').mono (by omega)
theorem dflI_ok {K : PySem.W.Frag} : ∀ {o : Option Int} {l : List He.Dv}, dflI o l = true → l.map (He.Dv.v K) = dfV o
  | none, [], _ => rfl
  | some i, [.int j], h => by
    have e : i = j := of_decide_eq_true h
    rw [e]
    rfl
  | none, _ :: _, h => by cases h
  | some _, [], h => by cases h
  | some i, d :: e :: l, h => by
    have h' : false = true := by unfold dflI at h; simpa using h
    cases h'
theorem rz_ok (X : K.In h) (G : h.Ns mainGlobals mg) (c : SaysC L fn K) (hf : ∀ q ∈ L.rzD, q.2.2 ∈ fn) : RzOk (L.tab K) L.sig K mg := by
  have cx : L.chkX K = true := by
    have := c.chk
    unfold Lw.chk at this
    exact (Bool.and_eq_true_iff.mp this).1
  unfold Lw.chkX at cx
  obtain ⟨_, cx⟩ := Bool.and_eq_true_iff.mp cx
  obtain ⟨_, cx⟩ := Bool.and_eq_true_iff.mp cx
  obtain ⟨c3, c4⟩ := Bool.and_eq_true_iff.mp cx
  rw [List.all_eq_true] at c3 c4
  intro n hn hx
  have hn' : n ∈ L.rza ++ L.rzD.map (·.1) := by
    have hn2 : memN n (L.rza ++ L.rzD.map (·.1)) = true := hn
    unfold memN at hn2
    rw [List.any_eq_true] at hn2
    obtain ⟨m, hm, e⟩ := hn2
    have := Nat.eq_of_beq_eq_true e
    subst this
    exact hm
  rcases List.mem_append.mp hn' with h | h
  · have z := c3 n h
    unfold rzaB at z
    simp only [Bool.and_eq_true, Bool.or_eq_true] at z
    exact .inl ⟨eqC_iff.mp z.1, ⟨(z.2.1.elim (fun y => ⟨_, _, _, _, PySem.F.excBase_ValueError, y⟩) fun y => ⟨_, _, _, _, PySem.F.excBase_ZeroDivisionError, y⟩), z.2.2.1, eqK2_ok z.2.2.2.1, of_decide_eq_true z.2.2.2.2⟩⟩
  · obtain ⟨q, hq, rfl⟩ := List.mem_map.mp h
    have z := c4 q hq
    unfold rzDB at z
    simp only [Bool.and_eq_true] at z
    obtain ⟨z1, z2, z3, z4, z5, z6⟩ := z
    refine .inr ⟨q.2.1, eqC_iff.mp z1, ⟨⟨_, He.eqO_ok z4, of_decide_eq_true z5, ?_⟩, oexB_ok z2, He.eqO_ok z3⟩⟩
    obtain ⟨fd, hd⟩ := c.def_ (hf q hq)
    obtain ⟨n', f', d⟩ := q
    obtain ⟨at_, name, qual, params, body, scope, dfl, kwd⟩ := d
    unfold iniB at z6
    dsimp only at z6 hd ⊢
    split at z6
    · rename_i e1 e2 e3
      simp only [Bool.and_eq_true] at z6
      obtain ⟨i1, i2, i3, i4, i5, i6, i7, i8, i9, i10, i11, i12, i13, i14, i15, i16, i17, i18⟩ := z6
      cases eqS_iff.mp i1
      cases eqS_iff.mp i2
      cases eqS_iff.mp i3
      cases eqS_iff.mp i4
      cases eqS_iff.mp i5
      cases eqS_iff.mp i6
      split at i18
      · rename_i B hB
        simp only [Bool.and_eq_true] at i18
        obtain ⟨j1, j2, j3⟩ := i18
        have nb : ∀ {x y : Str}, (!eqS x y) = true → (x == y) = false := fun {x y} h => beq_eq_false_iff_ne.mpr fun e => by rw [eqS_iff.mpr e] at h; cases h
        exact ⟨qual, _, scope, _, _, _, _, _, _, _, B, _, _, _, _, _, _, _, _, _, _, _, _, _, hd, scB_ok i7, ⟨j1, of_decide_eq_true j2, valIs_ok j3⟩, PySem.W.mg_of X G (refOf_ok hB), glbB_ok i8, lclB_ok i9, lclB_ok i10, i11, bind_two hd rfl (beq_eq_false_iff_ne.mp (nb i17)) (dflI_ok e3), nb i12, ⟨nb i13, nb i14⟩, nb i15, nb i16⟩
      · cases i18
    · cases z6
/-- every def keeps what it reads as -/
theorem den_ok (X : K.In h) (G : h.Ns mainGlobals mg) (c : SaysC L fn K) {tbl : Nat → Option Fd} (ht : ∀ f F, tbl f = some F → ∃ r : Df, r.id = f ∧ r.F = F ∧ r.d ∈ fn ∧ DfOk L L.sig r n1 n2) (rp : RpOk L fn n1 n2) (hf : ∀ q ∈ L.rzD, q.2.2 ∈ fn) (hh : HotsOk L fn tbl n1 n2) (base : Heap) :
    ∀ n f, CalOk none (L.tab K) P w K mg base (3 * n + 110) ((L.tab K).fA f) (den tbl n f)
  | 0, f => cal_none
  | n + 1, f => by
    cases e : tbl f with
    | none =>
      have : den tbl (n + 1) f = fun _ _ _ _ _ => False := by
        show (match tbl f with
          | some F => F.sp (den tbl n)
          | none => fun _ _ _ _ _ => False) = _
        rw [e]
      rw [this]
      exact cal_none
    | some F =>
      have : den tbl (n + 1) f = F.sp (den tbl n) := by
        show (match tbl f with
          | some F => F.sp (den tbl n)
          | none => fun _ _ _ _ _ => False) = _
        rw [e]
      rw [this]
      obtain ⟨r, e1, e2, hm, ok⟩ := ht f F e
      subst e1 e2
      exact cal_rec (Γ := L.sig) c (top_of X G c.chk) (rz_ok X G c hf) hm ok (fun g => den_ok X G c ht rp hf hh base n g) (fun g hg => hden_ok X G c hh base n g hg) (by show 72 + 32 ≤ 3 * n + 110; omega) (own_ok X G c rp base)
end
end Cn

namespace Cn
open PySem PySem.Spec PyProof.Rows L2
/-! ## GG. Steps of plain laws: head first -/
/-- what simp must not look into -/
structure Tk {α : Sort u} (x : α) : Type where
  mk ::
/-- a branch on a truth -/
def br (b : Bool) {P Q : Prop} (_ : Tk P) (_ : Tk Q) : Prop := match b with
  | true => P
  | false => Q
theorem br_t {P Q : Prop} : br true (⟨⟩ : Tk P) (⟨⟩ : Tk Q) = P := (rfl)
theorem br_f {P Q : Prop} : br false (⟨⟩ : Tk P) (⟨⟩ : Tk Q) = Q := (rfl)
theorem br_of {b : Bool} {P Q : Prop} {t : Tk P} {u : Tk Q} (h1 : b = true → P) (h2 : b = false → Q) : br b t u := by
  cases b with
  | true => exact h1 rfl
  | false => exact h2 rfl
/-- a slot -/
def gv (ρ : R) (i : Nat) {k : D → Prop} (_ : Tk k) : Prop := getS ρ i k
/-- a truth -/
def trK (o : Option Bool) {k : Bool → Prop} (_ : Tk k) : Prop := match o with
  | some b => k b
  | none => False
theorem ev_trk {b : Bool} {k : Bool → Prop} : trK (some b) (⟨⟩ : Tk k) = k b := (rfl)
/-- the list that stands at a -/
def onL (g : G) (a : Addr) {k : List D → Prop} (_ : Tk k) : Prop := match g a with
  | some (.lst l) => k l
  | _ => False
theorem onL_of {g : G} {a : Addr} {l : List D} {k : List D → Prop} {t : Tk k} (h : g a = some (.lst l)) (q : k l) : onL g a t := by
  unfold onL; rw [h]; exact q
theorem onL_at {g : G} {a : Addr} {l : List D} {k : List D → Prop} : onL (gset g a (.lst l)) a (⟨⟩ : Tk k) = k l := by
  unfold onL; simp only [gset, if_true]
/-- the cell at i -/
def onI (l : List D) (i : Int) {k : D → Prop} (_ : Tk k) : Prop := match atI l i with
  | some d => k d
  | none => False
/-- a call -/
def dn (tbl : Nat → Option Fd) (n f : Nat) (ds : List D) (kws : List (Nat × D)) (g : G) {Q : QT} (_ : Tk Q) {E : ET} (_ : Tk E) : Prop := den tbl n f ds kws g Q E
theorem ev_dn {tbl : Nat → Option Fd} {n f : Nat} {ds : List D} {kws : List (Nat × D)} {g : G} {Q : QT} {E : ET} : den tbl n f ds kws g Q E = dn tbl n f ds kws g (⟨⟩ : Tk Q) (⟨⟩ : Tk E) := (rfl)
def fl (its : List D) (ρ : R) (g : G) {tg : Tg} (_ : Tk tg) {ok : G → Prop} (_ : Tk ok) {t : DTS} (_ : Tk t) {C : Cal} (_ : Tk C) {DD : DE} (_ : Tk DD) : Prop := dForL tg ok t its C ρ g DD
theorem ev_fl {its : List D} {ρ : R} {g : G} {tg : Tg} {ok : G → Prop} {t : DTS} {C : Cal} {DD : DE} : dForL tg ok t its C ρ g DD = fl its ρ g (⟨⟩ : Tk tg) (⟨⟩ : Tk ok) (⟨⟩ : Tk t) (⟨⟩ : Tk C) (⟨⟩ : Tk DD) := (rfl)
def cp (its acc : List D) (ρ : R) (g : G) {tg : Tg} (_ : Tk tg) {ok : G → Prop} (_ : Tk ok) {tt : DTT} (_ : Tk tt) {te : DTE} (_ : Tk te) {C : Cal} (_ : Tk C) {Q : QL} (_ : Tk Q) : Prop := dCpL tg ok tt te its acc C ρ g Q
theorem ev_cp {its acc : List D} {ρ : R} {g : G} {tg : Tg} {ok : G → Prop} {tt : DTT} {te : DTE} {C : Cal} {Q : QL} : dCpL tg ok tt te its acc C ρ g Q = cp its acc ρ g (⟨⟩ : Tk tg) (⟨⟩ : Tk ok) (⟨⟩ : Tk tt) (⟨⟩ : Tk te) (⟨⟩ : Tk C) (⟨⟩ : Tk Q) := (rfl)
def wl (ρ : R) (g : G) {tc : DTT} (_ : Tk tc) {t : DTS} (_ : Tk t) {C : Cal} (_ : Tk C) {DD : DE} (_ : Tk DD) : Prop := dWhile tc t C ρ g DD
theorem ev_wl {ρ : R} {g : G} {tc : DTT} {t : DTS} {C : Cal} {DD : DE} : dWhile tc t C ρ g DD = wl ρ g (⟨⟩ : Tk tc) (⟨⟩ : Tk t) (⟨⟩ : Tk C) (⟨⟩ : Tk DD) := (rfl)
section
variable {C : Cal} {ρ : R} {g : G} {Q : QT} {E : ET} {DD : DE} {t u : DTS} {te ta tb : DTE} {tc tu : DTT} {QB : Bool → G → Prop} {QLs : QL}
theorem den_at {tbl : Nat → Option Fd} {n f : Nat} {F : Fd} (h : tbl f = some F) {ds : List D} {kws : List (Nat × D)} {bs : List D} (hb : bindD F.ps F.df ds kws = some bs) (q : F.b (den tbl n) (startD F.n bs) g (endsD Q E)) : den tbl (n + 1) f ds kws g Q E := by
  unfold den
  rw [h]
  show Fd.sp F _ _ _ _ _ _
  unfold Fd.sp
  rw [hb]
  exact q
theorem den_atB {tbl : Nat → Option Fd} {n f N : Nat} {ps : List (Option Nat)} {df : List D} {b : DTS} (h : tbl f = some ⟨N, ps, df, b⟩) {ds : List D} {kws : List (Nat × D)} {bs : List D} (hb : bindD ps df ds kws = some bs) (hr : startD N bs = ρ) (q : b (den tbl n) ρ g (endsD Q E)) : den tbl (n + 1) f ds kws g Q E := by
  subst hr
  exact den_at h hb q
theorem gset_gset (a : Addr) (o p : GO) : gset (gset g a o) a p = gset g a p := by
  funext b; simp only [gset]; split <;> rfl
theorem gset_at (a : Addr) (o : GO) : gset g a o a = some o := by simp [gset]
-- statements
theorem ev_seq : dSeq t u C ρ g DD = t C ρ g { DD with nx := fun ρ1 g1 => u C ρ1 g1 DD } := (rfl)
theorem ev_ifS : dIfS tc t u C ρ g DD = tc C ρ g (fun b g1 => br b (⟨⟩ : Tk (t C ρ g1 DD)) (⟨⟩ : Tk (u C ρ g1 DD))) fun x g1 => DD.ex x ρ g1 := (rfl)
theorem ev_ret : dRet te C ρ g DD = te C ρ g DD.rt fun x g1 => DD.ex x ρ g1 := (rfl)
theorem ev_retN : dRetN C ρ g DD = DD.rt .non g := (rfl)
theorem ev_next : dNext C ρ g DD = DD.nx ρ g := (rfl)
theorem ev_brk : dBrk C ρ g DD = DD.bk ρ g := (rfl)
theorem ev_cnt : dCnt C ρ g DD = DD.ct ρ g := (rfl)
theorem ev_expr : dExpr te C ρ g DD = te C ρ g (fun _ g1 => DD.nx ρ g1) fun x g1 => DD.ex x ρ g1 := (rfl)
theorem ev_asg {tg : Tg} : dAsg tg te C ρ g DD = te C ρ g (fun d g1 => asgU g1 tg d ρ fun ρ1 => DD.nx ρ1 g1) fun x g1 => DD.ex x ρ g1 := (rfl)
theorem ev_unm {i : Nat} {d : D} {k : R → Prop} : asgU g (.nm i) d ρ k = k (ρ.set i (some d)) := by simp only [asgU, unG, asgT]
theorem ev_utpt {ts : List Tg} {l : List D} {k : R → Prop} : asgU g (.tp ts) (.tup l) ρ k = asgTs ts l ρ k := by simp only [asgU, unG, asgT]
theorem ev_utpl {ts : List Tg} {l : List D} {k : R → Prop} : asgU g (.tp ts) (.lst l) ρ k = asgTs ts l ρ k := by simp only [asgU, unG, asgT]
theorem ev_utpa {ts : List Tg} {a : Addr} {k : R → Prop} : asgU g (.tp ts) (.adr a) ρ k = onL g a (⟨⟩ : Tk fun l => asgTs ts l ρ k) := by
  unfold asgU unG onL
  cases h : g a with
  | none => simp [asgT, h]
  | some o => cases o <;> simp [asgT, h]
theorem ev_nm {i : Nat} {d : D} {k : R → Prop} : asgT (.nm i) d ρ k = k (ρ.set i (some d)) := by simp only [asgT]
theorem ev_tpt {ts : List Tg} {l : List D} {k : R → Prop} : asgT (.tp ts) (.tup l) ρ k = asgTs ts l ρ k := by simp only [asgT]
theorem ev_tpl {ts : List Tg} {l : List D} {k : R → Prop} : asgT (.tp ts) (.lst l) ρ k = asgTs ts l ρ k := by simp only [asgT]
theorem ev_ts0 {k : R → Prop} : asgTs [] [] ρ k = k ρ := by simp only [asgTs, true_and]
theorem ev_ts1 {s : Tg} {ts : List Tg} {d : D} {ds : List D} {k : R → Prop} : asgTs (s :: ts) (d :: ds) ρ k = asgT s d ρ fun ρ1 => asgTs ts ds ρ1 k := by simp only [asgTs]
theorem ev_par {is : List Nat} {ts : List DTE} : dPar is ts C ρ g DD = dArgs ts C ρ g (fun ds g1 => asgTs (is.map Tg.nm) ds ρ fun ρ1 => DD.nx ρ1 g1) fun x g1 => DD.ex x ρ g1 := (rfl)
theorem ev_put {to ti : DTE} : dPut to ti te C ρ g DD = te C ρ g (fun v g1 => to C ρ g1 (fun o g2 => ti C ρ g2 (fun i g3 => oPut o i v g3 fun g4 => DD.nx ρ g4) fun x g => DD.ex x ρ g) fun x g => DD.ex x ρ g) fun x g => DD.ex x ρ g := (rfl)
theorem ev_fld {f : Nat} {to : DTE} : dFld f to te C ρ g DD = te C ρ g (fun v g1 => to C ρ g1 (fun o g2 => match o with
  | .adr a => match g2 a with
    | some (.ins c fs) => (fldsA c).contains f = true ∧ fs.length < 900 ∧ DD.nx ρ (gset g2 a (.ins c (putD f v fs)))
    | _ => False
  | _ => False) fun x g => DD.ex x ρ g) fun x g => DD.ex x ρ g := (rfl)
theorem ev_aug {i : Nat} {o : DO2} : dAug i o te C ρ g DD = gv ρ i (⟨⟩ : Tk fun x => te C ρ g (fun y g1 => o x y g1 fun z g2 => DD.nx (ρ.set i (some z)) g2) fun x g1 => DD.ex x ρ g1) := (rfl)
theorem ev_for {s : DSrc} {tg : Tg} : dFor s tg t C ρ g DD = s C ρ g (fun its ok g1 => dForL tg ok t its C ρ g1 DD) fun x g1 => DD.ex x ρ g1 := (rfl)
-- sources
theorem ev_sOf {Qs : List D → (G → Prop) → G → Prop} : sOf te C ρ g Qs E = te C ρ g (fun d g1 => match d with
  | .tup l => Qs l yes g1
  | .lst l => Qs l yes g1
  | .str s => Qs (s.map fun c => .str [c]) yes g1
  | .adr a => onL g1 a (⟨⟩ : Tk fun l => Qs l (fun g => g a = some (.lst l)) g1)
  | _ => False) E := (rfl)
theorem ev_sR1 {Qs : List D → (G → Prop) → G → Prop} : sRange1 te C ρ g Qs E = te C ρ g (fun d g1 => match d with
  | .int j => (-(2 ^ 62) ≤ j ∧ j < 2 ^ 62) ∧ Qs (rangeD 0 j.toNat) yes g1
  | _ => False) E := (rfl)
theorem ev_sR2 {Qs : List D → (G → Prop) → G → Prop} : sRange2 te ta C ρ g Qs E = te C ρ g (fun d g1 => ta C ρ g1 (fun e g2 => match d, e with
  | .int i, .int j => (-(2 ^ 62) ≤ i ∧ i < 2 ^ 62 ∧ -(2 ^ 62) ≤ j ∧ j < 2 ^ 62) ∧ Qs (rangeD i (j - i).toNat) yes g2
  | _, _ => False) E) E := (rfl)
-- expressions
theorem ev_var {i : Nat} : dVar i C ρ g Q E = gv ρ i (⟨⟩ : Tk fun d => Q d g) := (rfl)
theorem ev_c {d : D} : dC d C ρ g Q E = Q d g := (rfl)
theorem ev_gv0 {d : D} {k : D → Prop} : gv (some d :: ρ) 0 (⟨⟩ : Tk k) = k d := (rfl)
theorem ev_gvs {o : Option D} {i : Nat} {k : D → Prop} : gv (o :: ρ) (i + 1) (⟨⟩ : Tk k) = gv ρ i (⟨⟩ : Tk k) := (rfl)
theorem ev_bin {o : DO2} : dBin o ta tb C ρ g Q E = ta C ρ g (fun x g1 => tb C ρ g1 (fun y g2 => o x y g2 Q) E) E := (rfl)
theorem ev_un {o : DO1} : dUn o te C ρ g Q E = te C ρ g (fun x g1 => o x g1 Q) E := (rfl)
theorem ev_ops {o : DOL} {ts : List DTE} : dOps o ts C ρ g Q E = dArgs ts C ρ g (fun ds g1 => o ds g1 Q) E := (rfl)
theorem ev_args0 : dArgs [] C ρ g QLs E = QLs [] g := by simp only [dArgs]
theorem ev_args1 {ts : List DTE} : dArgs (te :: ts) C ρ g QLs E = te C ρ g (fun d g1 => dArgs ts C ρ g1 (fun ds g2 => QLs (d :: ds) g2) E) E := by simp only [dArgs]
theorem ev_call {f : Nat} {ts : List DTE} : dCall f ts [] [] C ρ g Q E = dArgs ts C ρ g (fun ds g1 => C f ds [] g1 Q E) E := (rfl)
theorem ev_callk {f k : Nat} {ks : List Nat} {ts tks : List DTE} : dCall f ts (k :: ks) tks C ρ g Q E = dArgs ts C ρ g (fun ds g1 => dArgs tks C ρ g1 (fun es g2 => C f ds ((k :: ks).zip es) g2 Q E) E) E := (rfl)
theorem ev_make {c f : Nat} {ts : List DTE} : dMake c f true ts [] [] C ρ g Q E = dArgs ts C ρ g (fun ds g1 => ∀ a, g1 a = none → C f (.adr a :: ds) [] (gset g1 a (.ins c [])) (frzIns c Q a) E) E := by
  simp [dMake, dArgs]
theorem ev_makef {c f : Nat} {ts : List DTE} : dMake c f false ts [] [] C ρ g Q E = dArgs ts C ρ g (fun ds g1 => ∀ a, g1 a = none → C f (.adr a :: ds) [] (gset g1 a (.ins c [])) (fun r g' => r = .non ∧ Q (.adr a) g') E) E := by
  simp [dMake, dArgs]
/-- a method's call, by the thing -/
def methI (o : Option Nat) (c : Nat) (l : List D) {ts : List DTE} (_ : Tk ts) {C : Cal} (_ : Tk C) {ρ : R} (_ : Tk ρ) {g : G} (_ : Tk g) {Q : QT} (_ : Tk Q) {E : ET} (_ : Tk E) : Prop := match o with
  | some f => dArgs ts C ρ g (fun ds g2 => C f (.ins c l :: ds) [] g2 Q E) E
  | none => False
def mtI (mt : MT) (c m : Nat) : Option Nat := if (flds c).contains m then none else mt c m
def methK (mt : MT) (m : Nat) (d : D) (ts : List DTE) (C : Cal) (ρ : R) (g : G) (Q : QT) (E : ET) : Prop := match clsM g d m with
  | some c => match mt c m with
    | some f => dArgs ts C ρ g (fun ds g2 => C f (d :: ds) [] g2 Q E) E
    | none => False
  | none => match bmt m d g with
    | some o => dArgs ts C ρ g (fun ds g2 => o d ds g2 Q) E
    | none => False
theorem ev_meth {mt : MT} {m : Nat} {ts : List DTE} : dMeth mt m te ts [] [] C ρ g Q E = te C ρ g (fun d g1 => methK mt m d ts C ρ g1 Q E) E := by
  unfold dMeth methK
  congr 1
  funext d g1
  cases clsM g1 d m with
  | some c => cases h : mt c m <;> simp [dArgs, h]
  | none => cases h : bmt m d g1 <;> simp [h]
theorem bmt_ins {m c : Nat} {l : List D} : bmt m (.ins c l) g = none := by
  simp [bmt, bmt2, isM, isS, isLs, lstOf]
theorem ev_mins {mt : MT} {m c : Nat} {l : List D} {ts : List DTE} : methK mt m (.ins c l) ts C ρ g Q E = methI (mtI mt c m) c l (⟨⟩ : Tk ts) (⟨⟩ : Tk C) (⟨⟩ : Tk ρ) (⟨⟩ : Tk g) (⟨⟩ : Tk Q) (⟨⟩ : Tk E) := by
  unfold methK methI mtI
  by_cases h : (flds c).contains m = true
  · have e : clsM g (.ins c l) m = none := by simp only [clsM]; rw [if_pos h]
    rw [if_pos h, e, bmt_ins]
  · have e : clsM g (.ins c l) m = some c := by simp only [clsM]; rw [if_neg h]
    rw [if_neg h, e]
theorem ev_mi {c f : Nat} {l : List D} {ts : List DTE} : methI (some f) c l (⟨⟩ : Tk ts) (⟨⟩ : Tk C) (⟨⟩ : Tk ρ) (⟨⟩ : Tk g) (⟨⟩ : Tk Q) (⟨⟩ : Tk E) = dArgs ts C ρ g (fun ds g2 => C f (.ins c l :: ds) [] g2 Q E) E := (rfl)
theorem meth_app {mt : MT} {a : Addr} {l : List D} {ts : List DTE} (h : g a = some (.lst l)) : methK mt 2 (.adr a) ts C ρ g Q E = dArgs ts C ρ g (fun ds g2 => mAppend (.adr a) ds g2 Q) E := by
  simp [methK, clsM, h, bmt, isM]
theorem meth_pop {mt : MT} {a : Addr} {l : List D} {ts : List DTE} (h : g a = some (.lst l)) : methK mt 82 (.adr a) ts C ρ g Q E = dArgs ts C ρ g (fun ds g2 => mPopA (.adr a) ds g2 Q) E := by
  simp [methK, clsM, h, bmt, isM]
theorem meth_insert {mt : MT} {a : Addr} {l : List D} {ts : List DTE} (h : g a = some (.lst l)) : methK mt 39 (.adr a) ts C ρ g Q E = dArgs ts C ρ g (fun ds g2 => mInsert (.adr a) ds g2 Q) E := by
  simp [methK, clsM, h, bmt, isM]
theorem pop_ok {a : Addr} {l : List D} {i : Nat} {x : D} (h : g a = some (.lst l)) (hx : l[i]? = some x) (hi : i < 1000000) (q : Q x (gset g a (.lst (l.eraseIdx i)))) : mPopA (.adr a) [.int (i : Nat)] g Q := by
  have e : ((i : Nat) : Int).toNat = i := Int.toNat_natCast i
  simp only [mPopA, h, e, hx]
  exact ⟨by omega, q⟩
theorem insert_ok {a : Addr} {l : List D} {i : Nat} {x : D} (h : g a = some (.lst l)) (hl : l.length < 1000000) (hi : i < 1000000) (q : Q .non (gset g a (.lst (l.take i ++ [x] ++ l.drop i)))) : mInsert (.adr a) [.int (i : Nat), x] g Q := by
  have e : ((i : Nat) : Int).toNat = i := Int.toNat_natCast i
  simp only [mInsert, h, e]
  exact ⟨⟨Nat.lt_of_lt_of_le hl (by decide +kernel), by omega, by omega⟩, q⟩
theorem ev_append {a : Addr} {x : D} : mAppend (.adr a) [x] g Q = onL g a (⟨⟩ : Tk fun l => l.length < sizeLine ∧ Q .non (gset g a (.lst (l ++ [x])))) := by
  unfold onL
  simp only [mAppend]
  try rfl
theorem ev_tru : dTru te C ρ g QB E = te C ρ g (fun d g1 => trK (truthD g1 d) (⟨⟩ : Tk fun b => QB b g1)) E := by
  unfold dTru
  congr 1
theorem ev_tst : dTst te C ρ g QB E = te C ρ g (fun d g1 => match d with
  | .bl b => QB b g1
  | _ => False) E := (rfl)
theorem ev_not : dNot tc C ρ g QB E = tc C ρ g (fun b g1 => QB (!b) g1) E := (rfl)
theorem ev_and : dAnd tc tu C ρ g QB E = tc C ρ g (fun b g1 => br b (⟨⟩ : Tk (tu C ρ g1 QB E)) (⟨⟩ : Tk (QB false g1))) E := (rfl)
theorem ev_or : dOr tc tu C ρ g QB E = tc C ρ g (fun b g1 => br b (⟨⟩ : Tk (QB true g1)) (⟨⟩ : Tk (tu C ρ g1 QB E))) E := (rfl)
theorem ev_yes : dYes C ρ g QB E = QB true g := (rfl)
theorem ev_andV : dAndV ta tb C ρ g Q E = ta C ρ g (fun d g1 => trK (truthD g1 d) (⟨⟩ : Tk fun b => br b (⟨⟩ : Tk (tb C ρ g1 Q E)) (⟨⟩ : Tk (Q d g1)))) E := by
  unfold dAndV
  congr 1
  funext d g1
  unfold trK
  split <;> rename_i h <;> rw [h] <;> rfl
theorem ev_orV : dOrV ta tb C ρ g Q E = ta C ρ g (fun d g1 => trK (truthD g1 d) (⟨⟩ : Tk fun b => br b (⟨⟩ : Tk (Q d g1)) (⟨⟩ : Tk (tb C ρ g1 Q E)))) E := by
  unfold dOrV
  congr 1
  funext d g1
  unfold trK
  split <;> rename_i h <;> rw [h] <;> rfl
theorem ev_notV : dNotV te C ρ g Q E = te C ρ g (fun d g1 => trK (truthD g1 d) (⟨⟩ : Tk fun b => Q (.bl (!b)) g1)) E := by
  unfold dNotV
  congr 1
theorem ev_ife : dIf tc ta tb C ρ g Q E = tc C ρ g (fun b g1 => br b (⟨⟩ : Tk (ta C ρ g1 Q E)) (⟨⟩ : Tk (tb C ρ g1 Q E))) E := (rfl)
theorem ev_chain {o o' : DO2} : dChain o o' te ta tb C ρ g Q E = te C ρ g (fun x g1 => ta C ρ g1 (fun y g2 => o x y g2 fun z g3 => match z with
  | .bl b => br b (⟨⟩ : Tk (tb C ρ g3 (fun w g4 => o' y w g4 Q) E)) (⟨⟩ : Tk (Q (.bl false) g3))
  | _ => False) E) E := by
  unfold dChain
  congr 1
  funext x g1
  congr 1
  funext y g2
  congr 1
  funext z g3
  split <;> first | rfl | (rename_i h1 h2; split <;> first | rfl | (rename_i b; cases b <;> first | exact (h1 rfl).elim | exact (h2 rfl).elim))
theorem ev_comp {m : Bool} {vs : List Nat} {s : DSrc} {tg : Tg} : dComp m vs s tg tc te C ρ g Q E = s C ρ g (fun its ok g1 => dCpL tg ok tc te its [] C (wipeR ρ vs) g1 fun acc g2 =>
  if m then ∀ a, g2 a = none → Q (.adr a) (gset g2 a (.lst acc)) else Q (.lst acc) g2) E := (rfl)
-- truths
theorem tr_non : truthD g .non = some false := (rfl)
theorem tr_bl {b : Bool} : truthD g (.bl b) = some b := (rfl)
theorem tr_int {i : Int} : truthD g (.int i) = some (i != 0) := (rfl)
theorem tr_tup {l : List D} : truthD g (.tup l) = some (!l.isEmpty) := (rfl)
theorem tr_lst {l : List D} : truthD g (.lst l) = some (!l.isEmpty) := (rfl)
-- operators
theorem ev_add {m : Bool} {i j : Int} : oAdd m (.int i) (.int j) g Q = Q (.int (i + j)) g := by unfold oAdd; rfl
theorem ev_addt {m : Bool} {i j : List D} : oAdd m (.tup i) (.tup j) g Q = (i.length + j.length ≤ sizeLine ∧ Q (.tup (i ++ j)) g) := by unfold oAdd; rfl
theorem ev_adds {m : Bool} {i j : List Nat} : oAdd m (.str i) (.str j) g Q = (i.length + j.length ≤ sizeLine ∧ Q (.str (i ++ j)) g) := by unfold oAdd; rfl
theorem ev_addl {i j : List D} : oAdd false (.lst i) (.lst j) g Q = (i.length + j.length ≤ sizeLine ∧ Q (.lst (i ++ j)) g) := by unfold oAdd; rfl
theorem ev_iadd {i j : Int} : oIAdd (.int i) (.int j) g Q = Q (.int (i + j)) g := by unfold oIAdd; rfl
theorem ev_isub {i j : Int} : oISub (.int i) (.int j) g Q = Q (.int (i - j)) g := by unfold oISub; rfl
theorem ev_sub {i j : Int} : oSub (.int i) (.int j) g Q = Q (.int (i - j)) g := (rfl)
theorem ev_mul {i j : Int} : oMul (.int i) (.int j) g Q = (IntMulOk i j ∧ Q (.int (i * j)) g) := (rfl)
theorem ev_div {i j : Int} : oDiv (.int i) (.int j) g Q = ((0 < j ∧ j.natAbs.log2 < 9000) ∧ Q (.int (i / j)) g) := (rfl)
theorem ev_mod {i j : Int} : oMod (.int i) (.int j) g Q = (0 < j ∧ Q (.int (i % j)) g) := (rfl)
theorem ev_pow {i j : Int} : oPow (.int i) (.int j) g Q = ((0 ≤ j ∧ j ≤ 1000000 ∧ i.natAbs < 2 ^ 64) ∧ Q (.int (i ^ j.toNat)) g) := (rfl)
theorem ev_ltt {a b : List D} : oLt (.tup a) (.tup b) g Q = ((pureD 6 (.tup a) && pureD 6 (.tup b) && PySem.W.alike (toP (.tup a)) (toP (.tup b))) = true ∧ Q (.bl (PySem.W.dataLt (toP (.tup a)) (toP (.tup b)))) g) := (rfl)
theorem ev_let {a b : List D} : oLe (.tup a) (.tup b) g Q = ((pureD 6 (.tup a) && pureD 6 (.tup b) && PySem.W.alike (toP (.tup a)) (toP (.tup b))) = true ∧ Q (.bl (!PySem.W.dataLt (toP (.tup b)) (toP (.tup a)))) g) := (rfl)
theorem ev_lts {a b : List Nat} : oLt (.str a) (.str b) g Q = Q (.bl (decide (a < b))) g := (rfl)
theorem ev_gt {i j : Int} : oGt (.int i) (.int j) g Q = Q (.bl (decide (j < i))) g := (rfl)
theorem ev_lt {i j : Int} : oLt (.int i) (.int j) g Q = Q (.bl (decide (i < j))) g := (rfl)
theorem ev_ge {i j : Int} : oGe (.int i) (.int j) g Q = Q (.bl (decide (j ≤ i))) g := (rfl)
theorem ev_le {i j : Int} : oLe (.int i) (.int j) g Q = Q (.bl (decide (i ≤ j))) g := (rfl)
theorem ev_eq {i j : Int} : oEq false (.int i) (.int j) g Q = Q (.bl (decide (i = j))) g := by
  have e : eqD (.int i) (.int j) = (decide (i = j)) := (rfl)
  simp [oEq, scD, e]
theorem ev_ne {i j : Int} : oEq true (.int i) (.int j) g Q = Q (.bl (!decide (i = j))) g := by
  have e : eqD (.int i) (.int j) = (decide (i = j)) := (rfl)
  simp [oEq, scD, e]
theorem ev_eqs {i j : List Nat} : oEq false (.str i) (.str j) g Q = Q (.bl (decide (i = j))) g := by
  have e : eqD (.str i) (.str j) = (i == j) := (rfl)
  have e2 : (i == j) = decide (i = j) := by by_cases h : i = j <;> simp [h]
  simp [oEq, scD, e, e2]
theorem ev_nes {i j : List Nat} : oEq true (.str i) (.str j) g Q = Q (.bl (!decide (i = j))) g := by
  have e : eqD (.str i) (.str j) = (i == j) := (rfl)
  have e2 : (i == j) = decide (i = j) := by by_cases h : i = j <;> simp [h]
  simp [oEq, scD, e, e2]
theorem ev_isn {d : D} : oIs false d .non g Q = Q (.bl (isNon d)) g := by simp [oIs]
theorem ev_isnn {d : D} : oIs true d .non g Q = Q (.bl (!isNon d)) g := by simp [oIs]
theorem ev_isb {a b : Bool} : oIs false (.bl a) (.bl b) g Q = Q (.bl (a == b)) g := by simp [oIs]
theorem ev_isnb {a b : Bool} : oIs true (.bl a) (.bl b) g Q = Q (.bl (!(a == b))) g := by simp [oIs]
theorem ev_tup {ds : List D} : oTup ds g Q = (ds.length ≤ sizeLine ∧ Q (.tup ds) g) := (rfl)
theorem ev_lstm {ds : List D} : oLst true ds g Q = (ds.length ≤ sizeLine ∧ ∀ a, g a = none → Q (.adr a) (gset g a (.lst ds))) := (rfl)
theorem ev_lstf {ds : List D} : oLst false ds g Q = (ds.length ≤ sizeLine ∧ Q (.lst ds) g) := (rfl)
theorem ev_intb {b : Bool} : oInt [.bl b] g Q = Q (.int (if b then 1 else 0)) g := (rfl)
theorem ev_abs {i : Int} : oAbs [.int i] g Q = Q (.int (if i < 0 then -i else i)) g := (rfl)
theorem ev_max {i j : Int} : oMax [.int i, .int j] g Q = Q (.int (if j > i then j else i)) g := (rfl)
theorem ev_min {i j : Int} : oMin [.int i, .int j] g Q = Q (.int (if j < i then j else i)) g := (rfl)
theorem ev_lent {l : List D} : oLen [.tup l] g Q = Q (.int l.length) g := (rfl)
theorem ev_lenl {l : List D} : oLen [.lst l] g Q = Q (.int l.length) g := (rfl)
theorem ev_lens {l : List Nat} : oLen [.str l] g Q = (l.length ≤ sizeLine ∧ Q (.int l.length) g) := (rfl)
theorem ev_lena {a : Addr} : oLen [.adr a] g Q = onL g a (⟨⟩ : Tk fun l => Q (.int l.length) g) := by
  unfold onL
  cases h : g a with
  | none => simp [oLen, seqOf, lstOf, h]
  | some o => cases o <;> simp [oLen, seqOf, lstOf, h]
theorem ev_ixt {l : List D} {i : Int} : oIx (.tup l) (.int i) g Q = onI l i (⟨⟩ : Tk fun d => Q d g) := by
  unfold onI
  simp only [oIx, seqOf]
  try rfl
theorem ev_ixl {l : List D} {i : Int} : oIx (.lst l) (.int i) g Q = onI l i (⟨⟩ : Tk fun d => Q d g) := by
  unfold onI
  simp only [oIx, seqOf, lstOf]
  try rfl
theorem ev_ixa {a : Addr} {i : Int} : oIx (.adr a) (.int i) g Q = onL g a (⟨⟩ : Tk fun l => onI l i (⟨⟩ : Tk fun d => Q d g)) := by
  unfold onL onI
  cases h : g a with
  | none => simp [oIx, seqOf, lstOf, ixDc0, h]
  | some o => cases o <;> simp [oIx, seqOf, lstOf, ixDc0, h] <;> exact Iff.rfl
/-- l[i] = v -/
def putL (l : List D) (i : Int) (v : D) {k : List D → Prop} (_ : Tk k) : Prop := match ixN l.length i with
  | some j => k (l.set j v)
  | none => False
theorem ev_put1 {a : Addr} {i : Int} {v : D} {k : G → Prop} : oPut (.adr a) (.int i) v g k = onL g a (⟨⟩ : Tk fun l => putL l i v (⟨⟩ : Tk fun l1 => k (gset g a (.lst l1)))) := by
  unfold onL putL
  simp only [oPut]
  try rfl
theorem putL_nat {l : List D} {j : Nat} {v : D} {k : List D → Prop} (h : j < l.length) : putL l (j : Int) v (⟨⟩ : Tk k) = k (l.set j v) := by
  unfold putL ixN
  simp [h]
theorem putL0 {x v : D} {l : List D} {k : List D → Prop} : putL (x :: l) 0 v (⟨⟩ : Tk k) = k (v :: l) := putL_nat (j := 0) (by simp)
theorem putL1 {x y v : D} {l : List D} {k : List D → Prop} : putL (x :: y :: l) 1 v (⟨⟩ : Tk k) = k (x :: v :: l) := putL_nat (j := 1) (by simp)
theorem putL2 {x y z v : D} {l : List D} {k : List D → Prop} : putL (x :: y :: z :: l) 2 v (⟨⟩ : Tk k) = k (x :: y :: v :: l) := putL_nat (j := 2) (by simp)
theorem ev_tpa {a : Addr} : oTuple [.adr a] g Q = onL g a (⟨⟩ : Tk fun l => Q (.tup l) g) := by
  unfold onL
  cases h : g a with
  | none => simp [oTuple, seqOf, lstOf, h]
  | some o => cases o <;> simp [oTuple, seqOf, lstOf, h]
theorem ev_tpl1 {l : List D} : oTuple [.lst l] g Q = Q (.tup l) g := (rfl)
theorem ev_tpt1 {l : List D} : oTuple [.tup l] g Q = Q (.tup l) g := (rfl)
theorem ev_reva {a : Addr} {m : Bool} : oRev m (.adr a) g Q = onL g a (⟨⟩ : Tk fun l => if m then ∀ b, g b = none → Q (.adr b) (gset g b (.lst l.reverse)) else Q (.lst l.reverse) g) := by
  unfold onL
  cases h : g a with
  | none => simp [oRev, lstOf, h]
  | some o => cases o <;> simp [oRev, lstOf, h]
theorem ev_revt {l : List D} {m : Bool} : oRev m (.tup l) g Q = Q (.tup l.reverse) g := (rfl)
theorem ev_revl {l : List D} {m : Bool} : oRev m (.lst l) g Q = if m then ∀ b, g b = none → Q (.adr b) (gset g b (.lst l.reverse)) else Q (.lst l.reverse) g := by
  simp only [oRev, lstOf]
theorem onI_nat {l : List D} {j : Nat} {d : D} {k : D → Prop} (h : l[j]? = some d) : onI l (j : Int) (⟨⟩ : Tk k) = k d := by
  have hl : j < l.length := (List.getElem?_eq_some_iff.mp h).1
  unfold onI atI ixN
  have e : l[j] = d := by have := List.getElem?_eq_getElem hl; rw [h] at this; exact (Option.some.inj this).symm
  simp [hl, e]
theorem onI_at {l : List D} {i : Int} {j : Nat} {d : D} {k : D → Prop} (h : l[j]? = some d) (e : i = (j : Int)) : onI l i (⟨⟩ : Tk k) = k d := by rw [e]; exact onI_nat h
theorem onI0 {x : D} {l : List D} {k : D → Prop} : onI (x :: l) 0 (⟨⟩ : Tk k) = k x := onI_nat (j := 0) rfl
theorem onI1 {x y : D} {l : List D} {k : D → Prop} : onI (x :: y :: l) 1 (⟨⟩ : Tk k) = k y := onI_nat (j := 1) rfl
theorem onI2 {x y z : D} {l : List D} {k : D → Prop} : onI (x :: y :: z :: l) 2 (⟨⟩ : Tk k) = k z := onI_nat (j := 2) rfl
theorem onI3 {x y z w : D} {l : List D} {k : D → Prop} : onI (x :: y :: z :: w :: l) 3 (⟨⟩ : Tk k) = k w := onI_nat (j := 3) rfl
theorem onI4 {x y z w v : D} {l : List D} {k : D → Prop} : onI (x :: y :: z :: w :: v :: l) 4 (⟨⟩ : Tk k) = k v := onI_nat (j := 4) rfl
theorem onI5 {x y z w v u : D} {l : List D} {k : D → Prop} : onI (x :: y :: z :: w :: v :: u :: l) 5 (⟨⟩ : Tk k) = k u := onI_nat (j := 5) rfl
/-- a cell at a drawn place -/
theorem onI_any {l : List D} {j : Nat} {k : D → Prop} {t : Tk k} (hj : j < l.length) (h : ∀ d ∈ l, k d) : onI l (j : Int) t := by
  rw [onI_nat (List.getElem?_eq_getElem hj)]
  exact h _ (List.getElem_mem hj)
end
theorem ev_rt {Q : QT} {E : ET} : (endsD Q E).rt = Q := (rfl)
theorem ev_nx {Q : QT} {E : ET} {ρ : R} {g : G} : (endsD Q E).nx ρ g = Q .non g := (rfl)
theorem bits_lt {i : Int} {n : Nat} (hn : 0 < n) (h : i.natAbs < 2 ^ n) : Builtin.Int.intBits i ≤ n := by
  unfold Builtin.Int.intBits
  split
  · omega
  · rename_i h0
    have h1 : i.natAbs ≠ 0 := by
      intro e
      apply h0
      simp only [beq_iff_eq]
      omega
    have := (Nat.log2_lt h1).mpr h
    omega
/-- numbers of a size -/
def Sz (a : Nat) : Prop := a < 2 ^ 9000
theorem mul_ok {a b : Nat} (ha : Sz a) (hb : Sz b) : IntMulOk (a : Int) (b : Int) :=
  IntMulOk.of_bits (Nat.le_trans (bits_lt (n := 9000) (by omega) ha) (by decide)) (Nat.le_trans (bits_lt (n := 9000) (by omega) hb) (by decide))
theorem mul_okR {a : Int} {b : Int} (hb : b.natAbs < 2 ^ 64) : IntMulOk a b := IntMulOk.of_right (bits_lt (by omega) hb)
theorem mul_okL {a : Int} {b : Int} (ha : a.natAbs < 2 ^ 64) : IntMulOk a b := IntMulOk.of_left (bits_lt (by omega) ha)
theorem log_lt {i : Int} {n : Nat} (hn : 0 < n) (h : i.natAbs < 2 ^ n) : i.natAbs.log2 < n := by
  by_cases h0 : i.natAbs = 0
  · rw [h0]; simpa using hn
  · exact (Nat.log2_lt h0).mpr h
theorem Sz.log {a : Nat} (h : Sz a) : (a : Int).natAbs.log2 < 9000 := log_lt (by omega) h
/-! ## Loops -/
section
variable {C : Cal} {DD : DE} {t : DTS} {tg : Tg} {ok : G → Prop} {te : DTE} {tt : DTT}
/-- a for loop by its invariant over what is left -/
theorem forL_ind (I : List D → R → G → Prop) (hstep : ∀ d ds ρ g (K : R → G → Prop), I (d :: ds) ρ g → (∀ ρ' g', I ds ρ' g' → K ρ' g') →
      asgT tg d ρ fun ρ1 => t C ρ1 g { nx := fun ρ2 g2 => ok g2 ∧ K ρ2 g2, rt := DD.rt, bk := DD.nx, ct := fun ρ2 g2 => ok g2 ∧ K ρ2 g2, ex := DD.ex })
    (hend : ∀ ρ g, I [] ρ g → DD.nx ρ g) : ∀ (its : List D) (ρ : R) (g : G), I its ρ g → dForL tg ok t its C ρ g DD
  | [], ρ, g, h => by
    unfold dForL
    exact hend ρ g h
  | d :: ds, ρ, g, h => by
    unfold dForL
    exact hstep d ds ρ g (fun ρ' g' => dForL tg ok t ds C ρ' g' DD) h fun ρ' g' h' => forL_ind I hstep hend ds ρ' g' h'
theorem cpL_ind {QLs : QL} (I : List D → List D → R → G → Prop) (hstep : ∀ d ds acc ρ g (K : List D → R → G → Prop), I (d :: ds) acc ρ g → (∀ acc' ρ' g', I ds acc' ρ' g' → K acc' ρ' g') →
      asgT tg d ρ fun ρ1 => tt C ρ1 g (fun b g1 => if b then te C ρ1 g1 (fun y g2 => acc.length < sizeLine ∧ ok g2 ∧ K (acc ++ [y]) ρ g2) noE else ok g1 ∧ K acc ρ g1) noE)
    (hend : ∀ acc ρ g, I [] acc ρ g → QLs acc g) : ∀ (its acc : List D) (ρ : R) (g : G), I its acc ρ g → dCpL tg ok tt te its acc C ρ g QLs
  | [], acc, ρ, g, h => by
    unfold dCpL
    exact hend acc ρ g h
  | d :: ds, acc, ρ, g, h => by
    unfold dCpL
    exact hstep d ds acc ρ g (fun acc' ρ' g' => dCpL tg ok tt te ds acc' C ρ' g' QLs) h fun acc' ρ' g' h' => cpL_ind I hstep hend ds acc' ρ' g' h'
end
/-! ## Which cells stay -/
/-- all but a stays -/
def Fr (a : Addr) (g g' : G) : Prop := ∀ b, b ≠ a → g' b = g b
theorem Fr.refl {a : Addr} {g : G} : Fr a g g := fun _ _ => rfl
theorem Fr.trans {a : Addr} {g g1 g2 : G} (h : Fr a g g1) (k : Fr a g1 g2) : Fr a g g2 := fun b hb => (k b hb).trans (h b hb)
theorem Fr.set {a : Addr} {g : G} {o : GO} : Fr a g (gset g a o) := fun b hb => by simp [gset, hb]
theorem Fr.at_ {a b : Addr} {g g' : G} {o : Option GO} (h : Fr a g g') (hb : b ≠ a) (e : g b = o) : g' b = o := (h b hb).trans e
theorem ne_none {a b : Addr} {g : G} {o : GO} (h : g a = some o) (k : g b = none) : b ≠ a := fun e => by rw [e, h] at k; cases k
theorem onL_eq {g : G} {a : Addr} {l : List D} {k : List D → Prop} (h : g a = some (.lst l)) : onL g a (⟨⟩ : Tk k) = k l := by
  unfold onL; rw [h]
theorem bits_le {i : Int} (h : i.natAbs < 2 ^ 64) : Builtin.Int.intBits i ≤ 64 := by
  unfold Builtin.Int.intBits
  split
  · omega
  · rename_i h0
    have h1 : i.natAbs ≠ 0 := by
      intro e
      apply h0
      simp only [beq_iff_eq]
      omega
    have := (Nat.log2_lt h1).mpr h
    omega
end Cn

namespace Cn
open PySem PySem.Spec PyProof.Rows L2
/-! ## HH. Shown trees: that there is a text, and how long -/
def rok (w : List Nat) (n : Nat) (d : D) : Prop := ∃ t, rpT w d = some t ∧ t.length ≤ n
def rokL (w : List Nat) (n : Nat) (l : List D) : Prop := ∃ ts, rpL w l = some ts ∧ (ts.map fun t => t.length + 2).sum ≤ n
theorem rok.mono {w : List Nat} {m n : Nat} {d : D} (h : rok w m d) (e : m ≤ n) : rok w n d := ⟨h.choose, h.choose_spec.1, Nat.le_trans h.choose_spec.2 e⟩
theorem rok_bl {w : List Nat} {b : Bool} : rok w 5 (.bl b) := by
  cases b with
  | true => exact ⟨"True", by simp [rpT], by decide⟩
  | false => exact ⟨"False", by simp [rpT], by decide⟩
theorem rok_non {w : List Nat} : rok w 4 .non := ⟨"None", by simp [rpT], by decide⟩
theorem rok_int {w : List Nat} {i : Int} (h : i.natAbs.log2 < 1920) : rok w 1921 (.int i) := ⟨Str.ofString (toString i), by simp [rpT, h], int_text_len_1921 h⟩
theorem rok_str {w : List Nat} {s : List Nat} (h : ∀ c ∈ s, c < 16 ^ 8) : rok w (10 * s.length + 2) (.str s) := by
  refine ⟨_, by simp only [rpT]; rfl, ?_⟩
  have e : (S s).length = s.length := by simp [S, Str.length]
  have := PySem.StrLaws.reprText_len (S s) (by rw [S_toList]; exact h)
  rw [e] at this
  exact this
theorem rokL_nil {w : List Nat} : rokL w 0 [] := ⟨[], by simp only [rpL], by simp⟩
theorem rokL_cons {w : List Nat} {m n : Nat} {d : D} {l : List D} (h : rok w m d) (k : rokL w n l) : rokL w (m + 2 + n) (d :: l) := by
  obtain ⟨t, h1, h2⟩ := h
  obtain ⟨ts, k1, k2⟩ := k
  refine ⟨t :: ts, by simp only [rpL, h1, k1], ?_⟩
  simp only [List.map_cons, List.sum_cons]
  omega
theorem rokL_all {w : List Nat} {m : Nat} : ∀ {l : List D}, (∀ d ∈ l, rok w m d) → rokL w ((m + 2) * l.length) l
  | [], _ => by simpa using rokL_nil
  | d :: l, h => by
    have := rokL_cons (h d List.mem_cons_self) (rokL_all fun x hx => h x (List.mem_cons_of_mem _ hx))
    rw [List.length_cons, Nat.mul_succ, Nat.add_comm]
    exact this
theorem rokL.mono {w : List Nat} {m n : Nat} {l : List D} (h : rokL w m l) (e : m ≤ n) : rokL w n l := ⟨h.choose, h.choose_spec.1, Nat.le_trans h.choose_spec.2 e⟩
theorem textFrom_le : ∀ (ts : List Str) (k : Nat) (acc : Str), (textFrom k acc ts).length ≤ acc.length + (ts.map fun t => t.length + 2).sum
  | [], k, acc => by simp [textFrom]
  | t :: r, k, acc => by
    have h := textFrom_le r (k + 1) (acc ++ (if k > 0 then ", " else "" : String) ++ t)
    have e : (acc ++ (if k > 0 then ", " else "" : String) ++ t).length = acc.length + (if k > 0 then 2 else 0) + t.length := by
      rw [strLen_append, strLen_append]
      split <;> rfl
    rw [e] at h
    have e2 : textFrom k acc (t :: r) = textFrom (k + 1) (acc ++ (if k > 0 then ", " else "" : String) ++ t) r := (rfl)
    rw [e2]
    simp only [List.map_cons, List.sum_cons]
    have : (if k > 0 then 2 else 0 : Nat) ≤ 2 := by split <;> omega
    omega
theorem listText_le {ts : List Str} : (listText ts).length ≤ (ts.map fun t => t.length + 2).sum + 2 := by
  unfold listText
  rw [strLen_append]
  have := textFrom_le ts 0 "["
  have e1 : (("[" : String) : Str).length = 1 := (rfl)
  have e2 : (("]" : String) : Str).length = 1 := (rfl)
  omega
theorem tupleText_le {ts : List Str} : (tupleText ts).length ≤ (ts.map fun t => t.length + 2).sum + 3 := by
  unfold tupleText
  rw [strLen_append, strLen_append]
  have e1 : ((("(" : String) : Str)).length = 1 := (rfl)
  have e3 : (((if ts.length == 1 then ",)" else ")" : String) : Str)).length ≤ 2 := by split <;> decide
  by_cases h : ts = []
  · subst h
    have e4 : (Str.join ", " []).length = 0 := (rfl)
    omega
  · have := join_length_add ts h
    have e5 : piled ts = (ts.map fun t => t.length + 2).sum := (rfl)
    omega
theorem rok_lst {w : List Nat} {n : Nat} {l : List D} (h : rokL w n l) : rok w (n + 2) (.lst l) := by
  obtain ⟨ts, h1, h2⟩ := h
  refine ⟨listText ts, by simp only [rpT, h1, Option.map_some], ?_⟩
  have := listText_le (ts := ts)
  omega
theorem rok_tup {w : List Nat} {n : Nat} {l : List D} (h : rokL w n l) : rok w (n + 3) (.tup l) := by
  obtain ⟨ts, h1, h2⟩ := h
  refine ⟨tupleText ts, by simp only [rpT, h1, Option.map_some], ?_⟩
  have := tupleText_le (ts := ts)
  omega
theorem rok_wt {w : List Nat} {a b : Int} (hw : memN 0 w = true) (ha : a.natAbs.log2 < 1920) (hb : b.natAbs.log2 < 1920) : rok w 4000 (.ins 0 [.int a, .int b]) := by
  have h1 := int_text_len_1921 ha
  have h2 := int_text_len_1921 hb
  refine ⟨_, by simp only [rpT, hw, rpL, ha, hb, if_true, rpI]; rfl, ?_⟩
  have e1 : (("Weight(" : String) : Str).length = 7 := (rfl)
  have e2 : ((")" : String) : Str).length = 1 := (rfl)
  have e3 : ((", " : String) : Str).length = 2 := (rfl)
  split <;> simp only [strLen_append, e1, e2, e3] <;> omega
theorem dat_all : ∀ {l : List D}, (∀ d ∈ l, dat d = true) → datL l = true
  | [], _ => rfl
  | d :: l, h => by simp [datL, h d List.mem_cons_self, dat_all fun x hx => h x (List.mem_cons_of_mem _ hx)]
theorem dep_all {n : Nat} : ∀ {l : List D}, (∀ d ∈ l, dep d ≤ n) → depL l ≤ n
  | [], _ => by simp [depL]
  | d :: l, h => by
    have h1 := h d List.mem_cons_self
    have h2 := dep_all fun x hx => h x (List.mem_cons_of_mem _ hx)
    simp [depL]
    omega
section
variable {g : G} {Q : QT} {w : List Nat}
/-- repr of a list that may change -/
theorem repr_adr {a : Addr} {l : List D} {n : Nat} (hg : g a = some (.lst l)) (h : rok w n (.lst l)) (hn : n ≤ sizeLine) (hd : datL l = true) (hp : depL l < 30) :
    ∃ t : List Nat, ∀ (g' : G) (Q : QT), g' a = some (.lst l) → oRepr none w [.adr a] g' Q = Q (.str t) g' := by
  obtain ⟨t, h1, h2⟩ := h
  refine ⟨t.cps.toList, fun g' Q hg' => ?_⟩
  have e : rpG none w g' (.adr a) = some t := by
    have hp' : Nat.ble (depL l + 1) 30 = true := Nat.ble_eq.mpr hp
    simp [rpG, hg', dep, hd, hp', gmOk, h1]
  have h3 : t.length ≤ sizeLine := Nat.le_trans h2 hn
  simp [oRepr, e, h3]
theorem repr_d {d : D} {n : Nat} (h : rok w n d) (hn : n ≤ sizeLine) (hd : dat d = true) (hp : dep d ≤ 30) :
    ∃ t : List Nat, ∀ (g' : G) (Q : QT), oRepr none w [d] g' Q = Q (.str t) g' := by
  obtain ⟨t, h1, h2⟩ := h
  refine ⟨t.cps.toList, fun g' Q => ?_⟩
  have e : rpG none w g' d = some t := by
    have hp' : Nat.ble (dep d) 30 = true := Nat.ble_eq.mpr hp
    cases d <;> simp_all [rpG, gmOk, dat]
  have h3 : t.length ≤ sizeLine := Nat.le_trans h2 hn
  simp [oRepr, e, h3]
def boolT (b : Bool) : List Nat := if b then [84, 114, 117, 101] else [70, 97, 108, 115, 101]
theorem ev_reprb {b : Bool} : oRepr none w [.bl b] g Q = Q (.str (boolT b)) g := by
  cases b with
  | true =>
    have e : rpG none w g (.bl true) = some "True" := by simp [rpG, gmOk, dat, dep, rpT]
    have h : ("True" : Str).length ≤ sizeLine := by decide +kernel
    have h2 : ("True" : Str).cps.toList = [84, 114, 117, 101] := by decide +kernel
    simp [oRepr, e, h, h2, boolT]
  | false =>
    have e : rpG none w g (.bl false) = some "False" := by simp [rpG, gmOk, dat, dep, rpT]
    have h : ("False" : Str).length ≤ sizeLine := by decide +kernel
    have h2 : ("False" : Str).cps.toList = [70, 97, 108, 115, 101] := by decide +kernel
    simp [oRepr, e, h, h2, boolT]
/-- a text by the kernel -/
theorem ev_reprk {d : D} {t : List Nat} (h : (match d with
  | .adr _ => none
  | d => if dat d && Nat.ble (dep d) 30 then (rpT w d).map fun t => t.cps.toList else none) = some t) (hl : t.length ≤ sizeLine) : oRepr none w [d] g Q = Q (.str t) g := by
  have hc : (dat d && Nat.ble (dep d) 30) = true ∧ ∃ u, rpT w d = some u ∧ u.cps.toList = t ∧ rpG none w g d = rpT w d := by
    cases d with
    | adr a => cases h
    | _ =>
      simp only at h
      split at h
      · rename_i hc
        obtain ⟨u, hu, e⟩ := Option.map_eq_some_iff.mp h
        exact ⟨hc, u, hu, e, by simp only [rpG, gmOk, Bool.and_true]; rw [if_pos hc]⟩
      · cases h
  obtain ⟨h1, u, hu, rfl, e⟩ := hc
  have h3 : u.length ≤ sizeLine := by simpa [Str.length] using hl
  simp only [oRepr, e, hu, h3, true_and]
theorem sz_le {k : Nat} (h : k ≤ 1000000) : k ≤ sizeLine := Nat.le_trans h (by decide +kernel)
theorem sz_lt {k : Nat} (h : k < 1000000) : k < sizeLine := Nat.lt_of_lt_of_le h (by decide +kernel)
-- comprehensions
variable {C : Cal} {ρ : R} {QLs : QL} {te : DTE} {tt : DTT} {tg : Tg} {ok : G → Prop}
theorem ev_cp0 {acc : List D} : cp [] acc ρ g (⟨⟩ : Tk tg) (⟨⟩ : Tk ok) (⟨⟩ : Tk tt) (⟨⟩ : Tk te) (⟨⟩ : Tk C) (⟨⟩ : Tk QLs) = QLs acc g := by simp only [cp, dCpL]
theorem ev_cp1 {d : D} {ds acc : List D} : cp (d :: ds) acc ρ g (⟨⟩ : Tk tg) (⟨⟩ : Tk ok) (⟨⟩ : Tk tt) (⟨⟩ : Tk te) (⟨⟩ : Tk C) (⟨⟩ : Tk QLs) = asgT tg d ρ fun ρ1 => tt C ρ1 g (fun b g1 => br b (⟨⟩ : Tk (te C ρ1 g1 (fun y g2 => acc.length < sizeLine ∧ ok g2 ∧ dCpL tg ok tt te ds (acc ++ [y]) C ρ g2 QLs) noE)) (⟨⟩ : Tk (ok g1 ∧ dCpL tg ok tt te ds acc C ρ g1 QLs))) noE := by
  unfold cp
  rw [dCpL]
  show (asgT tg d ρ fun ρ1 => _) = _
  congr 1
  funext ρ1
  congr 1
  funext b g1
  cases b <;> simp [br]
theorem ev_wipe0 : wipeR ρ [] = ρ := (rfl)
theorem ev_wipe1 {v : Nat} {vs : List Nat} : wipeR ρ (v :: vs) = (wipeR ρ vs).set v none := (rfl)
theorem ev_yesg : yes g = True := (rfl)
end
end Cn
namespace Cn
open PySem PySem.Spec PyProof.Rows L2
section
variable {C : Cal} {ρ : R} {g : G} {Q : QT} {E : ET} {te ta : DTE} {Qo : Option Int → G → Prop}
theorem ev_sl {m : Bool} {tl th : Option DTE} : dSl m te tl th C ρ g Q E = te C ρ g (fun x g1 => dPart tl C ρ g1 (fun lo g2 => dPart th C ρ g2 (fun hi g3 => oSl m x lo hi g3 Q) E) E) E := (rfl)
theorem ev_ptn : dPart none C ρ g Qo E = Qo none g := (rfl)
theorem ev_pts : dPart (some te) C ρ g Qo E = te C ρ g (fun d g1 => match d with
  | .int i => Qo (some i) g1
  | _ => False) E := (rfl)
theorem ev_sll {l : List D} {lo hi : Option Int} : oSl false (.lst l) lo hi g Q = Q (.lst (cutD l lo hi)) g := by simp [oSl, lstOf]
theorem ev_slt {m : Bool} {l : List D} {lo hi : Option Int} : oSl m (.tup l) lo hi g Q = Q (.tup (cutD l lo hi)) g := by simp [oSl]
theorem ev_sls {m : Bool} {l : List Nat} {lo hi : Option Int} : oSl m (.str l) lo hi g Q = (l.length ≤ sizeLine ∧ Q (.str (cutN l lo hi)) g) := by simp [oSl]
theorem ev_sla {a : Addr} {lo hi : Option Int} : oSl false (.adr a) lo hi g Q = onL g a (⟨⟩ : Tk fun l => Q (.lst (cutD l lo hi)) g) := by
  unfold onL
  cases h : g a with
  | none => simp [oSl, lstOf, h]
  | some o => cases o <;> simp [oSl, lstOf, h]
theorem ev_slm {a : Addr} {lo hi : Option Int} : oSl true (.adr a) lo hi g Q = onL g a (⟨⟩ : Tk fun l => ∀ a, g a = none → Q (.adr a) (gset g a (.lst (cutD l lo hi)))) := by
  unfold onL
  cases h : g a with
  | none => simp [oSl, lstOf, h]
  | some o => cases o <;> simp [oSl, lstOf, h]
/-- a cut of any row -/
def cutA {α : Type} (l : List α) (lo hi : Option Int) : List α := (l.drop (HT.sIx l.length 0 lo)).take (HT.sIx l.length l.length hi - HT.sIx l.length 0 lo)
theorem cutD_map {α : Type} {f : α → D} {l : List α} {lo hi : Option Int} : cutD (l.map f) lo hi = (cutA l lo hi).map f := by
  unfold cutD cutA
  rw [List.map_take, List.map_drop, List.length_map]
theorem cutA_len {α : Type} {l : List α} {lo hi : Option Int} : (cutA l lo hi).length ≤ l.length := by
  unfold cutA
  rw [List.length_take, List.length_drop]
  omega
end
end Cn

namespace Cn
open PySem PySem.Spec PyProof.Rows L2
/-! ## II. Weights, Notes, Casks -/
section
variable {g : G} {Q : QT} {t b : Int}
abbrev wt (t b : Int) : D := .ins 0 [.int t, .int b]
abbrev nt (n w : List Nat) (k b : Int) : D := .ins 1 [.str n, .str w, .int k, .int b]
abbrev ck (m : List Nat) (s : Int) (p : List D) : D := .ins 2 [.str m, .int s, .tup p]
theorem ev_top : oAttr 111 (wt t b) g Q = Q (.int t) g := by simp [oAttr, flds, List.lookup]
theorem ev_bot : oAttr 8 (wt t b) g Q = Q (.int b) g := by simp [oAttr, flds, List.lookup]
theorem ev_isi {c : Nat} {l : List D} {k : Nat} : oIsi [.ins c l, .cls k] g Q = Q (.bl (c == k)) g := (rfl)
theorem ev_isii {i : Int} : oIsi [.int i, .ty 0] g Q = Q (.bl true) g := (rfl)
theorem ev_isib {i : Int} : oIsi [.int i, .ty 1] g Q = Q (.bl false) g := (rfl)
theorem ev_isss {i : List Nat} : oIsi [.str i, .ty 2] g Q = Q (.bl true) g := (rfl)
theorem ev_istt {i : List D} : oIsi [.tup i, .ty 3] g Q = Q (.bl true) g := (rfl)
/-- in lowest terms -/
def nw (a b : Nat) : D := wt ((a / Nat.gcd a b : Nat)) ((b / Nat.gcd a b : Nat))
end
end Cn

namespace Cn
open PySem PySem.Spec PyProof.Rows L2 PySem.W
/-! ## KK. Texts, rows sorted, comprehensions that only map -/
section
variable {C : Cal} {ρ : R} {g : G} {Q : QT} {E : ET} {te : DTE} {tg : Tg} {ok : G → Prop} {QLs : QL} {mt : MT}
def onC (s : List Nat) (i : Int) {k : Nat → Prop} (_ : Tk k) : Prop := match atI s i with
  | some c => k c
  | none => False
theorem onC_nat {s : List Nat} {j c : Nat} {k : Nat → Prop} (h : s[j]? = some c) : onC s (j : Int) (⟨⟩ : Tk k) = k c := by
  have hl : j < s.length := (List.getElem?_eq_some_iff.mp h).1
  have e : s[j] = c := by have := List.getElem?_eq_getElem hl; rw [h] at this; exact (Option.some.inj this).symm
  unfold onC atI ixN
  simp [hl, e]
theorem ev_ixs {s : List Nat} {i : Int} : oIx (.str s) (.int i) g Q = (s.length ≤ sizeLine ∧ onC s i (⟨⟩ : Tk fun c => Q (.str [c]) g)) := by
  unfold onC
  simp only [oIx]
  try rfl
theorem ev_ins {c : Nat} {s : List Nat} : oIn false (.str [c]) (.str s) g Q = Q (.bl (s.contains c)) g := by simp [oIn]
theorem ev_mjoin {a : List Nat} {ts : List DTE} : methK mt 43 (.str a) ts C ρ g Q E = dArgs ts C ρ g (fun ds g2 => mJoin (.str a) ds g2 Q) E := by
  simp [methK, clsM, bmt, isS]
theorem ev_sortK {m : Bool} {f : Nat} : dSortK m f te C ρ g Q E = te C ρ g (fun d g1 => sortK m f C d g1 Q) E := (rfl)
theorem ev_sorted {l : List D} : oSorted false [.lst l] g Q = (SrtOk l ∧ Q (.lst (sortD l)) g) := by simp [oSorted, lstOf]
/-- chars joined -/
theorem strs_chars : ∀ cs : List Nat, strsD (cs.map fun c => .str [c]) = some (cs.map fun c => [c])
  | [] => rfl
  | c :: cs => by simp [strsD, strs_chars cs]
theorem join_chars0 : ∀ cs : List Nat, joinN [] (cs.map fun c => [c]) = cs
  | [] => rfl
  | [c] => rfl
  | c :: d :: cs => by
    have := join_chars0 (d :: cs)
    show [c] ++ [] ++ joinN [] ((d :: cs).map fun c => [c]) = _
    rw [this]
    rfl
theorem join_chars {cs : List Nat} (h : cs.length ≤ 1000) (q : Q (.str cs) g) : mJoin (.str []) [.lst (cs.map fun c => .str [c])] g Q := by
  have e : (cs.map fun c => [c]).map List.length = cs.map fun _ => 1 := by rw [List.map_map]; rfl
  simp only [mJoin, lstOf, strs_chars, join_chars0, e]
  refine ⟨?_, q⟩
  have h1 : ∀ ds : List Nat, (ds.map fun _ => 1).sum = ds.length := fun ds => by
    induction ds with
    | nil => rfl
    | cons d ds ih => rw [List.map_cons, List.sum_cons, ih, List.length_cons]; omega
  rw [h1]
  simp only [List.length_map, List.length_nil, Nat.mul_zero]
  omega
/-- a comprehension that only maps -/
theorem cpL_map {α : Type} {enc out : α → D} : ∀ (xs : List α) (acc : List D), acc.length + xs.length ≤ 1000000 → ok g → (∀ x ∈ xs, ∀ Kc : QT, Kc (out x) g → asgT tg (enc x) ρ fun ρ1 => te C ρ1 g Kc noE) → QLs (acc ++ xs.map out) g → dCpL tg ok dYes te (xs.map enc) acc C ρ g QLs
  | [], acc, _, _, _, q => by
    simp only [List.map_nil, List.append_nil] at q ⊢
    unfold dCpL
    exact q
  | x :: xs, acc, hl, hk, hs, q => by
    simp only [List.map_cons, List.length_cons] at *
    unfold dCpL
    have h := hs x List.mem_cons_self (fun y g2 => acc.length < sizeLine ∧ ok g2 ∧ dCpL tg ok dYes te (xs.map enc) (acc ++ [y]) C ρ g2 QLs) ⟨sz_lt (by omega), hk, cpL_map xs (acc ++ [out x]) (by simp; omega) hk (fun y hy => hs y (List.mem_cons_of_mem _ hy)) (by simpa using q)⟩
    exact h
theorem bools_true {α : Type} : ∀ xs : List α, boolsD (xs.map fun _ => .bl true) = some (xs.map fun _ => true)
  | [] => rfl
  | x :: xs => by simp [boolsD, bools_true xs]
theorem all_true {α : Type} {xs : List α} (q : Q (.bl true) g) : oAll [.lst (xs.map fun _ => .bl true)] g Q := by
  simp only [oAll, lstOf, bools_true]
  have : ((xs.map fun _ => true).all id) = true := by simp
  rw [this]
  exact q
end
/-! sorted rows -/
theorem ms_congr {α : Type} {r s : α → α → Bool} {l : List α} (h : ∀ a ∈ l, ∀ b ∈ l, r a b = s a b) : l.mergeSort r = l.mergeSort s := by
  have := List.map_mergeSort (f := id) (r := r) (s := s) (l := l) (by simpa using h)
  simpa using this
theorem dataLt_is (x x' : Int) (y y' : Str) : dataLt (.tuple [.int x, .str y]) (.tuple [.int x', .str y']) = if x = x' then (if y = y' then false else decide (y.cps.toList < y'.cps.toList)) else decide (x < x') := by
  rw [dataLt_pair (by simp [alike]) (by simp [alike]), dataLt_int, dataLt_str]
  simp only [PyData.eqv, beq_iff_eq]
theorem dataLt_isi (x x' : Int) (y y' : Str) (z z' : Int) : dataLt (.tuple [.int x, .str y, .int z]) (.tuple [.int x', .str y', .int z']) = if x = x' then (if y = y' then (if z = z' then false else decide (z < z')) else decide (y.cps.toList < y'.cps.toList)) else decide (x < x') := by
  rw [dataLt_tuple, dataLt_cons (by simp [alike]), dataLt_cons (by simp [alike]), dataLt_cons (by simp [alike]), dataLt_int, dataLt_str, dataLt_int]
  have e : PyProof.Rows.lexLt itemOrd (keyToksAll []) (keyToksAll []) = false := by
    first
      | exact lex_irrefl _
      | rfl
      | decide
  rw [e]
  simp only [PyData.eqv, beq_iff_eq]
end Cn
namespace Cn
open PySem PySem.Spec PyProof.Rows L2 PySem.W
section
variable {g : G} {Q : QT} {n w : List Nat} {k b : Int}
theorem ev_ntn : oAttr 64 (nt n w k b) g Q = Q (.str n) g := by simp [oAttr, flds, List.lookup]
theorem ev_ntw : oAttr 116 (nt n w k b) g Q = Q (.str w) g := by simp [oAttr, flds, List.lookup]
theorem ev_ntg : oAttr 37 (nt n w k b) g Q = Q (.int k) g := by simp [oAttr, flds, List.lookup]
theorem ev_ntb : oAttr 7 (nt n w k b) g Q = Q (.int b) g := by simp [oAttr, flds, List.lookup]
end
theorem sortDK_map {α : Type} (f h : α → D) (l : List α) : sortDK (l.map h) (l.map f) = (l.mergeSort (dataLe false fun r => toP (h r))).map f := by
  unfold sortDK
  rw [List.zip_map', ← List.map_mergeSort (r := dataLe false fun r => toP (h r)) (f := fun a => (f a, h a)) (fun _ _ _ _ => rfl), List.map_map]
  rfl
theorem sortD_map {α : Type} (f : α → D) (l : List α) : sortD (l.map f) = (l.mergeSort (dataLe false fun r => toP (f r))).map f := by
  unfold sortD
  rw [← List.map_mergeSort (r := dataLe false fun r => toP (f r)) (f := f) (fun _ _ _ _ => rfl)]
/-- what stood stands -/
def Kn (g g' : G) : Prop := ∀ b o, g b = some o → g' b = some o
theorem Kn.refl {g : G} : Kn g g := fun _ _ h => h
theorem Kn.trans {g g1 g2 : G} (h : Kn g g1) (k : Kn g1 g2) : Kn g g2 := fun b o e => k b o (h b o e)
theorem Kn.new {g : G} {a : Addr} {o : GO} (h : g a = none) : Kn g (gset g a o) := fun b p e => by
  rw [gset_ne (fun z => by rw [z, h] at e; cases e)]; exact e
/-- a new thing changed -/
theorem Kn.put {g g1 : G} {a : Addr} {o : GO} (k : Kn g g1) (h : g a = none) : Kn g (gset g1 a o) := fun b p e => by
  rw [gset_ne (fun z => by rw [z, h] at e; cases e)]; exact k b p e
end Cn
namespace Cn
open PySem PySem.Spec PyProof.Rows L2 PySem.W
theorem rok_nt {w : List Nat} {n v : List Nat} {k b : Int} (hw : memN 1 w = true) (hn : ∀ c ∈ n, c < 16 ^ 8) (hv : ∀ c ∈ v, c < 16 ^ 8) (hk : k.natAbs.log2 < 1920) (hb : b.natAbs.log2 < 1920) (h1 : n.length ≤ 100) (h2 : v.length ≤ 100) : rok w 7000 (nt n v k b) := by
  obtain ⟨t1, e1, l1⟩ := rok_str (w := w) hn
  obtain ⟨t2, e2, l2⟩ := rok_str (w := w) hv
  obtain ⟨t3, e3, l3⟩ := rok_int (w := w) hk
  obtain ⟨t4, e4, l4⟩ := rok_int (w := w) hb
  refine ⟨_, by simp only [rpT, hw, rpL] at e1 e2 e3 e4 ⊢; simp only [e1, e2, e3, e4, rpI]; rfl, ?_⟩
  have a1 : (("Note(" : String) : Str).length = 5 := rfl
  have a2 : ((")" : String) : Str).length = 1 := rfl
  have a3 : ((", " : String) : Str).length = 2 := rfl
  simp only [strLen_append, a1, a2, a3]
  omega
theorem cutD_to {α : Type} {f : α → D} {l : List α} {k : Nat} : cutD (l.map f) none (some (k : Int)) = (l.take k).map f := by
  rw [cutD_map]
  congr 1
  have e : HT.sIx l.length 0 none = 0 := rfl
  simp only [cutA, e, List.drop_zero, Nat.sub_zero, HT.sIx_nat]
  rw [List.take_eq_take_iff]
  omega
theorem ints_nat {α : Type} {f : α → Nat} : ∀ l : List α, intsD (l.map fun r => .int (f r : Nat)) = some (l.map fun r => (f r : Int))
  | [] => rfl
  | r :: l => by simp [intsD, ints_nat l]
theorem sum_cast {α : Type} {f : α → Nat} : ∀ l : List α, (l.map fun r => (f r : Int)).sum = (((l.map f).sum : Nat) : Int)
  | [] => rfl
  | r :: l => by simp [sum_cast l]
theorem sum_nat {α : Type} {f : α → Nat} {l : List α} {g : G} {Q : QT} : oSum [.lst (l.map fun r => .int (f r : Nat))] g Q = Q (.int ((l.map f).sum : Nat)) g := by
  simp only [oSum, lstOf, ints_nat, sum_cast]
end Cn
namespace Cn
open PySem PySem.Spec PyProof.Rows L2 PySem.W
theorem cutD_ft {α : Type} {f : α → D} {l : List α} {i k : Nat} : cutD (l.map f) (some (i : Int)) (some (k : Int)) = ((l.drop i).take (k - i)).map f := by
  rw [cutD_map]
  congr 1
  simp only [cutA, HT.sIx_nat]
  by_cases h : i ≤ l.length
  · rw [Nat.min_eq_left h, List.take_eq_take_iff, List.length_drop]
    omega
  · rw [List.drop_eq_nil_of_le (by omega), List.drop_eq_nil_of_le (by omega), List.take_nil, List.take_nil]
section
variable {g g' : G} {Q : QT} {a : Addr} {d : D} {l : List D}
theorem ev_listt {l : List D} : oList true [.tup l] g Q = ∀ a, g a = none → Q (.adr a) (gset g a (.lst l)) := by simp [oList, seqOf]
theorem ev_lista {b : Addr} : oList true [.adr b] g Q = onL g b (⟨⟩ : Tk fun l => ∀ a, g a = none → Q (.adr a) (gset g a (.lst l))) := by
  unfold onL
  cases h : g b with
  | none => simp [oList, seqOf, lstOf, h]
  | some o => cases o <;> simp [oList, seqOf, lstOf, h]
/-- a list, written or not, beside the deck at a -/
def LkA (a : Addr) (g : G) (d : D) (l : List D) : Prop := d = .lst l ∨ ∃ s, d = .adr s ∧ s ≠ a ∧ g s = some (.lst l)
theorem LkA.fr (h : LkA a g d l) (f : Fr a g g') : LkA a g' d l := by
  rcases h with h | ⟨s, h1, h2, h3⟩
  · exact .inl h
  · exact .inr ⟨s, h1, h2, f.at_ h2 h3⟩
theorem LkA.sl (h : LkA a g d l) {lo hi : Option Int} : oSl false d lo hi g Q = Q (.lst (cutD l lo hi)) g := by
  rcases h with h | ⟨s, h1, h2, h3⟩
  · subst h; exact ev_sll
  · subst h1; rw [ev_sla, onL_eq h3]
theorem LkA.ix (h : LkA a g d l) {i : Int} : oIx d (.int i) g Q = onI l i (⟨⟩ : Tk fun d => Q d g) := by
  rcases h with h | ⟨s, h1, h2, h3⟩
  · subst h; exact ev_ixl
  · subst h1; rw [ev_ixa, onL_eq h3]
end
end Cn

namespace Cn
open PySem PySem.Spec PyProof.Rows L2 PySem.W
/-! ## KL. Own ==, rows many times, less than nought, rows walked together -/
section
variable {C : Cal} {ρ : R} {g : G} {Q : QT} {E : ET} {te ta : DTE} {et : EqT} {neg : Bool}
theorem ev_eqo : dEqO et neg ta te C ρ g Q E = ta C ρ g (fun x g1 => te C ρ g1 (fun y g2 => eqQ et neg C x y g2 Q) E) E := (rfl)
theorem ev_eqkn {y : D} : eqK et neg C .non y g Q = oEq neg .non y g Q := (rfl)
theorem ev_eqkb {b : Bool} {y : D} : eqK et neg C (.bl b) y g Q = oEq neg (.bl b) y g Q := (rfl)
theorem ev_eqki {i : Int} {y : D} : eqK et neg C (.int i) y g Q = oEq neg (.int i) y g Q := (rfl)
theorem ev_eqks {s : List Nat} {y : D} : eqK et neg C (.str s) y g Q = oEq neg (.str s) y g Q := (rfl)
theorem ev_eqkt {l : List D} {y : D} : eqK et neg C (.tup l) y g Q = oEq neg (.tup l) y g Q := (rfl)
theorem ev_eqkl {l : List D} {y : D} : eqK et neg C (.lst l) y g Q = oEq neg (.lst l) y g Q := (rfl)
theorem ev_eqqnn : eqQ et neg C .non .non g Q = oEq neg .non .non g Q := (rfl)
theorem ev_eqqnb {q : Bool} : eqQ et neg C .non (.bl q) g Q = oEq neg .non (.bl q) g Q := (rfl)
theorem ev_eqqni {q : Int} : eqQ et neg C .non (.int q) g Q = oEq neg .non (.int q) g Q := (rfl)
theorem ev_eqqns {q : List Nat} : eqQ et neg C .non (.str q) g Q = oEq neg .non (.str q) g Q := (rfl)
theorem ev_eqqbn {p : Bool} : eqQ et neg C (.bl p) .non g Q = oEq neg (.bl p) .non g Q := (rfl)
theorem ev_eqqbb {p : Bool} {q : Bool} : eqQ et neg C (.bl p) (.bl q) g Q = oEq neg (.bl p) (.bl q) g Q := (rfl)
theorem ev_eqqbi {p : Bool} {q : Int} : eqQ et neg C (.bl p) (.int q) g Q = oEq neg (.bl p) (.int q) g Q := (rfl)
theorem ev_eqqbs {p : Bool} {q : List Nat} : eqQ et neg C (.bl p) (.str q) g Q = oEq neg (.bl p) (.str q) g Q := (rfl)
theorem ev_eqqin {p : Int} : eqQ et neg C (.int p) .non g Q = oEq neg (.int p) .non g Q := (rfl)
theorem ev_eqqib {p : Int} {q : Bool} : eqQ et neg C (.int p) (.bl q) g Q = oEq neg (.int p) (.bl q) g Q := (rfl)
theorem ev_eqqii {p : Int} {q : Int} : eqQ et neg C (.int p) (.int q) g Q = oEq neg (.int p) (.int q) g Q := (rfl)
theorem ev_eqqis {p : Int} {q : List Nat} : eqQ et neg C (.int p) (.str q) g Q = oEq neg (.int p) (.str q) g Q := (rfl)
theorem ev_eqqsn {p : List Nat} : eqQ et neg C (.str p) .non g Q = oEq neg (.str p) .non g Q := (rfl)
theorem ev_eqqsb {p : List Nat} {q : Bool} : eqQ et neg C (.str p) (.bl q) g Q = oEq neg (.str p) (.bl q) g Q := (rfl)
theorem ev_eqqsi {p : List Nat} {q : Int} : eqQ et neg C (.str p) (.int q) g Q = oEq neg (.str p) (.int q) g Q := (rfl)
theorem ev_eqqss {p : List Nat} {q : List Nat} : eqQ et neg C (.str p) (.str q) g Q = oEq neg (.str p) (.str q) g Q := (rfl)
theorem eqq_k {x y : D} (h : (scal x && scal y) = false) (q : eqK et neg C x y g Q) : eqQ et neg C x y g Q := by
  unfold eqQ
  rw [h]
  exact .inl q
theorem eqq_d {x y : D} (h : (scal x && scal y) = false) (k : (eqk true 24 x && eqk true 24 y) = true) (d : dem et C x y) (q : Q (.bl (if neg then !eqD x y else eqD x y)) g) : eqQ et neg C x y g Q := by
  unfold eqQ
  rw [h]
  exact .inr (.inl ⟨k, d, q⟩)
theorem eqq_l {x y : D} {l m : List D} (h : (scal x && scal y) = false) (h1 : lstOf g x = some l) (h2 : lstOf g y = some m) (k : (eqkL true 24 l && eqkL true 24 m) = true) (d : demL et C l m) (q : Q (.bl (if neg then !eqL l m else eqL l m)) g) : eqQ et neg C x y g Q := by
  unfold eqQ
  rw [h]
  exact .inr (.inr ⟨l, m, h1, h2, k, d, q⟩)
theorem ev_ino : dInO et neg ta te C ρ g Q E = ta C ρ g (fun x g1 => te C ρ g1 (fun y g2 => inQ et neg C x y g2 Q) E) E := (rfl)
theorem ev_inqs {x : D} {s : List Nat} : inQ et neg C x (.str s) g Q = oIn neg x (.str s) g Q := (rfl)
theorem ev_cnto : dCntO et ta te C ρ g Q E = ta C ρ g (fun d g1 => isLs d g1 = true ∧ dArgs [te] C ρ g1 (fun ds g2 => cntP et C d ds g2 Q) E) E := (rfl)
theorem ev_isls {l : List D} : isLs (.lst l) g = true := (rfl)
theorem cnt_d {d x : D} {l : List D} (h : lstOf g d = some l) (k : (eqk true 24 x && eqkL true 24 l) = true) (dm : ∀ y ∈ l, dem et C y x) (q : Q (.int (l.countP fun y => eqD y x : Nat)) g) : cntP et C d [x] g Q := ⟨l, h, k, dm, q⟩
theorem inq_k {x y : D} (q : oIn neg x y g Q) : inQ et neg C x y g Q := by
  unfold inQ
  split
  · exact q
  · exact .inl q
theorem inq_d {x y : D} {l : List D} (h : seqOf g y = some l) (k : (eqk true 24 x && eqkL true 24 l) = true) (d : ∀ z ∈ l, dem et C z x) (q : Q (.bl (if neg then !(l.any fun d => eqD d x) else l.any fun d => eqD d x)) g) : inQ et neg C x y g Q := by
  unfold inQ
  split
  · simp [seqOf, lstOf] at h
  · exact .inr ⟨l, h, k, d, q⟩
theorem eqk_ok {c f : Nat} {l l' : List D} (b : Bool) (h : et c = some f) (h1 : C f [.ins c l, .ins c l'] [] (fun _ => none) (fun r _ => r = .bl b) noE) (q : Q (.bl (if neg then !b else b)) g) : eqK et neg C (.ins c l) (.ins c l') g Q := by
  unfold eqK
  dsimp only
  refine ⟨rfl, ?_⟩
  rw [h]
  exact ⟨b, h1, q⟩
theorem ev_neg {i : Int} : oNeg (.int i) g Q = Q (.int (-i)) g := (rfl)
theorem ev_muls {s : List Nat} {j : Int} : oMul (.str s) (.int j) g Q = ((0 ≤ j ∧ j ≤ 1000000 ∧ s.length * j.toNat ≤ 1000000) ∧ Q (.str (List.replicate j.toNat s).flatten) g) := (rfl)
theorem ev_mull {l : List D} {j : Int} : oMul (.lst l) (.int j) g Q = ((0 ≤ j ∧ j ≤ 1000000 ∧ l.length * j.toNat ≤ 1000000) ∧ Q (.lst (List.replicate j.toNat l).flatten) g) := (rfl)
theorem ev_zip {Qs : List D → (G → Prop) → G → Prop} : sZip ta te C ρ g Qs E = ta C ρ g (fun d g1 => te C ρ g1 (fun e g2 => match d, e with
  | .tup l, .tup m => Qs (zipD l m) yes g2
  | d, e => match lstOf g2 d, lstOf g2 e with
    | some l, some m => Qs (zipD l m) (fun g => lstOf g d = some l ∧ lstOf g e = some m) g2
    | _, _ => False) E) E := (rfl)
theorem ev_enum {Qs : List D → (G → Prop) → G → Prop} : sEnum ta C ρ g Qs E = ta C ρ g (fun d g1 => match lstOf g1 d with
    | some l => Qs (numD 0 l) (fun g => lstOf g d = some l) g1
    | _ => False) E := (rfl)
end
end Cn

namespace Cn
open PySem PySem.Spec PyProof.Rows L2 PySem.W
/-! ## KM. Keywords, lists written or not, texts cut ahead -/
section
variable {C : Cal} {ρ : R} {g g' : G} {Q : QT} {E : ET} {te : DTE} {mt : MT}
theorem ev_makek {c f k : Nat} {ks : List Nat} {ts tks : List DTE} : dMake c f true ts (k :: ks) tks C ρ g Q E = dArgs ts C ρ g (fun ds g1 => dArgs tks C ρ g1 (fun es g2 => ∀ a, g2 a = none → C f (.adr a :: ds) ((k :: ks).zip es) (gset g2 a (.ins c [])) (frzIns c Q a) E) E) E := (rfl)
/-- a method's call with keywords, of a frozen instance -/
def methX (o : Option Nat) (c : Nat) (l : List D) {ts : List DTE} (_ : Tk ts) (ks : List Nat) {tks : List DTE} (_ : Tk tks) {C : Cal} (_ : Tk C) {ρ : R} (_ : Tk ρ) {g : G} (_ : Tk g) {Q : QT} (_ : Tk Q) {E : ET} (_ : Tk E) : Prop := match o with
  | some f => dArgs ts C ρ g (fun ds g2 => dArgs tks C ρ g2 (fun es g3 => C f (.ins c l :: ds) (ks.zip es) g3 Q E) E) E
  | none => False
def methY (mt : MT) (m : Nat) (d : D) (ts : List DTE) (ks : List Nat) (tks : List DTE) (C : Cal) (ρ : R) (g : G) (Q : QT) (E : ET) : Prop := match clsM g d m with
  | some c => match mt c m with
    | some f => dArgs ts C ρ g (fun ds g2 => dArgs tks C ρ g2 (fun es g3 => C f (d :: ds) (ks.zip es) g3 Q E) E) E
    | none => False
  | none => match bmt m d g with
    | some o => ks = [] ∧ dArgs ts C ρ g (fun ds g2 => o d ds g2 Q) E
    | none => False
theorem ev_methk {m k : Nat} {ks : List Nat} {ts tks : List DTE} : dMeth mt m te ts (k :: ks) tks C ρ g Q E = te C ρ g (fun d g1 => methY mt m d ts (k :: ks) tks C ρ g1 Q E) E := (rfl)
theorem ev_minsk {m c k : Nat} {ks : List Nat} {l : List D} {ts tks : List DTE} : methY mt m (.ins c l) ts (k :: ks) tks C ρ g Q E = methX (mtI mt c m) c l (⟨⟩ : Tk ts) (k :: ks) (⟨⟩ : Tk tks) (⟨⟩ : Tk C) (⟨⟩ : Tk ρ) (⟨⟩ : Tk g) (⟨⟩ : Tk Q) (⟨⟩ : Tk E) := by
  unfold methY methX mtI
  by_cases h : (flds c).contains m = true
  · have e : clsM g (.ins c l) m = none := by simp only [clsM]; rw [if_pos h]
    rw [if_pos h, e, bmt_ins]
  · have e : clsM g (.ins c l) m = some c := by simp only [clsM]; rw [if_neg h]
    rw [if_neg h, e]
theorem ev_mik {c f : Nat} {l : List D} {ks : List Nat} {ts tks : List DTE} : methX (some f) c l (⟨⟩ : Tk ts) ks (⟨⟩ : Tk tks) (⟨⟩ : Tk C) (⟨⟩ : Tk ρ) (⟨⟩ : Tk g) (⟨⟩ : Tk Q) (⟨⟩ : Tk E) = dArgs ts C ρ g (fun ds g2 => dArgs tks C ρ g2 (fun es g3 => C f (.ins c l :: ds) (ks.zip es) g3 Q E) E) E := (rfl)
theorem ev_mlstrip {a : List Nat} {ts : List DTE} : methK mt 57 (.str a) ts C ρ g Q E = dArgs ts C ρ g (fun ds g2 => mLstrip (.str a) ds g2 Q) E := by
  simp [methK, clsM, bmt, isS]
theorem ev_lstrip {a b : List Nat} : mLstrip (.str a) [.str b] g Q = (a.length ≤ sizeLine ∧ Q (.str (a.dropWhile b.contains)) g) := (rfl)
theorem tr_strL {s : List Nat} (h : s.length ≤ sizeLine) : truthD g (.str s) = some (!s.isEmpty) := by simp only [truthD]; rw [if_pos h]
theorem ev_ckm {m : List Nat} {s : Int} {p : List D} : oAttr 60 (ck m s p) g Q = Q (.str m) g := by simp [oAttr, flds, List.lookup]
theorem ev_cks {m : List Nat} {s : Int} {p : List D} : oAttr 97 (ck m s p) g Q = Q (.int s) g := by simp [oAttr, flds, List.lookup]
theorem ev_ckp {m : List Nat} {s : Int} {p : List D} : oAttr 77 (ck m s p) g Q = Q (.tup p) g := by simp [oAttr, flds, List.lookup]
theorem onC0 {c : Nat} {s : List Nat} {k : Nat → Prop} : onC (c :: s) 0 (⟨⟩ : Tk k) = k c := onC_nat (j := 0) rfl
variable {a : Addr} {d : D} {l : List D}
theorem LkA.len (h : LkA a g d l) : oLen [d] g Q = Q (.int l.length) g := by
  rcases h with h | ⟨s, h1, h2, h3⟩
  · subst h; exact ev_lenl
  · subst h1; rw [ev_lena, onL_eq h3]
theorem LkA.list (h : LkA a g d l) : oList true [d] g Q = ∀ a, g a = none → Q (.adr a) (gset g a (.lst l)) := by
  rcases h with h | ⟨s, h1, h2, h3⟩
  · subst h; simp [oList, seqOf, lstOf]
  · subst h1; rw [ev_lista, onL_eq h3]
theorem LkA.kd (h : LkA a g d l) (k : ∀ b o, b ≠ a → g b = some o → g' b = some o) : LkA a g' d l := by
  rcases h with h | ⟨s, h1, h2, h3⟩
  · exact .inl h
  · exact .inr ⟨s, h1, h2, k _ _ h2 h3⟩
/-- a list that may change is shown as the list -/
theorem repr_same {w : List Nat} {l : List D} {n : Nat} (h : rok w n (.lst l)) (hn : n ≤ sizeLine) (hd : datL l = true) (hp : depL l < 30) :
    ∃ t : List Nat, (∀ (g : G) (Q : QT), oRepr none w [.lst l] g Q = Q (.str t) g) ∧ ∀ (a : Addr) (g : G) (Q : QT), g a = some (.lst l) → oRepr none w [.adr a] g Q = Q (.str t) g := by
  obtain ⟨t, h1, h2⟩ := h
  have h3 : t.length ≤ sizeLine := Nat.le_trans h2 hn
  have hp' : Nat.ble (depL l + 1) 30 = true := Nat.ble_eq.mpr hp
  refine ⟨t.cps.toList, fun g Q => ?_, fun a g Q hg => ?_⟩
  · have e : rpG none w g (.lst l) = some t := by simp [rpG, dat, dep, hd, hp', gmOk, h1]
    simp [oRepr, e, h3]
  · have e : rpG none w g (.adr a) = some t := by simp [rpG, hg, dep, hd, hp', gmOk, h1]
    simp [oRepr, e, h3]
end
/-! sorted texts -/
theorem srt_strs {α : Type} {f : α → List Nat} {l : List α} (h : ∀ x ∈ l, ∀ c ∈ f x, c < 0x110000) : SrtOk (l.map fun x => D.str (f x)) := by
  refine ⟨fun d hd => ?_, fun d hd => ?_, ?_, ?_⟩
  · obtain ⟨x, hx, rfl⟩ := List.mem_map.mp hd
    simp only [pureD]
    rw [List.all_eq_true]
    intro c hc
    simpa using h x hx c hc
  · obtain ⟨x, hx, rfl⟩ := List.mem_map.mp hd
    rfl
  · rw [List.map_map]
    exact PySem.W.AllAlike.of fun _ _ => by simp [toP, PySem.W.alike]
  · rw [List.map_map]
    exact PySem.W.Sortable.others fun _ => ⟨by simp [toP], fun _ => by simp [toP]⟩
end Cn

namespace Cn
open PySem PySem.Spec PyProof.Rows L2 PySem.W
/-! ## KN. Casks shown -/
theorem rok_ck {w : List Nat} {m : List Nat} {s : Int} {p : List D} {n : Nat} (hw : memN 2 w = true) (hm : ∀ c ∈ m, c < 16 ^ 8) (hs : s.natAbs.log2 < 1920) (hp : rok w n (.tup p)) (hb : p.all prtB = true) (h1 : m.length ≤ 100) : rok w (n + 4000) (ck m s p) := by
  obtain ⟨t1, e1, l1⟩ := rok_str (w := w) hm
  obtain ⟨t2, e2, l2⟩ := rok_int (w := w) hs
  obtain ⟨t3, e3, l3⟩ := hp
  refine ⟨_, by simp only [rpT, hw, rpL] at e1 e2 e3 ⊢; simp only [e1, e2, e3, rpI, hb, if_true]; rfl, ?_⟩
  have a1 : (("Cask(" : String) : Str).length = 5 := rfl
  have a2 : ((")" : String) : Str).length = 1 := rfl
  have a3 : ((", " : String) : Str).length = 2 := rfl
  simp only [strLen_append, a1, a2, a3]
  omega
end Cn

namespace Cn
open PySem PySem.Spec PyProof.Rows L2 PySem.W
/-! ## KO. Exceptions, own __str__ and __len__, as they are worked out -/
section
variable {C : Cal} {ρ : R} {g : G} {Q : QT} {E : ET} {QB : Bool → G → Prop} {te : DTE} {DD : DE} {st ln : EqT}
def strT (st : EqT) (C : Cal) (c : Nat) (l : List D) (g : G) {Q : QT} (_ : Tk Q) : Prop := strK st C c l g Q
def lenT (ln : EqT) (C : Cal) (c : Nat) (l : List D) {P : Nat → Prop} (_ : Tk P) : Prop := lenK ln C c l P
def truT (ln : EqT) (C : Cal) (d : D) (g : G) {P : Bool → Prop} (_ : Tk P) : Prop := truO ln C d g P
theorem ev_truO : dTruO ln te C ρ g QB E = te C ρ g (fun d g1 => truT ln C d g1 (⟨⟩ : Tk fun b => QB b g1)) E := (rfl)
theorem ev_notVO : dNotVO ln te C ρ g Q E = te C ρ g (fun d g1 => truT ln C d g1 (⟨⟩ : Tk fun b => Q (.bl (!b)) g1)) E := (rfl)
theorem ev_trTi {c : Nat} {l : List D} {P : Bool → Prop} : truT ln C (.ins c l) g (⟨⟩ : Tk P) = lenT ln C c l (⟨⟩ : Tk fun n : Nat => P ((n : Int) != 0)) := (rfl)
theorem ev_trTc {m : List Nat} {s : Int} {p : List D} {P : Bool → Prop} : truT ln C (ck m s p) g (⟨⟩ : Tk P) = lenT ln C 2 [.str m, .int s, .tup p] (⟨⟩ : Tk fun n : Nat => P ((n : Int) != 0)) := (rfl)
theorem ev_trTn {P : Bool → Prop} : truT ln C .non g (⟨⟩ : Tk P) = P false := (rfl)
theorem ev_trTb {b : Bool} {P : Bool → Prop} : truT ln C (.bl b) g (⟨⟩ : Tk P) = P b := (rfl)
theorem ev_trTz {i : Int} {P : Bool → Prop} : truT ln C (.int i) g (⟨⟩ : Tk P) = P (i != 0) := (rfl)
theorem ev_trTt {l : List D} {P : Bool → Prop} : truT ln C (.tup l) g (⟨⟩ : Tk P) = P (!l.isEmpty) := (rfl)
theorem ev_trTl {l : List D} {P : Bool → Prop} : truT ln C (.lst l) g (⟨⟩ : Tk P) = P (!l.isEmpty) := (rfl)
theorem ev_opsC {o : Cal → DOL} {ts : List DTE} : dOpsC o ts C ρ g Q E = dArgs ts C ρ g (fun ds g1 => o C ds g1 Q) E := (rfl)
theorem ev_strOi {c : Nat} {l : List D} : strO st C [.ins c l] g Q = strT st C c l g (⟨⟩ : Tk Q) := (rfl)
theorem ev_strOc {m : List Nat} {s : Int} {p : List D} : strO st C [ck m s p] g Q = strT st C 2 [.str m, .int s, .tup p] g (⟨⟩ : Tk Q) := (rfl)
theorem ev_strOz {i : Int} : strO st C [.int i] g Q = oStr [.int i] g Q := (rfl)
theorem ev_lenOi {c : Nat} {l : List D} : lenO ln C [.ins c l] g Q = lenT ln C c l (⟨⟩ : Tk fun n : Nat => Q (.int n) g) := (rfl)
theorem ev_lenOc {m : List Nat} {s : Int} {p : List D} : lenO ln C [ck m s p] g Q = lenT ln C 2 [.str m, .int s, .tup p] (⟨⟩ : Tk fun n : Nat => Q (.int n) g) := (rfl)
theorem ev_lenOt {l : List D} : lenO ln C [.tup l] g Q = oLen [.tup l] g Q := (rfl)
theorem ev_lenOl {l : List D} : lenO ln C [.lst l] g Q = oLen [.lst l] g Q := (rfl)
theorem ev_lenOs {l : List Nat} : lenO ln C [.str l] g Q = oLen [.str l] g Q := (rfl)
theorem ev_lenOa {a : Addr} : lenO ln C [.adr a] g Q = oLen [.adr a] g Q := (rfl)
theorem ev_bolOi {c : Nat} {l : List D} : bolO ln C [.ins c l] g Q = lenT ln C c l (⟨⟩ : Tk fun n : Nat => Q (.bl ((n : Int) != 0)) g) := (rfl)
theorem ev_bolOc {m : List Nat} {s : Int} {p : List D} : bolO ln C [ck m s p] g Q = lenT ln C 2 [.str m, .int s, .tup p] (⟨⟩ : Tk fun n : Nat => Q (.bl ((n : Int) != 0)) g) := (rfl)
theorem strt_ok {c f : Nat} {l : List D} {s : List Nat} (h : st c = some f) (h1 : C f [.ins c l] [] (fun _ => none) (fun r _ => r = .str s) noE) (q : Q (.str s) g) : strT st C c l g (⟨⟩ : Tk Q) := by
  unfold strT strK
  rw [h]
  exact ⟨s, h1, q⟩
theorem lent_ok {c f n : Nat} {l : List D} {P : Nat → Prop} (h : ln c = some f) (hn : n < 2 ^ 63) (h1 : C f [.ins c l] [] (fun _ => none) (fun r _ => r = .int n) noE) (q : P n) : lenT ln C c l (⟨⟩ : Tk P) := by
  unfold lenT lenK
  rw [h]
  exact ⟨n, hn, h1, q⟩
/-- a value in a text's field -/
def fmT (st : EqT) (C : Cal) (d : D) (g : G) {Q : QT} (_ : Tk Q) : Prop := match d with
  | .ins c l => strK st C c l g Q
  | .str s => s.length ≤ sizeLine ∧ Q (.str s) g
  | .int i => i.natAbs.log2 < 1920 ∧ Q (.str (intS i)) g
  | _ => False
theorem ev_fmtO : dFmtO st te C ρ g Q E = te C ρ g (fun d g1 => fmT st C d g1 (⟨⟩ : Tk Q)) E := (rfl)
theorem ev_fmTi {c : Nat} {l : List D} : fmT st C (.ins c l) g (⟨⟩ : Tk Q) = strT st C c l g (⟨⟩ : Tk Q) := (rfl)
theorem ev_fmTw {a b : Int} : fmT st C (wt a b) g (⟨⟩ : Tk Q) = strT st C 0 [.int a, .int b] g (⟨⟩ : Tk Q) := (rfl)
theorem ev_fmTc {m : List Nat} {s : Int} {p : List D} : fmT st C (ck m s p) g (⟨⟩ : Tk Q) = strT st C 2 [.str m, .int s, .tup p] g (⟨⟩ : Tk Q) := (rfl)
theorem ev_fmTs {s : List Nat} : fmT st C (.str s) g (⟨⟩ : Tk Q) = (s.length ≤ sizeLine ∧ Q (.str s) g) := (rfl)
theorem ev_fmTz {i : Int} : fmT st C (.int i) g (⟨⟩ : Tk Q) = (i.natAbs.log2 < 1920 ∧ Q (.str (intS i)) g) := (rfl)
/-- the parts of a text put together -/
def jnT (ts : List DTE) (acc : List Nat) (C : Cal) (ρ : R) {Q : QT} (_ : Tk Q) {E : ET} (_ : Tk E) (d : D) (g : G) : Prop := match d with
  | .str s => acc.length + s.length ≤ sizeLine ∧ dJn ts (acc ++ s) C ρ g Q E
  | _ => False
theorem ev_join {ts : List DTE} : dJoin ts C ρ g Q E = dJn ts [] C ρ g Q E := (rfl)
theorem ev_jn0 {acc : List Nat} : dJn [] acc C ρ g Q E = Q (.str acc) g := (rfl)
theorem ev_jn1 {acc : List Nat} {t : DTE} {ts : List DTE} : dJn (t :: ts) acc C ρ g Q E = t C ρ g (fun d g1 => jnT ts acc C ρ (⟨⟩ : Tk Q) (⟨⟩ : Tk E) d g1) E := (rfl)
theorem ev_jnT {acc s : List Nat} {ts : List DTE} : jnT ts acc C ρ (⟨⟩ : Tk Q) (⟨⟩ : Tk E) (.str s) g = (acc.length + s.length ≤ sizeLine ∧ dJn ts (acc ++ s) C ρ g Q E) := (rfl)
-- exceptions
theorem ev_raise {c : Nat} {ts : List DTE} : dRaise c ts C ρ g DD = dArgs ts C ρ g (fun ds g1 => ds.length ≤ 1000 ∧ rzK c ds fun l => DD.ex ⟨c, l⟩ ρ g1) fun x g1 => DD.ex x ρ g1 := (rfl)
theorem rz0 {c : Nat} {ds : List D} {k : List D → Prop} (h : xfl c = []) : rzK c ds k = k [] := by unfold rzK; rw [h]
theorem rz1 {c f : Nat} {d : D} {k : List D → Prop} (h : xfl c = [f]) : rzK c [d] k = k [d] := by unfold rzK; rw [h]
theorem ev_try {tb : DTS} {hs : XH} : dTry tb hs C ρ g DD = tb C ρ g { nx := DD.nx, rt := DD.rt, bk := DD.bk, ct := DD.ct, ex := fun x ρ1 g1 => dHand hs x C ρ1 g1 DD } := (rfl)
theorem ev_hand0 {x : DX} : dHand [] x C ρ g DD = DD.ex x ρ g := (rfl)
theorem ev_hand1 {c k : Nat} {l : List D} {i : Option Nat} {t : DTS} {r : XH} : dHand ((k, i, t) :: r) ⟨c, l⟩ C ρ g DD = br (xsub c k) (⟨⟩ : Tk (t C (inS i (.exc c l) ρ) g (sufD i DD))) (⟨⟩ : Tk (dHand r ⟨c, l⟩ C ρ g DD)) := by
  unfold br
  show (match xsub c k with
    | true => t C (inS i (.exc c l) ρ) g (sufD i DD)
    | false => dHand r ⟨c, l⟩ C ρ g DD) = _
  cases xsub c k <;> rfl
theorem ev_inS0 {d : D} : inS none d ρ = ρ := (rfl)
theorem ev_inS1 {j : Nat} {d : D} : inS (some j) d ρ = ρ.set j (some d) := (rfl)
theorem ev_unS0 : unS none ρ = ρ := (rfl)
theorem ev_unS1 {j : Nat} : unS (some j) ρ = ρ.set j none := (rfl)
theorem ev_suf {i : Option Nat} : sufD i DD = { nx := fun ρ g => DD.nx (unS i ρ) g, rt := DD.rt, bk := fun ρ g => DD.bk (unS i ρ) g, ct := fun ρ g => DD.ct (unS i ρ) g, ex := fun _ _ _ => False } := (rfl)
theorem ev_isix {c d : Nat} {l : List D} : oIsi [.exc c l, .xcl d] g Q = Q (.bl (xsub c d)) g := (rfl)
end
end Cn

namespace Cn
open PySem PySem.Spec PyProof.Rows L2 PySem.W
/-! ## KP. Dict displays -/
section
variable {C : Cal} {ρ : R} {g : G} {Q : QT} {E : ET} {ta tb : DTE}
theorem ev_dct0 : dDct false [] C ρ g Q E = Q (.dct [] []) g := by simp [dDct, dPrs, ndK]
theorem ev_dct1 : dDct false [(ta, tb)] C ρ g Q E = ta C ρ g (fun k g1 => tb C ρ g1 (fun v g2 => isKey k = true ∧ Q (.dct [k] [v]) g2) E) E := by simp [dDct, dPrs, ndK]
theorem ev_isKi {i : Int} : isKey (.int i) = true := (rfl)
theorem ev_isKs {s : List Nat} : isKey (.str s) = true := (rfl)
end
end Cn
namespace Cn
open PySem PySem.Spec PyProof.Rows L2 PySem.W
/-! ## KP2. Texts cut, great letters, numbers read; raised without a word -/
section
variable {C : Cal} {ρ : R} {g : G} {Q : QT} {E : ET} {mt : MT} {DD : DE}
theorem ev_msplit {a : List Nat} {ts : List DTE} : methK mt 98 (.str a) ts C ρ g Q E = dArgs ts C ρ g (fun ds g2 => mSplit (.str a) ds g2 Q) E := by simp [methK, clsM, bmt, bmt2, isS]
theorem ev_split {a b : List Nat} : mSplit (.str a) [.str b] g Q = ((a.length + 2 ≤ sizeLine ∧ b.isEmpty = false ∧ b.all (· < 256) = true) ∧ Q (.lst ((TL.spl b 0 [] a).map D.str)) g) := (rfl)
theorem ev_mupper {a : List Nat} {ts : List DTE} : methK mt 114 (.str a) ts C ρ g Q E = dArgs ts C ρ g (fun ds g2 => mUpper (.str a) ds g2 Q) E := by simp [methK, clsM, bmt, bmt2, isS]
theorem ev_upper {a : List Nat} : mUpper (.str a) [] g Q = (a.length ≤ 5592405 ∧ Q (.str (upL a)) g) := (rfl)
theorem ev_ints {s : List Nat} : oInt [.str s] g Q = ((digB s = true ∧ s.isEmpty = false ∧ s.length ≤ 640) ∧ Q (.int (NumText.digitsVal s : Nat)) g) := (rfl)
theorem ev_revs {s : List Nat} {m : Bool} : oRev m (.str s) g Q = (s.length ≤ sizeLine ∧ Q (.str s.reverse) g) := (rfl)
theorem ev_rpi {i : Int} : oReprI [.int i] g Q = (i.natAbs.log2 < 1920 ∧ Q (.str (intS i)) g) := (rfl)
/-- a list that may change, compared -/
theorem eq_adr {a : Addr} {l : List D} {y : D} (h : g a = some (.lst l)) : oEq false (.adr a) y g Q = ((pureD 40 (.lst l) && pureD 40 y) = true ∧ Q (.bl (eqD (.lst l) y)) g) := by simp [oEq, h]
theorem ne_adr {a : Addr} {l : List D} {y : D} (h : g a = some (.lst l)) : oEq true (.adr a) y g Q = ((pureD 40 (.lst l) && pureD 40 y) = true ∧ Q (.bl (!eqD (.lst l) y)) g) := by simp [oEq, h]
theorem ev_rz018 : dRaise0 18 C ρ g DD = DD.ex ⟨18, [.int 0]⟩ ρ g := (rfl)
theorem upL_len (a : List Nat) : (upL a).length ≤ 3 * a.length := by
  have h := PyProof.Rows.len_upper (S a)
  rw [S_len] at h
  exact h
end
end Cn
namespace Cn
open PySem PySem.Spec PyProof.Rows L2 PySem.W
/-! ## KQ. Things of any kind: data, shown -/
theorem sumEnts : ∀ (a b : List Str), ((ents a b).map fun t => t.length + 2).sum ≤ (a.map fun t => t.length + 2).sum + (b.map fun t => t.length + 2).sum
  | [], b => by simp [ents]
  | _ :: _, [] => by simp [ents]
  | x :: a, y :: b => by
    have h := sumEnts a b
    have e1 : ((": " : String) : Str).length = 2 := rfl
    simp only [ents, List.map_cons, List.sum_cons, strLen_append, e1]
    omega
theorem dictText_le {ts : List Str} : (dictText ts).length ≤ (ts.map fun t => t.length + 2).sum + 2 := by
  unfold dictText
  rw [strLen_append, strLen_append]
  have e1 : ((("{" : String) : Str)).length = 1 := rfl
  have e2 : ((("}" : String) : Str)).length = 1 := rfl
  by_cases h : ts = []
  · subst h
    have e4 : (Str.join ", " []).length = 0 := rfl
    omega
  · have := join_length_add ts h
    have e5 : piled ts = (ts.map fun t => t.length + 2).sum := rfl
    omega
theorem rok_dct {w : List Nat} {m n : Nat} {ks vs : List D} (h : rokL w m ks) (k : rokL w n vs) : rok w (m + n + 2) (.dct ks vs) := by
  obtain ⟨a, h1, h2⟩ := h
  obtain ⟨b, k1, k2⟩ := k
  refine ⟨dictText (ents a b), by simp only [rpT, h1, k1], ?_⟩
  have := dictText_le (ts := ents a b)
  have := sumEnts a b
  omega
mutual
/-- a bound of a thing's text -/
def rsz (w : List Nat) : D → Option Nat
  | .non => some 4
  | .bl _ => some 5
  | .int i => if i.natAbs.log2 < 1920 then some 1921 else none
  | .str s => if s.all (fun c => decide (c < 1114112)) = true then some (10 * s.length + 2) else none
  | .tup l => (rszL w l).map (· + 3)
  | .lst l => (rszL w l).map (· + 2)
  | .dct ks vs => match rszL w ks, rszL w vs with
    | some a, some b => some (a + b + 2)
    | _, _ => none
  | .ins 0 [.int a, .int b] => if memN 0 w = true ∧ a.natAbs.log2 < 1920 ∧ b.natAbs.log2 < 1920 then some 4000 else none
  | _ => none
def rszL (w : List Nat) : List D → Option Nat
  | [] => some 0
  | d :: ds => match rsz w d, rszL w ds with
    | some m, some n => some (m + 2 + n)
    | _, _ => none
end
mutual
theorem rsz_ok {w : List Nat} : ∀ (d : D) (n : Nat), rsz w d = some n → rok w n d
  | .non, n, h => by simp only [rsz] at h; cases h; exact rok_non
  | .bl b, n, h => by simp only [rsz] at h; cases h; exact rok_bl
  | .int i, n, h => by
    simp only [rsz] at h
    split at h
    · cases h; exact rok_int (by assumption)
    · cases h
  | .str s, n, h => by
    simp only [rsz] at h
    split at h
    · rename_i hs
      cases h
      exact rok_str fun c hc => by
        have := of_decide_eq_true (List.all_eq_true.mp hs c hc)
        exact Nat.lt_trans this (by decide)
    · cases h
  | .tup l, n, h => by
    simp only [rsz] at h
    obtain ⟨m, e, rfl⟩ := Option.map_eq_some_iff.mp h
    exact rok_tup (rszL_ok l m e)
  | .lst l, n, h => by
    simp only [rsz] at h
    obtain ⟨m, e, rfl⟩ := Option.map_eq_some_iff.mp h
    exact rok_lst (rszL_ok l m e)
  | .dct ks vs, n, h => by
    simp only [rsz] at h
    split at h
    · rename_i a b e1 e2
      cases h
      exact rok_dct (rszL_ok ks a e1) (rszL_ok vs b e2)
    · cases h
  | .ins c l, n, h => by
    unfold rsz at h
    split at h <;> first | (cases h; done) | skip
    all_goals first
      | (rename_i e; cases e; done)
      | skip
    · rename_i a b e
      cases e
      split at h
      · rename_i hh
        cases h
        exact rok_wt hh.1 hh.2.1 hh.2.2
      · cases h
  | .adr _, n, h | .fn _, n, h | .cls _, n, h | .ty _, n, h | .exc _ _, n, h | .xcl _, n, h | .xty _, n, h => by simp [rsz] at h
theorem rszL_ok {w : List Nat} : ∀ (l : List D) (n : Nat), rszL w l = some n → rokL w n l
  | [], n, h => by simp only [rszL] at h; cases h; exact rokL_nil
  | d :: ds, n, h => by
    simp only [rszL] at h
    split at h
    · rename_i m k e1 e2
      cases h
      exact rokL_cons (rsz_ok d m e1) (rszL_ok ds k e2)
    · cases h
end
/-- data of a depth, of a size when shown -/
structure Gd (w : List Nat) (k n : Nat) (d : D) : Prop where
  dt : dat d = true
  dp : dep d ≤ k
  rk : rok w n d
structure GdL (w : List Nat) (k n : Nat) (l : List D) : Prop where
  dt : datL l = true
  dp : depL l ≤ k
  rk : rokL w n l
section
variable {w : List Nat} {k n m : Nat} {d : D} {l ks vs : List D}
def gdB (w : List Nat) (k n : Nat) (d : D) : Bool := dat d && (Nat.ble (dep d) k && match rsz w d with
  | some m => Nat.ble m n
  | none => false)
theorem gd_c (h : gdB w k n d = true) : Gd w k n d := by
  simp only [gdB, Bool.and_eq_true] at h
  obtain ⟨h1, h2, h3⟩ := h
  split at h3
  · rename_i m e
    exact ⟨h1, Nat.le_of_ble_eq_true h2, (rsz_ok d m e).mono (Nat.le_of_ble_eq_true h3)⟩
  · cases h3
theorem Gd.mono {k' n' : Nat} (h : Gd w k n d) (hk : k ≤ k') (hn : n ≤ n') : Gd w k' n' d := ⟨h.dt, Nat.le_trans h.dp hk, h.rk.mono hn⟩
theorem gdl_nil : GdL w k 0 [] := ⟨rfl, Nat.zero_le _, rokL_nil⟩
theorem gdl_cons (h : Gd w k m d) (t : GdL w k n l) : GdL w k (m + 2 + n) (d :: l) := ⟨by simp [datL, h.dt, t.dt], by simp only [depL]; have := h.dp; have := t.dp; omega, rokL_cons h.rk t.rk⟩
theorem gd_tup (h : GdL w k n l) : Gd w (k + 1) (n + 3) (.tup l) := ⟨by simp only [dat]; exact h.dt, by simp only [dep]; have := h.dp; omega, rok_tup h.rk⟩
theorem gd_lst (h : GdL w k n l) : Gd w (k + 1) (n + 2) (.lst l) := ⟨by simp only [dat]; exact h.dt, by simp only [dep]; have := h.dp; omega, rok_lst h.rk⟩
theorem gd_dct (h : GdL w k m ks) (t : GdL w k n vs) : Gd w (k + 1) (m + n + 2) (.dct ks vs) := ⟨by simp only [dat, h.dt, t.dt, Bool.and_self], by simp only [dep]; have := h.dp; have := t.dp; omega, rok_dct h.rk t.rk⟩
theorem Gd.repr (h : Gd w k n d) (hk : k ≤ 30) (hn : n ≤ sizeLine) : ∃ t : List Nat, ∀ (g' : G) (Q : QT), oRepr none w [d] g' Q = Q (.str t) g' := repr_d h.rk hn h.dt (Nat.le_trans h.dp hk)
end
end Cn
namespace Cn
open PySem PySem.Spec PyProof.Rows L2 PySem.W
section
variable {g : G} {Q : QT} {a b : Addr} {l k : List D}
theorem add_al (h : g a = some (.lst l)) (hl : l.length + k.length ≤ 1000000) (q : ∀ b, g b = none → Q (.adr b) (gset g b (.lst (l ++ k)))) : oAdd true (.adr a) (.lst k) g Q := by
  simp only [oAdd, lstOf, h]
  exact ⟨sz_le hl, q⟩
theorem add_aa (h : g a = some (.lst l)) (h2 : g b = some (.lst k)) (hl : l.length + k.length ≤ 1000000) (q : ∀ b, g b = none → Q (.adr b) (gset g b (.lst (l ++ k)))) : oAdd true (.adr a) (.adr b) g Q := by
  simp only [oAdd, lstOf, h, h2]
  exact ⟨sz_le hl, q⟩
end
end Cn
namespace Cn
open PySem PySem.Spec PyProof.Rows L2 PySem.W
section
variable {C : Cal} {ρ : R} {g : G} {Q : QT} {te : DTE} {tt : DTT} {tg : Tg} {ok : G → Prop} {QLs : QL}
/-- a comprehension that picks and maps -/
theorem cpL_filt {α : Type} {enc out : α → D} {p : α → Bool} : ∀ (xs : List α) (acc : List D), acc.length + xs.length ≤ 1000000 → ok g → (∀ x ∈ xs, ∀ (K1 : QT) (K0 : G → Prop), (p x = true → K1 (out x) g) → (p x = false → K0 g) →
      asgT tg (enc x) ρ fun ρ1 => tt C ρ1 g (fun b g1 => if b then te C ρ1 g1 K1 noE else K0 g1) noE) → QLs (acc ++ (xs.filter p).map out) g → dCpL tg ok tt te (xs.map enc) acc C ρ g QLs
  | [], acc, _, _, _, q => by
    simp only [List.map_nil, List.filter_nil, List.append_nil] at q ⊢
    unfold dCpL
    exact q
  | x :: xs, acc, hl, hk, hs, q => by
    simp only [List.map_cons, List.length_cons] at *
    unfold dCpL
    refine hs x List.mem_cons_self (fun y g2 => acc.length < sizeLine ∧ ok g2 ∧ dCpL tg ok tt te (xs.map enc) (acc ++ [y]) C ρ g2 QLs) (fun g2 => ok g2 ∧ dCpL tg ok tt te (xs.map enc) acc C ρ g2 QLs) (fun hp => ⟨sz_lt (by omega), hk, cpL_filt xs (acc ++ [out x]) (by simp; omega) hk (fun y hy => hs y (List.mem_cons_of_mem _ hy)) ?_⟩)
      fun hp => ⟨hk, cpL_filt xs acc (by omega) hk (fun y hy => hs y (List.mem_cons_of_mem _ hy)) ?_⟩
    · rw [List.filter_cons, if_pos hp] at q; simpa using q
    · rw [List.filter_cons, if_neg (by rw [hp]; exact Bool.false_ne_true)] at q; exact q
theorem bools_map {α : Type} {f : α → Bool} : ∀ xs : List α, boolsD (xs.map fun x => .bl (f x)) = some (xs.map f)
  | [] => rfl
  | x :: xs => by simp [boolsD, bools_map xs]
theorem all_bools {α : Type} {f : α → Bool} {xs : List α} : oAll [.lst (xs.map fun x => .bl (f x))] g Q = Q (.bl (xs.all f)) g := by
  simp only [oAll, lstOf, bools_map]
  congr 2
  simp [List.all_map]
theorem ev_nin {c : Nat} {s : List Nat} : oIn true (.str [c]) (.str s) g Q = Q (.bl (!s.contains c)) g := by simp [oIn]
end
end Cn
namespace Cn
open PySem PySem.Spec PyProof.Rows L2
section
variable {C : Cal} {ρ : R} {g : G} {Q : QT}
/-! ## dicts, by keys that are texts -/
theorem ev_inds {s : List Nat} {ks vs : List D} : oIn false (.str s) (.dct ks vs) g Q = Q (.bl (ks.any fun k => eqK0 k (.str s))) g := by
  simp [oIn, seqOf, lstOf, inDct, dctOf, isKey]
theorem ev_ninds {s : List Nat} {ks vs : List D} : oIn true (.str s) (.dct ks vs) g Q = Q (.bl (!ks.any fun k => eqK0 k (.str s))) g := by
  simp [oIn, seqOf, lstOf, inDct, dctOf, isKey]
/-- what stands behind a key -/
def onD (ks vs : List D) (x : D) {k : D → Prop} (_ : Tk k) : Prop := match lookD ks vs x with
  | some d => k d
  | none => False
theorem onD_eq {ks vs : List D} {x d : D} {k : D → Prop} {t : Tk k} (h : lookD ks vs x = some d) : onD ks vs x t = k d := by
  unfold onD
  rw [h]
theorem ev_ixds {s : List Nat} {ks vs : List D} : oIx (.dct ks vs) (.str s) g Q = onD ks vs (.str s) (⟨⟩ : Tk fun d => Q d g) := by
  unfold onD
  simp only [oIx, ixDct, dctOf, isKey, true_and]
  try rfl
theorem prs_map {α : Type} {enc kf vf : α → D} (he : ∀ r, enc r = .tup [kf r, vf r]) : ∀ l : List α, prsOf (l.map enc) = some (l.map kf, l.map vf)
  | [] => rfl
  | r :: l => by
    rw [List.map_cons, he r]
    unfold prsOf
    rw [prs_map he l]
    rfl
theorem dctp_map {α : Type} {enc kf vf : α → D} (he : ∀ r, enc r = .tup [kf r, vf r]) {l : List α} (h : ndK (l.map kf) = true) (q : Q (.dct (l.map kf) (l.map vf)) g) : oDctP false [.lst (l.map enc)] g Q := by
  show (match prsOf (l.map enc) with
      | some q => ndK q.1 = true ∧ (if false = true then ∀ a, g a = none → Q (.adr a) (gset g a (.dct q.1 q.2)) else Q (.dct q.1 q.2) g)
      | none => False)
  rw [prs_map he l]
  exact ⟨h, by rw [if_neg Bool.false_ne_true]; exact q⟩
theorem anyK_map {α : Type} {kf : α → List Nat} {s : List Nat} : ∀ {l : List α}, ((l.map fun r => D.str (kf r)).any fun k => eqK0 k (.str s)) = decide (s ∈ l.map kf)
  | [] => rfl
  | r :: l => by
    rw [List.map_cons, List.any_cons, anyK_map (l := l), List.map_cons]
    show (kf r == s || decide (s ∈ l.map kf)) = _
    by_cases e : kf r = s
    · simp [e]
    · have e' : ¬ s = kf r := fun z => e z.symm
      simp [e, e']
theorem ndK_map {α : Type} {kf : α → List Nat} : ∀ {l : List α}, (l.map kf).Nodup → ndK (l.map fun r => D.str (kf r)) = true
  | [], _ => rfl
  | r :: l, h => by
    rw [List.map_cons, List.nodup_cons] at h
    rw [List.map_cons]
    have e : ((l.map fun r => D.str (kf r)).any (eqK0 (.str (kf r)))) = false := by
      rw [Bool.eq_false_iff]
      intro z
      obtain ⟨d, hd, e⟩ := List.any_eq_true.mp z
      obtain ⟨x, hx, rfl⟩ := List.mem_map.mp hd
      have : kf r = kf x := by simpa [eqK0] using e
      exact h.1 (this ▸ List.mem_map_of_mem hx)
    unfold ndK
    rw [e, ndK_map h.2]
    rfl
theorem lookK_map {α : Type} {kf : α → List Nat} {vf : α → D} : ∀ {l : List α}, (l.map kf).Nodup → ∀ r ∈ l, lookD (l.map fun r => D.str (kf r)) (l.map vf) (.str (kf r)) = some (vf r)
  | [], _, r, hr => by cases hr
  | x :: l, h, r, hr => by
    rw [List.map_cons, List.nodup_cons] at h
    rw [List.map_cons, List.map_cons]
    unfold lookD
    by_cases e : kf x = kf r
    · have : eqK0 (.str (kf x)) (.str (kf r)) = true := by simp [eqK0, e]
      rw [this, if_pos rfl]
      rcases List.mem_cons.mp hr with rfl | hr'
      · rfl
      · exact absurd (e ▸ List.mem_map_of_mem hr') h.1
    · have : eqK0 (.str (kf x)) (.str (kf r)) = false := by simpa [eqK0] using e
      rw [this, if_neg Bool.false_ne_true]
      rcases List.mem_cons.mp hr with rfl | hr'
      · exact absurd rfl e
      · exact lookK_map h.2 r hr'
/-! ## equality of data, one to itself -/
mutual
theorem eqD_self : ∀ (n : Nat) (d : D), pureD n d = true → eqD d d = true
  | _, .non, _ => rfl
  | _, .bl b, _ => by cases b <;> rfl
  | _, .int i, _ => by simp [eqD]
  | _, .str s, _ => by simp [eqD]
  | n + 1, .tup l, h => eqL_self n l h
  | n + 1, .lst l, h => eqL_self n l h
  | 0, .tup _, h => by cases h
  | 0, .lst _, h => by cases h
  | _, .dct _ _, h => by simp [pureD] at h
  | _, .ins _ _, h => by simp [pureD] at h
  | _, .adr _, h => by simp [pureD] at h
  | _, .fn _, h => by simp [pureD] at h
  | _, .cls _, h => by simp [pureD] at h
  | _, .ty _, h => by simp [pureD] at h
  | _, .exc _ _, h => by simp [pureD] at h
  | _, .xcl _, h => by simp [pureD] at h
  | _, .xty _, h => by simp [pureD] at h
theorem eqL_self : ∀ (n : Nat) (l : List D), pureL n l = true → eqL l l = true
  | _, [], _ => rfl
  | n, d :: ds, h => by
    unfold pureL at h
    rw [Bool.and_eq_true] at h
    unfold eqL
    rw [eqD_self n d h.1, eqL_self n ds h.2]
    rfl
end
theorem oeq_tt {neg : Bool} {a b : List D} (ha : pureL 39 a = true) (hb : pureL 39 b = true) : oEq neg (.tup a) (.tup b) g Q = Q (.bl (if neg then !eqL a b else eqL a b)) g := by
  have h1 : pureD 40 (.tup a) = true := ha
  have h2 : pureD 40 (.tup b) = true := hb
  simp [oEq, h1, h2, eqD]
theorem oeq_ll {neg : Bool} {a b : List D} (ha : pureL 39 a = true) (hb : pureL 39 b = true) : oEq neg (.lst a) (.lst b) g Q = Q (.bl (if neg then !eqL a b else eqL a b)) g := by
  have h1 : pureD 40 (.lst a) = true := ha
  have h2 : pureD 40 (.lst b) = true := hb
  simp [oEq, h1, h2, eqD]
theorem pureL_all {n : Nat} : ∀ {l : List D}, (∀ d ∈ l, pureD n d = true) → pureL n l = true
  | [], _ => rfl
  | d :: l, h => by
    unfold pureL
    rw [h d List.mem_cons_self, pureL_all fun x hx => h x (List.mem_cons_of_mem _ hx)]
    rfl
end
end Cn
namespace Cn
open PySem PySem.Spec PyProof.Rows L2
section
variable {C : Cal} {ρ : R} {g : G} {Q : QT} {E : ET}
theorem ev_callv {fs : List Nat} {i : Nat} {ts : List DTE} : dCallV fs i ts C ρ g Q E = dVar i C ρ g (fun d g1 => fnK fs ts d C ρ g1 Q E) E := (rfl)
theorem ev_fnk {fs : List Nat} {f : Nat} {ts : List DTE} : fnK fs ts (.fn f) C ρ g Q E = (memN f fs = true ∧ dArgs ts C ρ g (fun ds g1 => C f ds [] g1 Q E) E) := (rfl)
end
end Cn
namespace Cn
open PySem PySem.Spec PyProof.Rows L2
section
variable {C : Cal} {ρ : R} {g : G} {Q : QT} {E : ET} {mt : MT}
theorem ev_mindex {a : List Nat} {ts : List DTE} : methK mt 38 (.str a) ts C ρ g Q E = dArgs ts C ρ g (fun ds g2 => mIndex (.str a) ds g2 Q) E := by simp [methK, clsM, bmt, bmt2, isS]
theorem idx_eq {a b : List Nat} {i : Nat} {rest : List Nat} (h : Builtin.Str.occurrences (S a) (S b) 0 (S a).length 1 = i :: rest) : mIndex (.str a) [.str b] g Q = Q (.int (i : Nat)) g := by
  unfold mIndex
  dsimp only
  rw [h]
theorem ev_inth {s : List Nat} : oInt [.str s, .int 16] g Q = (((16 : Int) = 16 ∧ s.isEmpty = false ∧ s.length ≤ 640 ∧ ∀ c ∈ s, Hx.IsHex c) ∧ Q (.int ((Hx.hexNum s : Nat) : Int)) g) := (rfl)
end
end Cn
namespace Cn
open PySem PySem.Spec PyProof.Rows L2 PySem.W
section
variable {g : G} {Q : QT}
theorem ev_addbi {m : Bool} {i : Bool} {j : Int} : oAdd m (.bl i) (.int j) g Q = Q (.int (b2i i + j)) g := by unfold oAdd; rfl
theorem ev_subbi {i : Bool} {j : Int} : oSub (.bl i) (.int j) g Q = Q (.int (b2i i - j)) g := (rfl)
theorem ev_subib {i : Int} {j : Bool} : oSub (.int i) (.bl j) g Q = Q (.int (i - b2i j)) g := (rfl)
theorem ev_absb {b : Bool} : oAbs [.bl b] g Q = Q (.int (b2i b)) g := (rfl)
theorem ev_strb {b : Bool} : oStr [.bl b] g Q = Q (.str (if b then [84, 114, 117, 101] else [70, 97, 108, 115, 101])) g := (rfl)
theorem ev_stri {i : Int} : oStr [.int i] g Q = (i.natAbs.log2 < 1920 ∧ Q (.str (intS i)) g) := (rfl)
theorem ev_eqbi {b : Bool} {j : Int} : oEq false (.bl b) (.int j) g Q = Q (.bl (decide (b2i b = j))) g := by
  have e : (eqD (.bl b) (.int j)) = decide (b2i b = j) := by
    show ((if b then (1 : Int) else 0) == j) = _
    unfold b2i
    by_cases h : (if b = true then (1 : Int) else 0) = j <;> simp [h]
  simp [oEq, pureD, e]
theorem ev_eqE {l : List D} : oEq false (.tup l) (.tup []) g Q = Q (.bl l.isEmpty) g := by
  have e : eqD (.tup l) (.tup []) = l.isEmpty := by cases l <;> rfl
  simp [oEq, nilT, e]
end
end Cn

namespace Law
open PySem PySem.Spec PyProof.Rows L2 Cn
/-! the text, by places -/
def top (i : Nat) : Stmt := PySem.Challenge.pw_casknotes_k04_weights_by_their_words.main.body.getD i (.Pass ⟨0, 0, 0, 0⟩)
/-! their records -/
def d72 : He.DefD := ⟨("_wall", none), "_wall", "_wall", defArgs (top 0), defBody (top 0), defScope (top 0), [], []⟩
def d133 : He.DefD := ⟨("is_whole", none), "is_whole", "is_whole", defArgs (top 7), defBody (top 7), defScope (top 7), [], []⟩
def d89 : He.DefD := ⟨("divisor_of", none), "divisor_of", "divisor_of", defArgs (top 9), defBody (top 9), defScope (top 9), [], []⟩
def d63 : He.DefD := ⟨("Weight", some "__init__"), "__init__", "Weight.__init__", defArgs (inClass (top 10) 0), defBody (inClass (top 10) 0), defScope (inClass (top 10) 0), [.int 1], []⟩
def d62 : He.DefD := ⟨("Weight", some "__eq__"), "__eq__", "Weight.__eq__", defArgs (inClass (top 10) 1), defBody (inClass (top 10) 1), defScope (inClass (top 10) 1), [], []⟩
def d65 : He.DefD := ⟨("Weight", some "__str__"), "__str__", "Weight.__str__", defArgs (inClass (top 10) 2), defBody (inClass (top 10) 2), defScope (inClass (top 10) 2), [], []⟩
def d64 : He.DefD := ⟨("Weight", some "__repr__"), "__repr__", "Weight.__repr__", defArgs (inClass (top 10) 3), defBody (inClass (top 10) 3), defScope (inClass (top 10) 3), [], []⟩
def d69 : He.DefD := ⟨("Weight", some "plus"), "plus", "Weight.plus", defArgs (inClass (top 10) 4), defBody (inClass (top 10) 4), defScope (inClass (top 10) 4), [], []⟩
def d68 : He.DefD := ⟨("Weight", some "less"), "less", "Weight.less", defArgs (inClass (top 10) 5), defBody (inClass (top 10) 5), defScope (inClass (top 10) 5), [], []⟩
def d70 : He.DefD := ⟨("Weight", some "times"), "times", "Weight.times", defArgs (inClass (top 10) 6), defBody (inClass (top 10) 6), defScope (inClass (top 10) 6), [.int 1], []⟩
def d66 : He.DefD := ⟨("Weight", some "is_below"), "is_below", "Weight.is_below", defArgs (inClass (top 10) 7), defBody (inClass (top 10) 7), defScope (inClass (top 10) 7), [], []⟩
def d67 : He.DefD := ⟨("Weight", some "is_nought"), "is_nought", "Weight.is_nought", defArgs (inClass (top 10) 8), defBody (inClass (top 10) 8), defScope (inClass (top 10) 8), [], []⟩
def d71 : He.DefD := ⟨("Weight", some "whole_up"), "whole_up", "Weight.whole_up", defArgs (inClass (top 10) 9), defBody (inClass (top 10) 9), defScope (inClass (top 10) 9), [], []⟩
def d1065 : He.DefD := ⟨("_law_deck", none), "_law_deck", "_law_deck", defArgs (top 12), defBody (top 12), defScope (top 12), [], []⟩
def d1076 : He.DefD := ⟨("_law_draw", none), "_law_draw", "_law_draw", defArgs (top 13), defBody (top 13), defScope (top 13), [], []⟩
def d1331 : He.DefD := ⟨("_law_whole", none), "_law_whole", "_law_whole", defArgs (top 14), defBody (top 14), defScope (top 14), [], []⟩
def d1071 : He.DefD := ⟨("_law_divides", none), "_law_divides", "_law_divides", defArgs (top 15), defBody (top 15), defScope (top 15), [], []⟩
def d1318 : He.DefD := ⟨("_law_two", none), "_law_two", "_law_two", defArgs (top 16), defBody (top 16), defScope (top 16), [], []⟩
def d1157 : He.DefD := ⟨("_law_lowest", none), "_law_lowest", "_law_lowest", defArgs (top 17), defBody (top 17), defScope (top 17), [], []⟩
def d1122 : He.DefD := ⟨("_law_is", none), "_law_is", "_law_is", defArgs (top 18), defBody (top 18), defScope (top 18), [], []⟩
def d1337 : He.DefD := ⟨("_law_written", none), "_law_written", "_law_written", defArgs (top 19), defBody (top 19), defScope (top 19), [], []⟩
def d1263 : He.DefD := ⟨("_law_shown", none), "_law_shown", "_law_shown", defArgs (top 20), defBody (top 20), defScope (top 20), [], []⟩
def d1007 : He.DefD := ⟨("_law_alone_right", none), "_law_alone_right", "_law_alone_right", defArgs (top 21), defBody (top 21), defScope (top 21), [], []⟩
def d1320 : He.DefD := ⟨("_law_two_right", none), "_law_two_right", "_law_two_right", defArgs (top 22), defBody (top 22), defScope (top 22), [], []⟩
def d136 : He.DefD := ⟨("law", none), "law", "law", defArgs (top 23), defBody (top 23), defScope (top 23), [], []⟩
def meths : List ((Nat × Nat) × Nat) := [((0, 0), 63), ((0, 81), 69), ((0, 51), 68), ((0, 108), 70), ((0, 40), 66), ((0, 41), 67), ((0, 122), 71)]
def mt : MT := fun c m => mtL c m meths
theorem mi_0_0 : mtI mt 0 0 = some 63 := by rfl
theorem mi_0_81 : mtI mt 0 81 = some 69 := by rfl
theorem mi_0_51 : mtI mt 0 51 = some 68 := by rfl
theorem mi_0_108 : mtI mt 0 108 = some 70 := by rfl
theorem mi_0_40 : mtI mt 0 40 = some 66 := by rfl
theorem mi_0_41 : mtI mt 0 41 = some 67 := by rfl
theorem mi_0_122 : mtI mt 0 122 = some 71 := by rfl
def lw : Lw := {
  fns := [("_wall", 72), ("is_whole", 133), ("divisor_of", 89), ("_law_deck", 1065), ("_law_draw", 1076), ("_law_whole", 1331), ("_law_divides", 1071), ("_law_two", 1318), ("_law_lowest", 1157), ("_law_is", 1122), ("_law_written", 1337), ("_law_shown", 1263), ("_law_alone_right", 1007), ("_law_two_right", 1320), ("law", 136)],
  clss := [("Weight", 0)],
  pl := [(72, ("_wall", none)), (133, ("is_whole", none)), (89, ("divisor_of", none)), (63, ("Weight", some "__init__")), (62, ("Weight", some "__eq__")), (65, ("Weight", some "__str__")), (64, ("Weight", some "__repr__")), (69, ("Weight", some "plus")), (68, ("Weight", some "less")), (70, ("Weight", some "times")), (66, ("Weight", some "is_below")), (67, ("Weight", some "is_nought")), (71, ("Weight", some "whole_up")), (1065, ("_law_deck", none)), (1076, ("_law_draw", none)), (1331, ("_law_whole", none)), (1071, ("_law_divides", none)), (1318, ("_law_two", none)), (1157, ("_law_lowest", none)), (1122, ("_law_is", none)), (1337, ("_law_written", none)), (1263, ("_law_shown", none)), (1007, ("_law_alone_right", none)), (1320, ("_law_two_right", none)), (136, ("law", none))],
  meths := meths,
  mks := [(0, (63, true))],
  blts := ["repr", "isinstance", "abs", "max", "int", "str", "range", "bool", "enumerate", "ValueError", "ZeroDivisionError"],
  cons := [],
  muts := [(64, 11)],
  w := [0],
  eqs := [(0, 62)],
  sts := [(0, 65)] }
def et : EqT := lw.sig.et
def st : EqT := lw.sig.st
def ln : EqT := lw.sig.ln
/-! what each def reads as -/
/-- _wall: 0 k -/
def b72 : DTS := dWhile (dTru (dC (.bl true)))
    dNext
def f72 : Fd := ⟨1, [some 45], [], b72⟩
/-- is_whole: 0 thing -/
def b133 : DTS := dRet (dAndV (dOps oIsi [dVar 0, dC (.ty 0)]) (dNotV (dOps oIsi [dVar 0, dC (.ty 1)])))
def f133 : Fd := ⟨1, [some 106], [], b133⟩
/-- divisor_of: 0 one, 1 other -/
def b89 : DTS := dSeq (dWhile (dTst (dEqO et true (dVar 1) (dC (.int 0))))
    (dPar [0, 1] [dVar 1, dBin oMod (dVar 0) (dVar 1)]))
    (dRet (dVar 0))
def f89 : Fd := ⟨2, [some 72, some 73], [], b89⟩
/-- Weight.__init__: 0 self, 1 top, 2 bottom, 3 by -/
def b63 : DTS := dSeq (dIfS (dAnd (dTru (dCall 133 [dVar 2] [] [])) (dTst (dEqO et false (dVar 2) (dC (.int 0)))))
    dStopS
    dNext)
    (dSeq (dIfS (dOr (dNot (dTru (dCall 133 [dVar 1] [] []))) (dOr (dNot (dTru (dCall 133 [dVar 2] [] []))) (dOr (dTst (dBin oLt (dVar 1) (dC (.int 0)))) (dTst (dBin oLt (dVar 2) (dC (.int 1)))))))
    dStopS
    dNext)
    (dSeq (dAsg (.nm 3) (dCall 89 [dVar 1, dVar 2] [] []))
    (dSeq (dFld 111 (dVar 0) (dBin oDiv (dVar 1) (dVar 3)))
    (dFld 8 (dVar 0) (dBin oDiv (dVar 2) (dVar 3))))))
def f63 : Fd := ⟨4, [some 93, some 111, some 8], [(.int 1)], b63⟩
/-- Weight.__eq__: 0 self, 1 other -/
def b62 : DTS := dRet (dAndV (dOps oIsi [dVar 1, dC (.cls 0)]) (dAndV (dEqO et false (dUn (oAttr 111) (dVar 0)) (dUn (oAttr 111) (dVar 1))) (dEqO et false (dUn (oAttr 8) (dVar 0)) (dUn (oAttr 8) (dVar 1)))))
def f62 : Fd := ⟨2, [some 93, some 73], [], b62⟩
/-- Weight.__str__: 0 self -/
def b65 : DTS := dSeq (dIfS (dTst (dEqO et false (dUn (oAttr 8) (dVar 0)) (dC (.int 1))))
    (dRet (dOpsC (strO st) [dUn (oAttr 111) (dVar 0)]))
    dNext)
    (dRet (dJoin [dFmtO st (dUn (oAttr 111) (dVar 0)), dC (.str [47]), dFmtO st (dUn (oAttr 8) (dVar 0))]))
def f65 : Fd := ⟨1, [some 93], [], b65⟩
/-- Weight.__repr__: 0 self -/
def b64 : DTS := dSeq (dIfS (dTst (dEqO et false (dUn (oAttr 8) (dVar 0)) (dC (.int 1))))
    (dRet (dJoin [dC (.str [87, 101, 105, 103, 104, 116, 40]), dFmtO st (dUn (oAttr 111) (dVar 0)), dC (.str [41])]))
    dNext)
    (dRet (dJoin [dC (.str [87, 101, 105, 103, 104, 116, 40]), dFmtO st (dUn (oAttr 111) (dVar 0)), dC (.str [44, 32]), dFmtO st (dUn (oAttr 8) (dVar 0)), dC (.str [41])]))
def f64 : Fd := ⟨1, [some 93], [], b64⟩
/-- Weight.plus: 0 self, 1 other -/
def b69 : DTS := dExpr (dCall 72 [dC (.int 0)] [] [])
def f69 : Fd := ⟨2, [some 93, some 73], [], b69⟩
/-- Weight.less: 0 self, 1 other -/
def b68 : DTS := dExpr (dCall 72 [dC (.int 1)] [] [])
def f68 : Fd := ⟨2, [some 93, some 73], [], b68⟩
/-- Weight.times: 0 self, 1 top, 2 bottom -/
def b70 : DTS := dExpr (dCall 72 [dC (.int 2)] [] [])
def f70 : Fd := ⟨3, [some 93, some 111, some 8], [(.int 1)], b70⟩
/-- Weight.is_below: 0 self, 1 other -/
def b66 : DTS := dExpr (dCall 72 [dC (.int 3)] [] [])
def f66 : Fd := ⟨2, [some 93, some 73], [], b66⟩
/-- Weight.is_nought: 0 self -/
def b67 : DTS := dExpr (dCall 72 [dC (.int 4)] [] [])
def f67 : Fd := ⟨1, [some 93], [], b67⟩
/-- Weight.whole_up: 0 self -/
def b71 : DTS := dExpr (dCall 72 [dC (.int 5)] [] [])
def f71 : Fd := ⟨1, [some 93], [], b71⟩
/-- _law_deck: 0 _law_cell -/
def b1065 : DTS := dRet (dOps (oLst true) [dBin oMul (dVar 0) (dOps oInt [dBin oGe (dVar 0) (dBin oPow (dC (.int 10)) (dC (.int 18)))]), dBin oMod (dVar 0) (dC (.int 2147483587)), dC (.int 0)])
def f1065 : Fd := ⟨1, [none], [], b1065⟩
/-- _law_draw: 0 _law_deck_here, 1 _law_most, 2 _law_got, 3 _law_mixed -/
def b1076 : DTS := dSeq (dIfS (dTst (dBin oGt (dBin oIx (dVar 0) (dC (.int 0))) (dC (.int 0))))
    (dSeq (dAsg (.nm 2) (dBin oMod (dBin oIx (dVar 0) (dC (.int 0))) (dVar 1)))
    (dSeq (dPut (dVar 0) (dC (.int 0)) (dBin oDiv (dBin oIx (dVar 0) (dC (.int 0))) (dVar 1)))
    (dRet (dVar 2))))
    dNext)
    (dSeq (dPut (dVar 0) (dC (.int 2)) (dBin (oAdd false) (dBin oIx (dVar 0) (dC (.int 2))) (dC (.int 1))))
    (dSeq (dAsg (.nm 3) (dBin oMod (dBin oMul (dBin (oAdd false) (dBin (oAdd false) (dBin oIx (dVar 0) (dC (.int 1))) (dBin oMul (dC (.int 104729)) (dBin oIx (dVar 0) (dC (.int 2))))) (dC (.int 17))) (dC (.int 48271))) (dC (.int 2147483647))))
    (dSeq (dAsg (.nm 3) (dBin oMod (dBin (oAdd false) (dBin (oAdd false) (dBin oMul (dVar 3) (dVar 3)) (dBin oMul (dC (.int 69621)) (dVar 3))) (dBin oIx (dVar 0) (dC (.int 2)))) (dC (.int 2147483629))))
    (dRet (dBin oMod (dBin oDiv (dBin oMod (dBin oMul (dVar 3) (dC (.int 39373))) (dC (.int 2147483563))) (dC (.int 8))) (dVar 1))))))
def f1076 : Fd := ⟨4, [none, none], [], b1076⟩
/-- _law_whole: 0 _law_thing -/
def b1331 : DTS := dRet (dAndV (dOps oIsi [dVar 0, dC (.ty 0)]) (dNotV (dOps oIsi [dVar 0, dC (.ty 1)])))
def f1331 : Fd := ⟨1, [none], [], b1331⟩
/-- _law_divides: 0 _law_one, 1 _law_other -/
def b1071 : DTS := dSeq (dPar [0, 1] [dOps oAbs [dVar 0], dOps oAbs [dVar 1]])
    (dSeq (dWhile (dTst (dBin oGt (dVar 1) (dC (.int 0))))
    (dPar [0, 1] [dVar 1, dBin oMod (dVar 0) (dVar 1)]))
    (dRet (dVar 0)))
def f1071 : Fd := ⟨2, [none, none], [], b1071⟩
/-- _law_two: 0 _law_deck_here, 1 _law_way, 2 _law_top, 3 _law_bottom, 4 _law_k -/
def b1318 : DTS := dSeq (dAsg (.nm 1) (dCall 1076 [dVar 0, dC (.int 9)] [] []))
    (dSeq (dIfS (dTst (dEqO et false (dVar 1) (dC (.int 8))))
    (dSeq (dAsg (.tp [.nm 2, .nm 3]) (dComp false [4] (sRange1 (dC (.int 2))) (.nm 4) dYes (dBin (oAdd false) (dBin oMul (dCall 1076 [dVar 0, dBin oPow (dC (.int 10)) (dC (.int 6))] [] []) (dBin oPow (dC (.int 10)) (dC (.int 6)))) (dCall 1076 [dVar 0, dBin oPow (dC (.int 10)) (dC (.int 6))] [] []))))
    (dRet (dOps oTup [dVar 2, dOps oMax [dC (.int 1), dVar 3]])))
    dNext)
    (dSeq (dIfS (dTst (dBin oLt (dVar 1) (dC (.int 3))))
    (dRet (dOps oTup [dCall 1076 [dVar 0, dC (.int 30)] [] [], dC (.int 1)]))
    dNext)
    (dSeq (dIfS (dTst (dBin oLt (dVar 1) (dC (.int 6))))
    (dRet (dOps oTup [dCall 1076 [dVar 0, dC (.int 60)] [] [], dBin (oAdd false) (dC (.int 1)) (dCall 1076 [dVar 0, dC (.int 12)] [] [])]))
    dNext)
    (dSeq (dIfS (dTst (dEqO et false (dVar 1) (dC (.int 6))))
    (dRet (dBin oIx (dOps (oLst false) [dOps oTup [dC (.int 0), dC (.int 1)], dOps oTup [dC (.int 0), dC (.int 7)], dOps oTup [dC (.int 1), dC (.int 1)], dOps oTup [dC (.int 1), dC (.int 2)]]) (dCall 1076 [dVar 0, dC (.int 4)] [] [])))
    dNext)
    (dRet (dOps oTup [dCall 1076 [dVar 0, dBin (oAdd false) (dBin oPow (dC (.int 10)) (dC (.int 6))) (dC (.int 1))] [] [], dBin (oAdd false) (dC (.int 1)) (dCall 1076 [dVar 0, dBin oPow (dC (.int 10)) (dC (.int 6))] [] [])]))))))
def f1318 : Fd := ⟨5, [none], [], b1318⟩
/-- _law_lowest: 0 _law_top, 1 _law_bottom, 2 _law_by -/
def b1157 : DTS := dSeq (dAsg (.nm 2) (dCall 1071 [dVar 0, dVar 1] [] []))
    (dRet (dOps oTup [dBin oDiv (dVar 0) (dVar 2), dBin oDiv (dVar 1) (dVar 2)]))
def f1157 : Fd := ⟨3, [none, none], [], b1157⟩
/-- _law_is: 0 _law_found, 1 _law_top, 2 _law_bottom -/
def b1122 : DTS := dSeq (dIfS (dOr (dNot (dTru (dOps oIsi [dVar 0, dC (.cls 0)]))) (dOr (dNot (dTru (dCall 1331 [dUn (oAttr 111) (dVar 0)] [] []))) (dNot (dTru (dCall 1331 [dUn (oAttr 8) (dVar 0)] [] [])))))
    (dRet (dC (.bl false)))
    dNext)
    (dRet (dEqO et false (dOps oTup [dUn (oAttr 111) (dVar 0), dUn (oAttr 8) (dVar 0)]) (dCall 1157 [dVar 1, dVar 2] [] [])))
def f1122 : Fd := ⟨3, [none, none, none], [], b1122⟩
/-- _law_written: 0 _law_top, 1 _law_bottom -/
def b1337 : DTS := dSeq (dAsg (.tp [.nm 0, .nm 1]) (dCall 1157 [dVar 0, dVar 1] [] []))
    (dSeq (dIfS (dTst (dEqO et false (dVar 1) (dC (.int 1))))
    (dRet (dOpsC (strO st) [dVar 0]))
    dNext)
    (dRet (dBin (oAdd false) (dBin (oAdd false) (dOpsC (strO st) [dVar 0]) (dC (.str [47]))) (dOpsC (strO st) [dVar 1]))))
def f1337 : Fd := ⟨2, [none, none], [], b1337⟩
/-- _law_shown: 0 _law_top, 1 _law_bottom -/
def b1263 : DTS := dSeq (dAsg (.tp [.nm 0, .nm 1]) (dCall 1157 [dVar 0, dVar 1] [] []))
    (dRet (dBin (oAdd false) (dBin (oAdd false) (dBin (oAdd false) (dC (.str [87, 101, 105, 103, 104, 116, 40])) (dOpsC (strO st) [dVar 0])) (dBin oMul (dBin (oAdd false) (dC (.str [44, 32])) (dOpsC (strO st) [dVar 1])) (dOps oInt [dEqO et true (dVar 1) (dC (.int 1))]))) (dC (.str [41]))))
def f1263 : Fd := ⟨2, [none, none], [], b1263⟩
/-- _law_alone_right: 0 _law_one, 1 _law_top, 2 _law_bottom, 3 _law_text, 4 _law_shown_here, 5 _law_turn, 6 _law_others, 7 _law_thing -/
def b1007 : DTS := dSeq (dPar [3, 4] [dCall 1337 [dVar 1, dVar 2] [] [], dCall 1263 [dVar 1, dVar 2] [] []])
    (dSeq (dFor (sRange1 (dC (.int 2))) (.nm 5)
    (dIfS (dOr (dTst (dEqO et true (dOpsC (strO st) [dVar 0]) (dVar 3))) (dOr (dTst (dEqO et true (dOps (oRepr none [0]) [dVar 0]) (dVar 4))) (dTst (dEqO et true (dOps (oRepr none [0]) [dOps oTup [dVar 0, dOps (oLst false) [dVar 0]]]) (dBin (oAdd false) (dBin (oAdd false) (dBin (oAdd false) (dBin (oAdd false) (dC (.str [40])) (dVar 4)) (dC (.str [44, 32, 91]))) (dVar 4)) (dC (.str [93, 41])))))))
    (dRet (dC (.bl false)))
    dNext))
    (dSeq (dAsg (.nm 6) (dOps (oLst false) [dVar 1, dVar 3, dVar 4, dOps oTup [dVar 1, dVar 2], dOps (oLst false) [dVar 0], dOps oTup [dVar 0], dC .non, dC (.bl true), dDct false [(dC (.int 0), dVar 0)], dC (.str []), dC (.int 0), dC (.int 1)]))
    (dSeq (dFor (sOf (dVar 6)) (.nm 7)
    (dIfS (dOr (dTst (dBin (oIs true) (dEqO et false (dVar 0) (dVar 7)) (dC (.bl false)))) (dOr (dTst (dBin (oIs true) (dEqO et false (dVar 7) (dVar 0)) (dC (.bl false)))) (dTst (dBin (oIs true) (dEqO et true (dVar 0) (dVar 7)) (dC (.bl true))))))
    (dRet (dC (.bl false)))
    dNext))
    (dRet (dAndV (dInO et true (dVar 0) (dVar 6)) (dCall 1122 [dVar 0, dVar 1, dVar 2] [] []))))))
def f1007 : Fd := ⟨8, [none, none, none], [], b1007⟩
/-- _law_two_right: 0 _law_one, 1 _law_first, 2 _law_other, 3 _law_second, 4 _law_due, 5 _law_here, 6 _law_there -/
def b1320 : DTS := dSeq (dAsg (.nm 4) (dEqO et false (dCall 1157 [dBin oIx (dVar 1) (dC (.int 0)), dBin oIx (dVar 1) (dC (.int 1))] [] []) (dCall 1157 [dBin oIx (dVar 3) (dC (.int 0)), dBin oIx (dVar 3) (dC (.int 1))] [] [])))
    (dSeq (dFor (sOf (dOps (oLst false) [dOps oTup [dVar 0, dVar 2], dOps oTup [dVar 2, dVar 0]])) (.tp [.nm 5, .nm 6])
    (dIfS (dOr (dTst (dEqO et true (dOps (oRepr none [0]) [dEqO et false (dVar 5) (dVar 6)]) (dOps (oRepr none [0]) [dVar 4]))) (dTst (dEqO et true (dOps (oRepr none [0]) [dEqO et true (dVar 5) (dVar 6)]) (dOps (oRepr none [0]) [dNotV (dVar 4)]))))
    (dRet (dC (.bl false)))
    dNext))
    (dSeq (dIfS (dOr (dTst (dEqO et true (dOps (oRepr none [0]) [dInO et false (dVar 0) (dOps (oLst false) [dC .non, dVar 2, dC (.int 5)])]) (dOps (oRepr none [0]) [dVar 4]))) (dTst (dEqO et true (dOps (oRepr none [0]) [dEqO et false (dOps oTup [dVar 0, dC (.int 1)]) (dOps oTup [dVar 2, dC (.int 1)])]) (dOps (oRepr none [0]) [dVar 4]))))
    (dRet (dC (.bl false)))
    dNext)
    (dRet (dEqO et false (dCntO et (dOps (oLst false) [dVar 2, dVar 2, dC (.int 1)]) (dVar 0)) (dBin oMul (dC (.int 2)) (dOps oInt [dVar 4]))))))
def f1320 : Fd := ⟨7, [none, none, none, none], [], b1320⟩
/-- law: 0 _law_script, 1 _law_cell, 2 _law_deck_here, 3 _law_some, 4 _law_k, 5 _law_top, 6 _law_bottom, 7 _law_by, 8 _law_made, 9 _law_j -/
def b136 : DTS := dSeq (dFor (sOf (dBin (oAdd false) (dSl false (dVar 0) none (some (dC (.int 10)))) (dOps (oLst false) [dC (.int 3)]))) (.nm 1)
    (dSeq (dAsg (.nm 2) (dCall 1065 [dVar 1] [] []))
    (dSeq (dAsg (.nm 3) (dOps (oLst false) []))
    (dSeq (dFor (sRange1 (dC (.int 6))) (.nm 4)
    (dSeq (dAsg (.tp [.nm 5, .nm 6]) (dCall 1318 [dVar 2] [] []))
    (dSeq (dAsg (.nm 7) (dBin (oAdd false) (dC (.int 2)) (dCall 1076 [dVar 2, dC (.int 9)] [] [])))
    (dAsg (.nm 3) (dBin (oAdd false) (dVar 3) (dOps (oLst false) [dOps oTup [dVar 5, dVar 6], dOps oTup [dBin oMul (dVar 5) (dVar 7), dBin oMul (dVar 6) (dVar 7)], dOps oTup [dBin (oAdd false) (dVar 5) (dC (.int 1)), dVar 6], dOps oTup [dVar 5, dBin (oAdd false) (dVar 6) (dC (.int 1))]]))))))
    (dSeq (dAsg (.nm 8) (dComp false [5, 6] (sOf (dVar 3)) (.tp [.nm 5, .nm 6]) dYes (dMake 0 63 true [dVar 5, dVar 6] [] [])))
    (dFor (sEnum (dVar 3)) (.tp [.nm 4, .tp [.nm 5, .nm 6]])
    (dSeq (dIfS (dNot (dTru (dCall 1007 [dBin oIx (dVar 8) (dVar 4), dVar 5, dVar 6] [] [])))
    (dRet (dC (.bl false)))
    dNext)
    (dFor (sRange1 (dBin (oAdd false) (dVar 4) (dC (.int 1)))) (.nm 9)
    (dIfS (dNot (dTru (dCall 1320 [dBin oIx (dVar 8) (dVar 4), dBin oIx (dVar 3) (dVar 4), dBin oIx (dVar 8) (dVar 9), dBin oIx (dVar 3) (dVar 9)] [] [])))
    (dRet (dC (.bl false)))
    dNext)))))))))
    (dRet (dC (.bl true)))
def f136 : Fd := ⟨10, [some 1], [], b136⟩
/-! their records -/
def r72 : Df := ⟨72, d72, (defArgs (top 0)).args, (defArgs (top 0)).defaults, ["k"], f72⟩
def r133 : Df := ⟨133, d133, (defArgs (top 7)).args, (defArgs (top 7)).defaults, ["thing"], f133⟩
def r89 : Df := ⟨89, d89, (defArgs (top 9)).args, (defArgs (top 9)).defaults, ["one", "other"], f89⟩
def r63 : Df := ⟨63, d63, (defArgs (inClass (top 10) 0)).args, (defArgs (inClass (top 10) 0)).defaults, ["self", "top", "bottom", "by"], f63⟩
def r62 : Df := ⟨62, d62, (defArgs (inClass (top 10) 1)).args, (defArgs (inClass (top 10) 1)).defaults, ["self", "other"], f62⟩
def r65 : Df := ⟨65, d65, (defArgs (inClass (top 10) 2)).args, (defArgs (inClass (top 10) 2)).defaults, ["self"], f65⟩
def r64 : Df := ⟨64, d64, (defArgs (inClass (top 10) 3)).args, (defArgs (inClass (top 10) 3)).defaults, ["self"], f64⟩
def r69 : Df := ⟨69, d69, (defArgs (inClass (top 10) 4)).args, (defArgs (inClass (top 10) 4)).defaults, ["self", "other"], f69⟩
def r68 : Df := ⟨68, d68, (defArgs (inClass (top 10) 5)).args, (defArgs (inClass (top 10) 5)).defaults, ["self", "other"], f68⟩
def r70 : Df := ⟨70, d70, (defArgs (inClass (top 10) 6)).args, (defArgs (inClass (top 10) 6)).defaults, ["self", "top", "bottom"], f70⟩
def r66 : Df := ⟨66, d66, (defArgs (inClass (top 10) 7)).args, (defArgs (inClass (top 10) 7)).defaults, ["self", "other"], f66⟩
def r67 : Df := ⟨67, d67, (defArgs (inClass (top 10) 8)).args, (defArgs (inClass (top 10) 8)).defaults, ["self"], f67⟩
def r71 : Df := ⟨71, d71, (defArgs (inClass (top 10) 9)).args, (defArgs (inClass (top 10) 9)).defaults, ["self"], f71⟩
def r1065 : Df := ⟨1065, d1065, (defArgs (top 12)).args, (defArgs (top 12)).defaults, ["_law_cell"], f1065⟩
def r1076 : Df := ⟨1076, d1076, (defArgs (top 13)).args, (defArgs (top 13)).defaults, ["_law_deck_here", "_law_most", "_law_got", "_law_mixed"], f1076⟩
def r1331 : Df := ⟨1331, d1331, (defArgs (top 14)).args, (defArgs (top 14)).defaults, ["_law_thing"], f1331⟩
def r1071 : Df := ⟨1071, d1071, (defArgs (top 15)).args, (defArgs (top 15)).defaults, ["_law_one", "_law_other"], f1071⟩
def r1318 : Df := ⟨1318, d1318, (defArgs (top 16)).args, (defArgs (top 16)).defaults, ["_law_deck_here", "_law_way", "_law_top", "_law_bottom", "_law_k"], f1318⟩
def r1157 : Df := ⟨1157, d1157, (defArgs (top 17)).args, (defArgs (top 17)).defaults, ["_law_top", "_law_bottom", "_law_by"], f1157⟩
def r1122 : Df := ⟨1122, d1122, (defArgs (top 18)).args, (defArgs (top 18)).defaults, ["_law_found", "_law_top", "_law_bottom"], f1122⟩
def r1337 : Df := ⟨1337, d1337, (defArgs (top 19)).args, (defArgs (top 19)).defaults, ["_law_top", "_law_bottom"], f1337⟩
def r1263 : Df := ⟨1263, d1263, (defArgs (top 20)).args, (defArgs (top 20)).defaults, ["_law_top", "_law_bottom"], f1263⟩
def r1007 : Df := ⟨1007, d1007, (defArgs (top 21)).args, (defArgs (top 21)).defaults, ["_law_one", "_law_top", "_law_bottom", "_law_text", "_law_shown_here", "_law_turn", "_law_others", "_law_thing"], f1007⟩
def r1320 : Df := ⟨1320, d1320, (defArgs (top 22)).args, (defArgs (top 22)).defaults, ["_law_one", "_law_first", "_law_other", "_law_second", "_law_due", "_law_here", "_law_there"], f1320⟩
def r136 : Df := ⟨136, d136, (defArgs (top 23)).args, (defArgs (top 23)).defaults, ["_law_script", "_law_cell", "_law_deck_here", "_law_some", "_law_k", "_law_top", "_law_bottom", "_law_by", "_law_made", "_law_j"], f136⟩
def fn : List He.DefD := [d72, d133, d89, d63, d62, d65, d64, d69, d68, d70, d66, d67, d71, d1065, d1076, d1331, d1071, d1318, d1157, d1122, d1337, d1263, d1007, d1320, d136]
def tbl : Nat → Option Fd
  | 72 => some f72
  | 133 => some f133
  | 89 => some f89
  | 63 => some f63
  | 62 => some f62
  | 65 => some f65
  | 64 => some f64
  | 69 => some f69
  | 68 => some f68
  | 70 => some f70
  | 66 => some f66
  | 67 => some f67
  | 71 => some f71
  | 1065 => some f1065
  | 1076 => some f1076
  | 1331 => some f1331
  | 1071 => some f1071
  | 1318 => some f1318
  | 1157 => some f1157
  | 1122 => some f1122
  | 1337 => some f1337
  | 1263 => some f1263
  | 1007 => some f1007
  | 1320 => some f1320
  | 136 => some f136
  | _ => none
theorem ok72 : DfOk lw lw.sig r72 60 60 := ⟨by kernel_rfl, by kernel_rfl, by kernel_rfl, by kernel_rfl, by kernel_rfl, by decide, by kernel_rfl, by kernel_rfl⟩
theorem ok133 : DfOk lw lw.sig r133 60 60 := ⟨by kernel_rfl, by kernel_rfl, by kernel_rfl, by kernel_rfl, by kernel_rfl, by decide, by kernel_rfl, by kernel_rfl⟩
theorem ok89 : DfOk lw lw.sig r89 60 60 := ⟨by kernel_rfl, by kernel_rfl, by kernel_rfl, by kernel_rfl, by kernel_rfl, by decide, by kernel_rfl, by kernel_rfl⟩
theorem ok63 : DfOk lw lw.sig r63 60 60 := ⟨by kernel_rfl, by kernel_rfl, by kernel_rfl, by kernel_rfl, by kernel_rfl, by decide, by kernel_rfl, by kernel_rfl⟩
theorem ok62 : DfOk lw lw.sig r62 60 60 := ⟨by kernel_rfl, by kernel_rfl, by kernel_rfl, by kernel_rfl, by kernel_rfl, by decide, by kernel_rfl, by kernel_rfl⟩
theorem ok65 : DfOk lw lw.sig r65 60 60 := ⟨by kernel_rfl, by kernel_rfl, by kernel_rfl, by kernel_rfl, by kernel_rfl, by decide, by kernel_rfl, by kernel_rfl⟩
theorem ok64 : DfOk lw lw.sig r64 60 60 := ⟨by kernel_rfl, by kernel_rfl, by kernel_rfl, by kernel_rfl, by kernel_rfl, by decide, by kernel_rfl, by kernel_rfl⟩
theorem ok69 : DfOk lw lw.sig r69 60 60 := ⟨by kernel_rfl, by kernel_rfl, by kernel_rfl, by kernel_rfl, by kernel_rfl, by decide, by kernel_rfl, by kernel_rfl⟩
theorem ok68 : DfOk lw lw.sig r68 60 60 := ⟨by kernel_rfl, by kernel_rfl, by kernel_rfl, by kernel_rfl, by kernel_rfl, by decide, by kernel_rfl, by kernel_rfl⟩
theorem ok70 : DfOk lw lw.sig r70 60 60 := ⟨by kernel_rfl, by kernel_rfl, by kernel_rfl, by kernel_rfl, by kernel_rfl, by decide, by kernel_rfl, by kernel_rfl⟩
theorem ok66 : DfOk lw lw.sig r66 60 60 := ⟨by kernel_rfl, by kernel_rfl, by kernel_rfl, by kernel_rfl, by kernel_rfl, by decide, by kernel_rfl, by kernel_rfl⟩
theorem ok67 : DfOk lw lw.sig r67 60 60 := ⟨by kernel_rfl, by kernel_rfl, by kernel_rfl, by kernel_rfl, by kernel_rfl, by decide, by kernel_rfl, by kernel_rfl⟩
theorem ok71 : DfOk lw lw.sig r71 60 60 := ⟨by kernel_rfl, by kernel_rfl, by kernel_rfl, by kernel_rfl, by kernel_rfl, by decide, by kernel_rfl, by kernel_rfl⟩
theorem ok1065 : DfOk lw lw.sig r1065 60 60 := ⟨by kernel_rfl, by kernel_rfl, by kernel_rfl, by kernel_rfl, by kernel_rfl, by decide, by kernel_rfl, by kernel_rfl⟩
theorem ok1076 : DfOk lw lw.sig r1076 60 60 := ⟨by kernel_rfl, by kernel_rfl, by kernel_rfl, by kernel_rfl, by kernel_rfl, by decide, by kernel_rfl, by kernel_rfl⟩
theorem ok1331 : DfOk lw lw.sig r1331 60 60 := ⟨by kernel_rfl, by kernel_rfl, by kernel_rfl, by kernel_rfl, by kernel_rfl, by decide, by kernel_rfl, by kernel_rfl⟩
theorem ok1071 : DfOk lw lw.sig r1071 60 60 := ⟨by kernel_rfl, by kernel_rfl, by kernel_rfl, by kernel_rfl, by kernel_rfl, by decide, by kernel_rfl, by kernel_rfl⟩
theorem ok1318 : DfOk lw lw.sig r1318 60 60 := ⟨by kernel_rfl, by kernel_rfl, by kernel_rfl, by kernel_rfl, by kernel_rfl, by decide, by kernel_rfl, by kernel_rfl⟩
theorem ok1157 : DfOk lw lw.sig r1157 60 60 := ⟨by kernel_rfl, by kernel_rfl, by kernel_rfl, by kernel_rfl, by kernel_rfl, by decide, by kernel_rfl, by kernel_rfl⟩
theorem ok1122 : DfOk lw lw.sig r1122 60 60 := ⟨by kernel_rfl, by kernel_rfl, by kernel_rfl, by kernel_rfl, by kernel_rfl, by decide, by kernel_rfl, by kernel_rfl⟩
theorem ok1337 : DfOk lw lw.sig r1337 60 60 := ⟨by kernel_rfl, by kernel_rfl, by kernel_rfl, by kernel_rfl, by kernel_rfl, by decide, by kernel_rfl, by kernel_rfl⟩
theorem ok1263 : DfOk lw lw.sig r1263 60 60 := ⟨by kernel_rfl, by kernel_rfl, by kernel_rfl, by kernel_rfl, by kernel_rfl, by decide, by kernel_rfl, by kernel_rfl⟩
theorem ok1007 : DfOk lw lw.sig r1007 60 60 := ⟨by kernel_rfl, by kernel_rfl, by kernel_rfl, by kernel_rfl, by kernel_rfl, by decide, by kernel_rfl, by kernel_rfl⟩
theorem ok1320 : DfOk lw lw.sig r1320 60 60 := ⟨by kernel_rfl, by kernel_rfl, by kernel_rfl, by kernel_rfl, by kernel_rfl, by decide, by kernel_rfl, by kernel_rfl⟩
theorem ok136 : DfOk lw lw.sig r136 60 60 := ⟨by kernel_rfl, by kernel_rfl, by kernel_rfl, by kernel_rfl, by kernel_rfl, by decide, by kernel_rfl, by kernel_rfl⟩
theorem tbl_ok : ∀ f F, tbl f = some F → ∃ r : Df, r.id = f ∧ r.F = F ∧ r.d ∈ fn ∧ DfOk lw lw.sig r 60 60 := by
  intro f F h
  unfold tbl at h
  split at h
  · cases h; exact ⟨r72, rfl, rfl, by simp [fn, r72], ok72⟩
  · cases h; exact ⟨r133, rfl, rfl, by simp [fn, r133], ok133⟩
  · cases h; exact ⟨r89, rfl, rfl, by simp [fn, r89], ok89⟩
  · cases h; exact ⟨r63, rfl, rfl, by simp [fn, r63], ok63⟩
  · cases h; exact ⟨r62, rfl, rfl, by simp [fn, r62], ok62⟩
  · cases h; exact ⟨r65, rfl, rfl, by simp [fn, r65], ok65⟩
  · cases h; exact ⟨r64, rfl, rfl, by simp [fn, r64], ok64⟩
  · cases h; exact ⟨r69, rfl, rfl, by simp [fn, r69], ok69⟩
  · cases h; exact ⟨r68, rfl, rfl, by simp [fn, r68], ok68⟩
  · cases h; exact ⟨r70, rfl, rfl, by simp [fn, r70], ok70⟩
  · cases h; exact ⟨r66, rfl, rfl, by simp [fn, r66], ok66⟩
  · cases h; exact ⟨r67, rfl, rfl, by simp [fn, r67], ok67⟩
  · cases h; exact ⟨r71, rfl, rfl, by simp [fn, r71], ok71⟩
  · cases h; exact ⟨r1065, rfl, rfl, by simp [fn, r1065], ok1065⟩
  · cases h; exact ⟨r1076, rfl, rfl, by simp [fn, r1076], ok1076⟩
  · cases h; exact ⟨r1331, rfl, rfl, by simp [fn, r1331], ok1331⟩
  · cases h; exact ⟨r1071, rfl, rfl, by simp [fn, r1071], ok1071⟩
  · cases h; exact ⟨r1318, rfl, rfl, by simp [fn, r1318], ok1318⟩
  · cases h; exact ⟨r1157, rfl, rfl, by simp [fn, r1157], ok1157⟩
  · cases h; exact ⟨r1122, rfl, rfl, by simp [fn, r1122], ok1122⟩
  · cases h; exact ⟨r1337, rfl, rfl, by simp [fn, r1337], ok1337⟩
  · cases h; exact ⟨r1263, rfl, rfl, by simp [fn, r1263], ok1263⟩
  · cases h; exact ⟨r1007, rfl, rfl, by simp [fn, r1007], ok1007⟩
  · cases h; exact ⟨r1320, rfl, rfl, by simp [fn, r1320], ok1320⟩
  · cases h; exact ⟨r136, rfl, rfl, by simp [fn, r136], ok136⟩
  · cases h
def rr0 : Df := { r64 with F := rf rbW }
theorem rk0 : DfOk lw (lw.sigR 0) rr0 60 60 := ⟨by kernel_rfl, by kernel_rfl, by kernel_rfl, by kernel_rfl, by kernel_rfl, by decide, by kernel_rfl, by kernel_rfl⟩
theorem wle : ∀ c, memN c lw.w = true → c < 3 := by
  intro c h
  have e : memN c lw.w = true := h
  simp [memN, lw, List.any_cons, List.any_nil] at e
  omega
theorem rpok : RpOk lw fn 60 60 := ⟨fun _ => ⟨rr0, rfl, rfl, by simp [fn, rr0, r64], rk0⟩, (fun h => by cases h), (fun h => by cases h), wle⟩
theorem hotok : HotsOk lw fn tbl 60 60 := fun f h => by cases h
theorem rzok : ∀ q ∈ lw.rzD, q.2.2 ∈ fn := fun q hq => by cases hq
abbrev R : PySem.W.OpenRow := PySem.W.OpenLaw.row PySem.Challenge.rw_casknotes_k04_weights_by_their_words
abbrev hk : PySem.W.Hook := hookC 5 lw fn
def ob (s : PySem.W.SharedT) : AlC := obsCG 5 lw fn (HandSHeadRun.getT s)
theorem ob_eq (s : PySem.W.SharedT) : ob s = hk.obs s.abs := obsCG_eq (HandSHeadRun.getT_eq s)
def loose0 : List PySem.Str := ["_wall", "__name__", "CaskError", "Wrong", "NoWeight", "NoWhole", "is_whole", "divisor_of", "Weight", "_law_deck", "_law_draw", "_law_whole", "_law_divides", "_law_two", "_law_lowest", "_law_is", "_law_written", "_law_shown", "_law_alone_right", "_law_two_right"]
def loose : List PySem.Str := loose0
theorem run (w : PySem.World) : HandSHeadRun.RunEq R (PySem.W.view R.prog [23]) hk ob 20000 loose w := by
  intro os
  kernel_rfl
end Law

namespace Law
open PySem PySem.Spec PyProof.Rows L2 Cn
local macro_rules
  | `(tactic| simp? [$xs,*]) => `(tactic| simp (config := {implicitDefEqProofs := false}) only [↓ev_trk, ↓ev_dn, ↓ev_fl, ↓ev_cp, ↓ev_wl, ↓ev_seq, ↓ev_ifS, ↓ev_ret, ↓ev_retN, ↓ev_next, ↓ev_brk, ↓ev_cnt, ↓ev_expr, ↓ev_asg, ↓ev_unm, ↓ev_utpt, ↓ev_utpl, ↓ev_utpa, ↓ev_nm, ↓ev_tpt, ↓ev_tpl, ↓ev_ts0, ↓ev_ts1, ↓ev_par, ↓ev_put, ↓ev_fld, ↓ev_aug, ↓ev_for, ↓ev_sOf, ↓ev_sR1, ↓ev_sR2, ↓ev_var, ↓ev_c, ↓ev_gv0, ↓ev_gvs, ↓ev_bin, ↓ev_un, ↓ev_ops, ↓ev_args0, ↓ev_args1, ↓ev_call, ↓ev_callk, ↓ev_make, ↓ev_makef, ↓ev_meth, ↓ev_mins, ↓ev_mi, ↓ev_append, ↓ev_tru, ↓ev_tst, ↓ev_not, ↓ev_and, ↓ev_or, ↓ev_yes, ↓ev_andV, ↓ev_orV, ↓ev_notV, ↓ev_ife, ↓ev_chain, ↓ev_comp, ↓ev_add, ↓ev_addt, ↓ev_adds, ↓ev_addl, ↓ev_iadd, ↓ev_isub, ↓ev_sub, ↓ev_mul, ↓ev_div, ↓ev_mod, ↓ev_pow, ↓ev_ltt, ↓ev_let, ↓ev_lts, ↓ev_gt, ↓ev_lt, ↓ev_ge, ↓ev_le, ↓ev_eq, ↓ev_ne, ↓ev_eqs, ↓ev_nes, ↓ev_isn, ↓ev_isnn, ↓ev_isb, ↓ev_isnb, ↓ev_tup, ↓ev_lstm, ↓ev_lstf, ↓ev_intb, ↓ev_abs, ↓ev_max, ↓ev_min, ↓ev_lent, ↓ev_lenl, ↓ev_lens, ↓ev_lena, ↓ev_ixt, ↓ev_ixl, ↓ev_ixa, ↓ev_put1, ↓ev_tpa, ↓ev_tpl1, ↓ev_tpt1, ↓ev_reva, ↓ev_revt, ↓ev_revl, ↓ev_rt, ↓ev_nx, ↓ev_reprb, ↓ev_reprk, ↓ev_cp0, ↓ev_cp1, ↓ev_wipe0, ↓ev_wipe1, ↓ev_yesg, ↓ev_sl, ↓ev_ptn, ↓ev_pts, ↓ev_sll, ↓ev_slt, ↓ev_sls, ↓ev_sla, ↓ev_slm, ↓ev_top, ↓ev_bot, ↓ev_isi, ↓ev_isii, ↓ev_isib, ↓ev_isss, ↓ev_istt, ↓ev_ixs, ↓ev_ins, ↓ev_mjoin, ↓ev_sortK, ↓ev_sorted, ↓ev_ntn, ↓ev_ntw, ↓ev_ntg, ↓ev_ntb, ↓ev_listt, ↓ev_lista, ↓ev_eqo, ↓ev_eqkn, ↓ev_eqkb, ↓ev_eqki, ↓ev_eqks, ↓ev_eqkt, ↓ev_eqkl, ↓ev_eqqnn, ↓ev_eqqnb, ↓ev_eqqni, ↓ev_eqqns, ↓ev_eqqbn, ↓ev_eqqbb, ↓ev_eqqbi, ↓ev_eqqbs, ↓ev_eqqin, ↓ev_eqqib, ↓ev_eqqii, ↓ev_eqqis, ↓ev_eqqsn, ↓ev_eqqsb, ↓ev_eqqsi, ↓ev_eqqss, ↓ev_ino, ↓ev_inqs, ↓ev_cnto, ↓ev_isls, ↓ev_neg, ↓ev_muls, ↓ev_mull, ↓ev_zip, ↓ev_enum, ↓ev_makek, ↓ev_methk, ↓ev_minsk, ↓ev_mik, ↓ev_mlstrip, ↓ev_lstrip, ↓ev_ckm, ↓ev_cks, ↓ev_ckp, ↓ev_truO, ↓ev_notVO, ↓ev_trTi, ↓ev_trTc, ↓ev_trTn, ↓ev_trTb, ↓ev_trTz, ↓ev_trTt, ↓ev_trTl, ↓ev_opsC, ↓ev_strOi, ↓ev_strOc, ↓ev_strOz, ↓ev_lenOi, ↓ev_lenOc, ↓ev_lenOt, ↓ev_lenOl, ↓ev_lenOs, ↓ev_lenOa, ↓ev_bolOi, ↓ev_bolOc, ↓ev_fmtO, ↓ev_fmTi, ↓ev_fmTw, ↓ev_fmTc, ↓ev_fmTs, ↓ev_fmTz, ↓ev_join, ↓ev_jn0, ↓ev_jn1, ↓ev_jnT, ↓ev_raise, ↓ev_try, ↓ev_hand0, ↓ev_hand1, ↓ev_inS0, ↓ev_inS1, ↓ev_unS0, ↓ev_unS1, ↓ev_suf, ↓ev_isix, ↓ev_dct0, ↓ev_dct1, ↓ev_isKi, ↓ev_isKs, ↓ev_msplit, ↓ev_split, ↓ev_mupper, ↓ev_upper, ↓ev_ints, ↓ev_revs, ↓ev_rpi, ↓ev_rz018, ↓ev_nin, ↓ev_inds, ↓ev_ninds, ↓ev_ixds, ↓ev_callv, ↓ev_fnk, ↓ev_mindex, ↓ev_inth, ↓ev_addbi, ↓ev_subbi, ↓ev_subib, ↓ev_absb, ↓ev_strb, ↓ev_stri, ↓ev_eqbi, ↓ev_eqE, ↓br_t, ↓br_f, ↓onL_at, ↓onI0, ↓onI1, ↓onI2, ↓onI3, ↓onI4, ↓onI5, ↓putL0, ↓putL1, ↓putL2, ↓tr_non, ↓tr_bl, ↓tr_int, ↓tr_tup, ↓tr_lst, List.set_cons_zero, List.set_cons_succ, decide_true, decide_false, Bool.not_true, Bool.not_false, Int.reduceLE, Int.reduceLT, Int.reducePow, Int.reduceToNat, Nat.reducePow, Nat.reduceLT, Int.reduceAbs, true_and, eq_self, ↓reduceIte, Nat.reduceBEq, beq_self_eq_true, Bool.false_eq_true, mi_0_0, mi_0_81, mi_0_51, mi_0_108, mi_0_40, mi_0_41, mi_0_122, $xs,*])
/-! ## the deck -/
def IsDk (g : G) (a : Addr) : Prop := ∃ x y z : Int, g a = some (.lst [.int x, .int y, .int z])
theorem IsDk.fr {a b : Addr} {g g' : G} (h : IsDk g a) (f : Fr b g g') (n : a ≠ b) : IsDk g' a := by
  obtain ⟨x, y, z, e⟩ := h
  exact ⟨x, y, z, f.at_ n e⟩
theorem IsDk.set {a : Addr} {g : G} {x y z : Int} : IsDk (gset g a (.lst [.int x, .int y, .int z])) a := ⟨x, y, z, gset_at _ _⟩
theorem IsDk.new {a b : Addr} {g : G} {o : GO} (h : IsDk g a) (n : g b = none) : IsDk (gset g b o) a := by
  obtain ⟨x, y, z, e⟩ := h
  exact ⟨x, y, z, (gset_ne (fun q => by rw [q, n] at e; cases e)).trans e⟩
theorem IsDk.ne {a b : Addr} {g : G} (h : IsDk g a) (n : g b = none) : b ≠ a := by
  obtain ⟨x, y, z, e⟩ := h
  exact ne_none e n
theorem draw_aux {g : G} {a : Addr} {y z m : Int} {Q : QT} (hm : 0 < m) (q : ∀ (r : Nat) g', (r : Int) < m → IsDk g' a → Fr a g g' → Q (.int r) g') (x u : Int) (h1 : 0 ≤ u) (h2 : u < 2147483647) :
    IntMulOk 104729 (z + 1) ∧
    IntMulOk (y + 104729 * (z + 1) + 17) 48271 ∧
        IntMulOk u u ∧
          IntMulOk 69621 u ∧
              IntMulOk ((u * u + 69621 * u + (z + 1)) % 2147483629) 39373 ∧
                  Nat.log2 8 < 9000 ∧
                    0 < m ∧
                      Q (D.int ((u * u + 69621 * u + (z + 1)) % 2147483629 * 39373 % 2147483563 / 8 % m))
                        (gset g a (GO.lst [D.int x, D.int y, D.int (z + 1)])) := by
  refine ⟨mul_okL (by omega), mul_okR (by omega), mul_okL (by omega), mul_okL (by omega), mul_okR (by omega), by decide +kernel, hm, ?_⟩
  obtain ⟨r, hr⟩ := Int.eq_ofNat_of_zero_le (Int.emod_nonneg ((u * u + 69621 * u + (z + 1)) % 2147483629 * 39373 % 2147483563 / 8) (Int.ne_of_gt hm))
  rw [hr]
  exact q r _ (by rw [← hr]; exact Int.emod_lt_of_pos _ hm) IsDk.set Fr.set
/-- what a draw leaves -/
theorem draw_ok {n : Nat} {g : G} {a : Addr} {m : Int} {Q : QT} {E : ET} (hd : IsDk g a) (hm : 0 < m) (hml : m.natAbs.log2 < 9000)
    (q : ∀ (r : Nat) g', (r : Int) < m → IsDk g' a → Fr a g g' → Q (.int r) g') :
    den tbl (n + 1) 1076 [.adr a, .int m] [] g Q E := by
  obtain ⟨x, y, z, h⟩ := hd
  refine den_atB (N := 4) (ps := [none, none]) (df := []) (b := b1076) (ρ := [some (.adr a), some (.int m), none, none]) (by kernel_rfl) (by rfl) (by rfl) ?_
  unfold b1076
  simp? [onL_eq h]
  refine br_of (fun h0 => ?_) (fun h0 => ?_)
  · simp? [onL_eq h]
    obtain ⟨r, hr⟩ := Int.eq_ofNat_of_zero_le (Int.emod_nonneg x (Int.ne_of_gt hm))
    rw [hr]
    exact ⟨hm, ⟨hm, hml⟩, q r _ (by rw [← hr]; exact Int.emod_lt_of_pos _ hm) IsDk.set Fr.set⟩
  · simp? [onL_eq h]
    exact draw_aux hm q x _ (Int.emod_nonneg _ (by omega)) (Int.emod_lt_of_pos _ (by omega))
theorem deck_ok {n : Nat} {g : G} {c : Int} {Q : QT} {E : ET} (q : ∀ a g', g a = none → IsDk g' a → Fr a g g' → Q (.adr a) g') : den tbl (n + 1) 1065 [.int c] [] g Q E := by
  refine den_atB (N := 1) (ps := [none]) (df := []) (b := b1065) (ρ := [some (.int c)]) (by kernel_rfl) (by rfl) (by rfl) ?_
  unfold b1065
  simp? [true_and]
  refine ⟨mul_okR (by split <;> omega), sz_le (by simp), fun a ha => q a _ ha IsDk.set Fr.set⟩
/-! ## whole numbers -/
theorem whole_eq {n : Nat} {g : G} {i : Int} {Q : QT} {E : ET} : dn tbl (n + 1) 133 [.int i] [] g (⟨⟩ : Tk Q) (⟨⟩ : Tk E) = Q (.bl true) g := by
  kernel_rfl
theorem lwhole_eq {n : Nat} {g : G} {i : Int} {Q : QT} {E : ET} : dn tbl (n + 1) 1331 [.int i] [] g (⟨⟩ : Tk Q) (⟨⟩ : Tk E) = Q (.bl true) g := by
  kernel_rfl
theorem gcd_loop {C : Cal} {g : G} {DD : DE} : ∀ (m : Nat) (a b : Nat), b < m → (DD.nx [some (.int (Nat.gcd a b)), some (.int 0)] g) → dWhN (dTst (dEqO et true (dVar 1) (dC (.int 0)))) (dPar [0, 1] [dVar 1, dBin oMod (dVar 0) (dVar 1)]) m C [some (.int a), some (.int b)] g DD
  | 0, a, b, h, q => by omega
  | m + 1, a, b, h, q => by
    unfold dWhN
    by_cases hb : b = 0
    · subst hb
      rw [Nat.gcd_zero_right] at q
      refine ⟨rfl, ?_⟩
      exact q
    · have e : (((b : Int) == 0)) = false := by simp; omega
      refine ⟨rfl, ?_⟩
      have e2 : eqD (.int b) (.int 0) = false := e
      simp only [e2, if_true, Bool.not_false]
      show 0 < (b : Int) ∧ _
      refine ⟨by omega, ?_⟩
      have em : ((a : Int) % (b : Int)) = ((a % b : Nat) : Int) := by simp
      simp only [dArgs, List.map_cons, List.map_nil, asgTs, asgT, List.set_cons_zero, List.set_cons_succ, true_and, em]
      exact gcd_loop m b (a % b) (by have := Nat.mod_lt a (Nat.pos_of_ne_zero hb); omega) (by rw [Nat.gcd_comm a b, Nat.gcd_rec b a, Nat.gcd_comm] at q; exact q)
theorem divisor_ok {n : Nat} {g : G} {a b : Nat} {Q : QT} {E : ET} (q : Q (.int (Nat.gcd a b)) g) : den tbl (n + 1) 89 [.int a, .int b] [] g Q E := by
  refine den_atB (N := 2) (ps := [some 72, some 73]) (df := []) (b := b89) (ρ := [some (.int a), some (.int b)]) (by kernel_rfl) (by rfl) (by rfl) ?_
  unfold b89
  refine ⟨b + 1, gcd_loop (b + 1) a b (by omega) q⟩
theorem gcd_loop2 {C : Cal} {g : G} {DD : DE} : ∀ (m : Nat) (a b : Nat), b < m → (DD.nx [some (.int (Nat.gcd a b)), some (.int 0)] g) → dWhN (dTst (dBin oGt (dVar 1) (dC (.int 0)))) (dPar [0, 1] [dVar 1, dBin oMod (dVar 0) (dVar 1)]) m C [some (.int a), some (.int b)] g DD
  | 0, a, b, h, q => by omega
  | m + 1, a, b, h, q => by
    unfold dWhN
    simp? [true_and]
    by_cases hb : b = 0
    · subst hb
      rw [Nat.gcd_zero_right] at q
      have e : decide ((0 : Int) < ((0 : Nat) : Int)) = false := by decide
      simp only [e, if_false, Bool.false_eq_true]
      exact q
    · have e : decide ((0 : Int) < (b : Int)) = true := by simp; omega
      simp only [e, if_true]
      have em : ((a : Int) % (b : Int)) = ((a % b : Nat) : Int) := by simp
      simp? [List.map_cons, List.map_nil, em]
      refine ⟨by omega, ?_⟩
      exact gcd_loop2 m b (a % b) (by have := Nat.mod_lt a (Nat.pos_of_ne_zero hb); omega) (by rw [Nat.gcd_comm a b, Nat.gcd_rec b a, Nat.gcd_comm] at q; exact q)
theorem divides_ok {n : Nat} {g : G} {a b : Nat} {Q : QT} {E : ET} (q : Q (.int (Nat.gcd a b)) g) : den tbl (n + 1) 1071 [.int a, .int b] [] g Q E := by
  refine den_atB (N := 2) (ps := [none, none]) (df := []) (b := b1071) (ρ := [some (.int a), some (.int b)]) (by kernel_rfl) (by rfl) (by rfl) ?_
  unfold b1071
  have h1 : ¬ ((a : Int) < 0) := by omega
  have h2 : ¬ ((b : Int) < 0) := by omega
  simp? [List.map_cons, List.map_nil, h1, h2, if_false]
  exact ⟨b + 1, gcd_loop2 (b + 1) a b (by omega) q⟩
/-! ## Weights -/
theorem gcd_sz {a b : Nat} (hb : 0 < b) (h : Sz b) : Sz (Nat.gcd a b) := Nat.lt_of_le_of_lt (Nat.gcd_le_right _ hb) h
theorem init_ok {n : Nat} {g : G} {p : Addr} {a b : Nat} {Q : QT} {E : ET} (hb : 0 < b) (hs : Sz b) (hg : g p = some (.ins 0 []))
    (q : Q .non (gset g p (.ins 0 [(111, .int ((a / Nat.gcd a b : Nat))), (8, .int ((b / Nat.gcd a b : Nat)))]))) : den tbl (n + 2) 63 [.adr p, .int a, .int b] [] g Q E := by
  refine den_atB (N := 4) (ps := [some 93, some 111, some 8]) (df := [(.int 1)]) (b := b63) (ρ := [some (.adr p), some (.int a), some (.int b), none]) (by kernel_rfl) (by rfl) (by rfl) ?_
  unfold b63
  have h1 : decide ((b : Int) = 0) = false := by simp; omega
  have h2 : decide ((b : Int) < 1) = false := by simp; omega
  have h3 : decide ((a : Int) < 0) = false := by simp
  simp? [whole_eq, h1, h2, h3]
  refine divisor_ok ?_
  have e4 : 0 < ((Nat.gcd a b : Nat) : Int) := by have := Nat.gcd_pos_of_pos_right a hb; omega
  have e5 := (gcd_sz (a := a) hb hs).log
  simp? [hg]
  simp (config := {implicitDefEqProofs := false}) only [gset_at, gset_gset]
  refine ⟨⟨e4, e5⟩, by decide +kernel, by decide, ⟨e4, e5⟩, by decide +kernel, (show 1 < 900 by omega), ?_⟩
  rw [Int.natCast_ediv, Int.natCast_ediv] at q
  exact q
/-- Weight(a, b), frozen -/
theorem weight_ok {n : Nat} {g : G} {a b : Nat} {Q : QT} {E : ET} (hb : 0 < b) (hs : Sz b) (q : Q (nw a b) g) :
    ∀ p, g p = none → den tbl (n + 2) 63 [.adr p, .int a, .int b] [] (gset g p (.ins 0 [])) (frzIns 0 Q p) E := by
  intro p hp
  refine init_ok hb hs (gset_at _ _) ?_
  rw [gset_gset]
  refine ⟨rfl, _, [.int ((a / Nat.gcd a b : Nat)), .int ((b / Nat.gcd a b : Nat))], gset_at _ _, by simp [flds, List.lookup], by simp [flds], ?_⟩
  have e : gdel (gset g p (.ins 0 [(111, .int ((a / Nat.gcd a b : Nat))), (8, .int ((b / Nat.gcd a b : Nat)))])) p = g := by
    funext r
    simp only [gdel, gset]
    split
    · rename_i h; rw [h, hp]
    · rfl
  rw [e]
  exact q
/-- Weight(a) -/
theorem weight1_ok {n : Nat} {g : G} {a : Nat} {Q : QT} {E : ET} (q : Q (nw a 1) g) :
    ∀ p, g p = none → den tbl (n + 2) 63 [.adr p, .int a] [] (gset g p (.ins 0 [])) (frzIns 0 Q p) E := by
  intro p hp
  have h := weight_ok (n := n) (g := g) (a := a) (b := 1) (E := E) (by omega) (by unfold Sz; exact Nat.one_lt_two_pow (by omega)) q p hp
  exact h
theorem nw_eq {a b c d : Nat} (hb : 0 < b) (hd : 0 < d) (h : a * d = c * b) : nw a b = nw c d := by
  have h1 := Nat.gcd_pos_of_pos_right a hb
  have h2 := Nat.gcd_pos_of_pos_right c hd
  have e1 : a / Nat.gcd a b = c / Nat.gcd c d := by
    apply Nat.div_eq_of_eq_mul_left h1
    have k1 : a * Nat.gcd c d = c * Nat.gcd a b := by
      rw [← Nat.gcd_mul_left, ← Nat.gcd_mul_left, h, Nat.mul_comm a c]
    have k2 : Nat.gcd c d ∣ c := Nat.gcd_dvd_left c d
    rw [Nat.div_mul_right_comm k2]
    rw [← k1]
    exact (Nat.mul_div_cancel _ h2).symm
  have e2 : b / Nat.gcd a b = d / Nat.gcd c d := by
    apply Nat.div_eq_of_eq_mul_left h1
    have k1 : b * Nat.gcd c d = d * Nat.gcd a b := by
      rw [← Nat.gcd_mul_left, ← Nat.gcd_mul_left, Nat.mul_comm b c, ← h, Nat.mul_comm a d, Nat.mul_comm b d]
    have k2 : Nat.gcd c d ∣ d := Nat.gcd_dvd_right c d
    rw [Nat.div_mul_right_comm k2]
    rw [← k1]
    exact (Nat.mul_div_cancel _ h2).symm
  unfold nw
  rw [e1, e2]
theorem lowest_ok {n : Nat} {g : G} {a b : Nat} {Q : QT} {E : ET} (hb : 0 < b) (hs : Sz b) (q : Q (.tup [.int ((a / Nat.gcd a b : Nat)), .int ((b / Nat.gcd a b : Nat))]) g) : den tbl (n + 2) 1157 [.int a, .int b] [] g Q E := by
  refine den_atB (N := 3) (ps := [none, none]) (df := []) (b := b1157) (ρ := [some (.int a), some (.int b), none]) (by kernel_rfl) (by rfl) (by rfl) ?_
  unfold b1157
  simp? [true_and]
  refine divides_ok ?_
  have e4 : 0 < ((Nat.gcd a b : Nat) : Int) := by have := Nat.gcd_pos_of_pos_right a hb; omega
  have e5 := (gcd_sz (a := a) hb hs).log
  simp? [true_and]
  refine ⟨⟨e4, e5⟩, ⟨e4, e5⟩, ?_⟩
  rw [Int.natCast_ediv, Int.natCast_ediv] at q
  exact ⟨by show 2 ≤ sizeLine; decide +kernel, q⟩
theorem is_ok {n : Nat} {g : G} {a b : Nat} {d : D} {Q : QT} {E : ET} (hb : 0 < b) (hs : Sz b) (hd : d = nw a b) (q : Q (.bl true) g) : den tbl (n + 3) 1122 [d, .int a, .int b] [] g Q E := by
  subst hd
  unfold nw
  refine den_atB (N := 3) (ps := [none, none, none]) (df := []) (b := b1122) (ρ := [some (wt _ _), some (.int a), some (.int b)]) (by kernel_rfl) (by rfl) (by rfl) ?_
  unfold b1122
  simp? [lwhole_eq]
  refine ⟨by show 2 ≤ sizeLine; decide +kernel, ?_⟩
  refine lowest_ok hb hs ?_
  refine eqq_k rfl ?_
  rw [ev_eqkt]
  refine ⟨rfl, ?_⟩
  simp [eqD, eqL]
  exact q

theorem two_ok {n : Nat} {g : G} {a : Addr} {Q : QT} {E : ET} (hd : IsDk g a)
    (q : ∀ (t b : Nat) g', 0 < b → t ≤ 10000000000000 → b ≤ 10000000000000 → IsDk g' a → Fr a g g' → Q (.tup [.int t, .int b]) g') : den tbl (n + 2) 1318 [.adr a] [] g Q E := by
  have q' : ∀ (i j : Int) g', 0 ≤ i → 0 < j → i ≤ 10000000000000 → j ≤ 10000000000000 → IsDk g' a → Fr a g g' → Q (.tup [.int i, .int j]) g' := by
    intro i j g' h1 h2 h3 h4 h5 h6
    obtain ⟨t, rfl⟩ := Int.eq_ofNat_of_zero_le h1
    obtain ⟨b, rfl⟩ := Int.eq_ofNat_of_zero_le (Int.le_of_lt h2)
    exact q t b g' (by omega) (by omega) (by omega) h5 h6
  have sz2 : ([D.int 0, D.int 1] : List D).length ≤ sizeLine := sz_le (by simp)
  refine den_atB (N := 5) (ps := [none]) (df := []) (b := b1318) (ρ := [some (.adr a), none, none, none, none]) (by kernel_rfl) (by rfl) (by rfl) ?_
  unfold b1318
  simp? [true_and]
  refine draw_ok hd (by omega) (by decide +kernel) fun w g1 w1 d1 f1 => ?_
  simp? [true_and]
  refine br_of (fun h => ?_) (fun h => ?_)
  · simp? [show rangeD 0 2 = [D.int 0, D.int 1] from rfl]
    refine draw_ok d1 (by omega) (by decide +kernel) fun r1 g2 l1 d2 f2 => ?_
    simp? [true_and]
    refine ⟨mul_okR (by omega), ?_⟩
    refine draw_ok d2 (by omega) (by decide +kernel) fun r2 g3 l2 d3 f3 => ?_
    simp? [true_and]
    refine ⟨sz_lt (by simp), ?_⟩
    refine draw_ok d3 (by omega) (by decide +kernel) fun r3 g4 l3 d4 f4 => ?_
    simp? [true_and]
    refine ⟨mul_okR (by omega), ?_⟩
    refine draw_ok d4 (by omega) (by decide +kernel) fun r4 g5 l4 d5 f5 => ?_
    simp? [true_and]
    refine ⟨sz_lt (by simp), ?_⟩
    simp only [List.nil_append, List.cons_append]
    simp? [true_and]
    refine ⟨sz_le (by simp), q' _ _ _ (by omega) (by split <;> omega) (by omega) (by split <;> omega) d5 ((((f1.trans f2).trans f3).trans f4).trans f5)⟩
  · simp? [true_and]
    refine br_of (fun h2 => ?_) (fun h2 => ?_)
    · simp? [true_and]
      refine draw_ok d1 (by omega) (by decide +kernel) fun r1 g2 l1 d2 f2 => ?_
      simp? [true_and]
      exact ⟨sz_le (by simp), q' _ _ _ (by omega) (by omega) (by omega) (by omega) d2 (f1.trans f2)⟩
    · simp? [true_and]
      refine br_of (fun h3 => ?_) (fun h3 => ?_)
      · simp? [true_and]
        refine draw_ok d1 (by omega) (by decide +kernel) fun r1 g2 l1 d2 f2 => ?_
        simp? [true_and]
        refine draw_ok d2 (by omega) (by decide +kernel) fun r2 g3 l2 d3 f3 => ?_
        simp? [true_and]
        exact ⟨sz_le (by simp), q' _ _ _ (by omega) (by omega) (by omega) (by omega) d3 ((f1.trans f2).trans f3)⟩
      · simp? [true_and]
        refine br_of (fun h4 => ?_) (fun h4 => ?_)
        · simp? [true_and]
          refine ⟨sz_le (by simp), sz_le (by simp), sz_le (by simp), sz_le (by simp), sz_le (by simp), ?_⟩
          refine draw_ok d1 (by omega) (by decide +kernel) fun r1 g2 l1 d2 f2 => ?_
          simp? [true_and]
          refine onI_any (by simp; omega) fun d hd => ?_
          simp only [List.mem_cons, List.not_mem_nil, or_false] at hd
          rcases hd with rfl | rfl | rfl | rfl <;> exact q' _ _ _ (by omega) (by omega) (by omega) (by omega) d2 (f1.trans f2)
        · simp? [true_and]
          refine draw_ok d1 (by omega) (by decide +kernel) fun r1 g2 l1 d2 f2 => ?_
          simp? [true_and]
          refine draw_ok d2 (by omega) (by decide +kernel) fun r2 g3 l2 d3 f3 => ?_
          simp? [true_and]
          exact ⟨sz_le (by simp), q' _ _ _ (by omega) (by omega) (by omega) (by omega) d3 ((f1.trans f2).trans f3)⟩
/-! ## Weights in a row -/
/-- lowest terms, of a size -/
structure Nm (a b : Nat) : Prop where
  pos : 0 < b
  cop : Nat.gcd a b = 1
  sa : a < 2 ^ 90
  sb : b < 2 ^ 45
theorem Sz.of {a k : Nat} (h : a < 2 ^ k) (hk : k ≤ 9000) : Sz a := Nat.lt_of_lt_of_le h (Nat.pow_le_pow_right (by omega) hk)
def wS (t b : Nat) : List Nat := if b = 1 then intS t else intS t ++ [47] ++ intS b
def wR (t b : Nat) : List Nat := [87, 101, 105, 103, 104, 116, 40] ++ intS t ++ (if b = 1 then [] else [44, 32] ++ intS b) ++ [41]
theorem il {i : Int} (h : i.natAbs.log2 < 1920) : (intS i).length ≤ 1921 := by
  have := int_text_len_1921 h
  rw [S_int] at this
  simpa [S, Str.length] using this
theorem ostr {i : Int} {g : G} {Q : QT} : oStr [.int i] g Q = (i.natAbs.log2 < 1920 ∧ Q (.str (intS i)) g) := rfl
theorem l60 {k : Nat} (hk : k < 2 ^ 60) : (k : Int).natAbs.log2 < 1920 := Nat.lt_trans (log_lt (n := 60) (by omega) (by simpa using hk)) (by omega)
theorem written_ok {n : Nat} {g : G} {a b : Nat} {Q : QT} {E : ET} (hb : 0 < b) (ha : a < 2 ^ 60) (hb2 : b < 2 ^ 60) (q : Q (.str (wS (a / Nat.gcd a b) (b / Nat.gcd a b))) g) : den tbl (n + 3) 1337 [.int a, .int b] [] g Q E := by
  have sb : Sz b := Sz.of hb2 (by omega)
  refine den_atB (N := 2) (ps := [none, none]) (df := []) (b := b1337) (ρ := [some (.int a), some (.int b)]) (by kernel_rfl) (by rfl) (by rfl) ?_
  unfold b1337
  simp? [true_and]
  refine lowest_ok hb sb ?_
  have h1 : a / Nat.gcd a b < 2 ^ 60 := Nat.lt_of_le_of_lt (Nat.div_le_self _ _) ha
  have h2 : b / Nat.gcd a b < 2 ^ 60 := Nat.lt_of_le_of_lt (Nat.div_le_self _ _) hb2
  generalize a / Nat.gcd a b = c at h1 q ⊢
  generalize b / Nat.gcd a b = d at h2 q ⊢
  have l1 := l60 h1
  have l2 := l60 h2
  have z1 := il l1
  have z2 := il l2
  unfold wS at q
  by_cases hz : d = 1
  · rw [if_pos hz] at q
    have e : decide ((d : Int) = 1) = true := decide_eq_true (by omega)
    simp? [e, ostr]
    exact ⟨l1, q⟩
  · rw [if_neg hz] at q
    have e : decide ((d : Int) = 1) = false := decide_eq_false (by omega)
    simp? [e, ostr]
    repeat refine And.intro (by first | assumption | exact sz_le (by omega) | exact sz_le (by simp only [List.length_append, List.length_cons, List.length_nil]; omega)) ?_
    exact q
theorem shown_ok {n : Nat} {g : G} {a b : Nat} {Q : QT} {E : ET} (hb : 0 < b) (ha : a < 2 ^ 60) (hb2 : b < 2 ^ 60) (q : Q (.str (wR (a / Nat.gcd a b) (b / Nat.gcd a b))) g) : den tbl (n + 3) 1263 [.int a, .int b] [] g Q E := by
  have sb : Sz b := Sz.of hb2 (by omega)
  refine den_atB (N := 2) (ps := [none, none]) (df := []) (b := b1263) (ρ := [some (.int a), some (.int b)]) (by kernel_rfl) (by rfl) (by rfl) ?_
  unfold b1263
  simp? [true_and]
  refine lowest_ok hb sb ?_
  have h1 : a / Nat.gcd a b < 2 ^ 60 := Nat.lt_of_le_of_lt (Nat.div_le_self _ _) ha
  have h2 : b / Nat.gcd a b < 2 ^ 60 := Nat.lt_of_le_of_lt (Nat.div_le_self _ _) hb2
  generalize a / Nat.gcd a b = c at h1 q ⊢
  generalize b / Nat.gcd a b = d at h2 q ⊢
  have l1 := l60 h1
  have l2 := l60 h2
  have z1 := il l1
  have z2 := il l2
  unfold wR at q
  by_cases hz : d = 1
  · rw [if_pos hz] at q
    have e : decide ((d : Int) = 1) = true := decide_eq_true (by omega)
    simp? [e, ostr]
    have r0 : ∀ x : List Nat, (List.replicate 0 x).flatten = [] := fun _ => rfl
    have r1 : ∀ x : List Nat, (List.replicate 1 x).flatten = x := fun x => by simp
    simp only [r0, r1]
    repeat refine And.intro (by first | assumption | exact sz_le (by omega) | exact sz_le (by simp only [List.length_append, List.length_cons, List.length_nil]; omega) | (simp only [List.length_append, List.length_cons, List.length_nil]; omega)) ?_
    exact q
  · rw [if_neg hz] at q
    have e : decide ((d : Int) = 1) = false := decide_eq_false (by omega)
    simp? [e, ostr]
    have r0 : ∀ x : List Nat, (List.replicate 0 x).flatten = [] := fun _ => rfl
    have r1 : ∀ x : List Nat, (List.replicate 1 x).flatten = x := fun x => by simp
    simp only [r0, r1]
    repeat refine And.intro (by first | assumption | exact sz_le (by omega) | exact sz_le (by simp only [List.length_append, List.length_cons, List.length_nil]; omega) | (simp only [List.length_append, List.length_cons, List.length_nil]; omega)) ?_
    exact q
theorem wstr_ok {n : Nat} {g : G} {t b : Nat} {Q : QT} {E : ET} (h1 : t < 2 ^ 60) (h2 : b < 2 ^ 60) (q : Q (.str (wS t b)) g) : den tbl (n + 1) 65 [wt (t : Nat) (b : Nat)] [] g Q E := by
  refine den_atB (N := 1) (ps := [some 93]) (df := []) (b := b65) (ρ := [some (wt (t : Nat) (b : Nat))]) (by kernel_rfl) (by rfl) (by rfl) ?_
  unfold b65
  unfold wS at q
  have k1 := l60 h1
  have k2 := l60 h2
  have l1 := il k1
  have l2 := il k2
  by_cases hb : b = 1
  · rw [if_pos hb] at q
    have hz : ((b : Nat) : Int) = 1 := by omega
    simp? [hz, ostr]
    exact ⟨k1, q⟩
  · rw [if_neg hb] at q
    have hz : ¬ ((b : Nat) : Int) = 1 := by omega
    simp? [hz, ostr]
    repeat refine And.intro (by first | assumption | exact sz_le (by omega) | exact sz_le (by simp only [List.length_append, List.length_cons, List.length_nil]; omega)) ?_
    exact q

theorem lit_W : ("Weight(" : Str) = S [87, 101, 105, 103, 104, 116, 40] := by decide +kernel
theorem lit_P : (")" : Str) = S [41] := by decide +kernel
theorem lit_cm : (", " : Str) = S [44, 32] := by decide +kernel
theorem lit_o : ("(" : Str) = S [40] := by decide +kernel
theorem lit_b : ("[" : Str) = S [91] := by decide +kernel
theorem lit_e : ("]" : Str) = S [93] := by decide +kernel
theorem lit_n : ("" : Str) = S [] := by decide +kernel
theorem wR_len {t b : Nat} (h1 : t < 2 ^ 60) (h2 : b < 2 ^ 60) : (wR t b).length ≤ 3900 := by
  have l1 := il (l60 h1)
  have l2 := il (l60 h2)
  unfold wR
  split <;> simp only [List.length_append, List.length_cons, List.length_nil] <;> omega
theorem rp_wt {t b : Nat} (h1 : t < 2 ^ 60) (h2 : b < 2 ^ 60) : rpT [0] (wt (t : Nat) (b : Nat)) = some (S (wR t b)) := by
  have k1 := l60 h1
  have k2 := l60 h2
  show rpT [0] (.ins 0 [.int (t : Nat), .int (b : Nat)]) = _
  have m : memN 0 [0] = true := rfl
  simp only [rpT, rpL, k1, k2, if_true, m, rpI]
  rw [S_int, S_int, lit_W, lit_P, lit_cm]
  unfold wR
  by_cases hb : b = 1
  · have hz : ((b : Nat) : Int) = 1 := by omega
    rw [if_pos hb, if_pos hz]
    simp only [S_app, List.append_nil]
  · have hz : ¬ ((b : Nat) : Int) = 1 := by omega
    rw [if_neg hb, if_neg hz]
    simp only [S_app, List.append_assoc]
theorem rep_w {t b : Nat} (h1 : t < 2 ^ 60) (h2 : b < 2 ^ 60) {g : G} {Q : QT} : oRepr none [0] [wt (t : Nat) (b : Nat)] g Q = Q (.str (wR t b)) g := by
  have l := wR_len h1 h2
  refine ev_reprk ?_ (sz_le (by omega))
  have e1 : dat (wt (t : Nat) (b : Nat)) = true := rfl
  have e2 : Nat.ble (dep (wt (t : Nat) (b : Nat))) 30 = true := rfl
  simp only [e1, e2, rp_wt h1 h2, Bool.and_self, if_true, Option.map_some, S_toList]
theorem rep_two {t b : Nat} (h1 : t < 2 ^ 60) (h2 : b < 2 ^ 60) {g : G} {Q : QT} : oRepr none [0] [.tup [wt (t : Nat) (b : Nat), .lst [wt (t : Nat) (b : Nat)]]] g Q = Q (.str ([40] ++ wR t b ++ [44, 32, 91] ++ wR t b ++ [93, 41])) g := by
  have l := wR_len h1 h2
  refine ev_reprk ?_ (sz_le (by simp only [List.length_append, List.length_cons, List.length_nil]; omega))
  have e1 : dat (.tup [wt (t : Nat) (b : Nat), .lst [wt (t : Nat) (b : Nat)]]) = true := rfl
  have e2 : Nat.ble (dep (.tup [wt (t : Nat) (b : Nat), .lst [wt (t : Nat) (b : Nat)]])) 30 = true := rfl
  have e3 : rpT [0] (.tup [wt (t : Nat) (b : Nat), .lst [wt (t : Nat) (b : Nat)]]) = some (S ([40] ++ wR t b ++ [44, 32, 91] ++ wR t b ++ [93, 41])) := by
    have r := rp_wt h1 h2
    generalize wt (t : Nat) (b : Nat) = d at r
    simp only [rpT, rpL, r, Option.map_some]
    unfold tupleText listText
    show some ((("(" : Str) ++ (S (wR t b) ++ (", " : Str) ++ (((("[" : Str) ++ ("" : Str)) ++ S (wR t b)) ++ ("]" : Str)))) ++ (")" : Str)) = _
    rw [lit_o, lit_cm, lit_b, lit_n, lit_e, lit_P]
    simp only [S_app]
    congr 2
    simp
  simp only [e1, e2, e3, Bool.and_self, if_true, Option.map_some, S_toList]
/-! ## own == -/
theorem isi_no {d : D} {c : Nat} {g : G} {Q : QT} (h : dat d = true) (hn : ∀ c l, d ≠ .ins c l) : oIsi [d, .cls c] g Q = Q (.bl false) g := by
  cases d <;> first | (cases h; done) | exact absurd rfl (hn _ _) | kernel_rfl
theorem weq_no {n : Nat} {g : G} {t b : Int} {y : D} {Q : QT} {E : ET} (h : dat y = true) (hn : ∀ c l, y ≠ .ins c l) (q : Q (.bl false) g) : den tbl (n + 1) 62 [wt t b, y] [] g Q E := by
  refine den_atB (N := 2) (ps := [some 93, some 73]) (df := []) (b := b62) (ρ := [some (wt t b), some (y)]) (by kernel_rfl) (by rfl) (by rfl) ?_
  unfold b62
  simp? [true_and]
  rw [isi_no h hn]
  simp? [true_and]
  exact q
theorem weq_wt {n : Nat} {g : G} {t b t' b' : Int} {Q : QT} {E : ET} (q : Q (.bl (eqD (wt t b) (wt t' b'))) g) : den tbl (n + 1) 62 [wt t b, wt t' b'] [] g Q E := by
  have e : eqD (wt t b) (wt t' b') = (decide (t = t') && decide (b = b')) := by
    simp [eqD, eqL, wt, Bool.and_true]
    rfl
  rw [e] at q
  refine den_atB (N := 2) (ps := [some 93, some 73]) (df := []) (b := b62) (ρ := [some (wt t b), some (wt t' b')]) (by kernel_rfl) (by rfl) (by rfl) ?_
  unfold b62
  simp? [true_and]
  refine br_of (fun h => ?_) (fun h => ?_)
  · rw [h] at q
    simp? [true_and]
    exact q
  · rw [h] at q
    simp? [true_and]
    rw [h]
    exact q
theorem own_wt {n : Nat} {t b : Int} {y : D} (h : ∀ (g : G) (Q : QT) (E : ET), Q (.bl (eqD (wt t b) y)) g → den tbl n 62 [wt t b, y] [] g Q E) : own et (den tbl n) 0 [.int t, .int b] y := ⟨62, rfl, h _ _ _ rfl⟩
theorem same_wt {n : Nat} {t b t' b' : Int} : dem et (den tbl (n + 1)) (wt t b) (wt t' b') := own_wt fun g Q E q => weq_wt q
theorem eqk_wt {q : Bool} {t b : Int} : Cn.eqk q 24 (wt t b) = true := rfl
/-- what a Weight is never equal to -/
structure Oth (n : Nat) (x : D) (y : D) : Prop where
  k : Cn.eqk true 24 y = true
  s : (scal x && scal y) = false
  s2 : (scal y && scal x) = false
  a : dem et (den tbl (n + 1)) x y
  b : dem et (den tbl (n + 1)) y x
  e1 : eqD x y = false
  e2 : eqD y x = false
theorem oth_no {n : Nat} {t b : Int} {y : D} (k : Cn.eqk true 24 y = true) (h : dat y = true) (hn : ∀ c l, y ≠ .ins c l) : Oth n (wt t b) y := by
  have o : own et (den tbl (n + 1)) 0 [.int t, .int b] y := own_wt fun g Q E q => weq_no h hn (by
    have e : eqD (wt t b) y = false := by cases y <;> first | rfl | exact absurd rfl (hn _ _)
    rw [e] at q
    exact q)
  refine ⟨k, rfl, Bool.and_false _, o, ?_, ?_, ?_⟩
  · cases y <;> first | exact absurd rfl (hn _ _) | exact o | trivial
  · cases y <;> first | exact absurd rfl (hn _ _) | rfl
  · cases y <;> first | exact absurd rfl (hn _ _) | rfl

theorem intS_num (n : Nat) : intS (n : Int) = TL.numL n := by
  have h1 := S_int (n : Int)
  have h2 := SX.num_S n
  exact S_inj (h1.symm.trans h2)
theorem pure_nm {s : List Nat} (h : ∀ c ∈ s, c < 0x110000) : (s.all (· < 0x110000)) = true := List.all_eq_true.mpr fun c hc => decide_eq_true (h c hc)
theorem num_ch {n : Nat} : ∀ c ∈ intS (n : Int), c < 0x110000 := fun c hc => by
  rw [intS_num] at hc
  have := TL.numL_digits n c hc
  omega
theorem wS_ch {t b : Nat} : ((wS t b).all (· < 0x110000)) = true := pure_nm fun c hc => by
  unfold wS at hc
  split at hc
  · exact num_ch c hc
  · simp only [List.append_assoc, List.mem_append, List.mem_cons, List.not_mem_nil, or_false] at hc
    rcases hc with hc | rfl | hc
    · exact num_ch c hc
    · decide
    · exact num_ch c hc
theorem wR_ch {t b : Nat} : ((wR t b).all (· < 0x110000)) = true := pure_nm fun c hc => by
  unfold wR at hc
  simp only [List.append_assoc, List.mem_append] at hc
  rcases hc with hc | hc | hc | hc
  · exact (by decide : ∀ c ∈ [87, 101, 105, 103, 104, 116, 40], c < 0x110000) c hc
  · exact num_ch c hc
  · split at hc
    · cases hc
    · rcases List.mem_append.mp hc with hc | hc
      · exact (by decide : ∀ c ∈ [44, 32], c < 0x110000) c hc
      · exact num_ch c hc
  · exact (by decide : ∀ c ∈ [41], c < 0x110000) c hc
theorem eqkL_all {n : Nat} : ∀ {L : List D}, (∀ y ∈ L, Cn.eqk true n y = true) → Cn.eqkL true n L = true
  | [], _ => rfl
  | x :: L, h => by
    simp only [Cn.eqkL, h x List.mem_cons_self, eqkL_all fun y hy => h y (List.mem_cons_of_mem _ hy), Bool.and_self]
theorem eqk_all {t b : Int} {L : List D} (h : ∀ y ∈ L, Cn.eqk true 24 y = true) : (Cn.eqk true 24 (wt t b) && Cn.eqkL true 24 L) = true := by
  rw [eqkL_all h]
  rfl
theorem any_not {x : D} {L : List D} (h : ∀ y ∈ L, eqD y x = false) : (L.any fun d => eqD d x) = false := by
  rw [List.any_eq_false]
  intro y hy
  rw [h y hy]
  simp
theorem alone_ok {n : Nat} {g : G} {a b : Nat} {Q : QT} {E : ET} (hb : 0 < b) (ha : a < 2 ^ 60) (hb2 : b < 2 ^ 60) (q : Q (.bl true) g) : den tbl (n + 5) 1007 [nw a b, .int a, .int b] [] g Q E := by
  have sb : Sz b := Sz.of hb2 (by omega)
  have h1 : a / Nat.gcd a b < 2 ^ 60 := Nat.lt_of_le_of_lt (Nat.div_le_self _ _) ha
  have h2 : b / Nat.gcd a b < 2 ^ 60 := Nat.lt_of_le_of_lt (Nat.div_le_self _ _) hb2
  have fin : ∀ Q' : QT, Q' (.bl true) g → den tbl (n + 4) 1122 [nw a b, .int a, .int b] [] g Q' E := fun Q' q => is_ok hb sb rfl q
  unfold nw at fin ⊢
  refine den_atB (N := 8) (ps := [none, none, none]) (df := []) (b := b1007) (ρ := [some (wt _ _), some (.int a), some (.int b), none, none, none, none, none]) (by kernel_rfl) (by rfl) (by rfl) ?_
  unfold b1007
  simp? [true_and]
  refine written_ok hb ha hb2 ?_
  simp? [true_and]
  refine shown_ok hb ha hb2 ?_
  simp? [List.map_cons, List.map_nil]
  generalize a / Nat.gcd a b = c at h1 fin ⊢
  generalize b / Nat.gcd a b = d at h2 fin ⊢
  refine forL_ind (fun ds ρ g' => ∃ u5 : Option D, g' = g ∧ ρ = [some (wt (c : Nat) (d : Nat)), some (.int a), some (.int b), some (.str (wS c d)), some (.str (wR c d)), u5, none, none]) ?_ ?_ _ _ _ ⟨none, rfl, rfl⟩
  · rintro x ds ρ g1 K ⟨u5, rfl, rfl⟩ k
    simp? [true_and]
    refine strt_ok (st := st) (c := 0) (f := 65) (by rfl) (wstr_ok h1 h2 rfl) ?_
    simp? [rep_w h1 h2, rep_two h1 h2]
    have l1 := wR_len h1 h2
    refine ⟨sz_le (by simp), sz_le (by simp), sz_le (by simp only [List.length_cons, List.length_nil]; omega), sz_le (by simp only [List.length_append, List.length_cons, List.length_nil]; omega), sz_le (by simp only [List.length_append, List.length_cons, List.length_nil]; omega), sz_le (by simp only [List.length_append, List.length_cons, List.length_nil]; omega), k _ _ ⟨_, rfl, rfl⟩⟩
  rintro ρ g1 ⟨u5, rfl, rfl⟩
  simp? [ev_dct1]
  have H : ∀ y ∈ [D.int ↑a, D.str (wS c d), D.str (wR c d), D.tup [D.int ↑a, D.int ↑b], D.lst [wt ↑c ↑d], D.tup [wt ↑c ↑d],
              D.non, D.bl true, D.dct [D.int 0] [wt ↑c ↑d], D.str [], D.int 0, D.int 1], Oth (n + 3) (wt ↑c ↑d) y := by
    intro y hy
    simp only [List.mem_cons, List.not_mem_nil, or_false] at hy
    rcases hy with rfl | rfl | rfl | rfl | rfl | rfl | rfl | rfl | rfl | rfl | rfl | rfl
    · exact oth_no rfl rfl (fun _ _ z => by cases z)
    · exact oth_no (by simp only [Cn.eqk]; exact wS_ch) rfl (fun _ _ z => by cases z)
    · exact oth_no (by simp only [Cn.eqk]; exact wR_ch) rfl (fun _ _ z => by cases z)
    · exact oth_no rfl rfl (fun _ _ z => by cases z)
    · exact oth_no rfl rfl (fun _ _ z => by cases z)
    · exact oth_no rfl rfl (fun _ _ z => by cases z)
    · exact oth_no rfl rfl (fun _ _ z => by cases z)
    · exact oth_no rfl rfl (fun _ _ z => by cases z)
    · exact oth_no rfl rfl (fun _ _ z => by cases z)
    · exact oth_no rfl rfl (fun _ _ z => by cases z)
    · exact oth_no rfl rfl (fun _ _ z => by cases z)
    · exact oth_no rfl rfl (fun _ _ z => by cases z)
  refine ⟨sz_le (by simp), sz_le (by simp), sz_le (by simp), sz_le (by simp), ?_⟩
  generalize [D.int ↑a, D.str (wS c d), D.str (wR c d), D.tup [D.int ↑a, D.int ↑b], D.lst [wt ↑c ↑d], D.tup [wt ↑c ↑d],
              D.non, D.bl true, D.dct [D.int 0] [wt ↑c ↑d], D.str [], D.int 0, D.int 1] = L at H ⊢
  refine forL_ind (fun ds ρ g' => ∃ u7 : Option D, (∀ y ∈ ds, Oth (n + 3) (wt ↑c ↑d) y) ∧ g' = g1 ∧ ρ = [some (wt (c : Nat) (d : Nat)), some (.int a), some (.int b), some (.str (wS c d)), some (.str (wR c d)), u5, some (.lst L), u7]) ?_ ?_ _ _ _ ⟨none, H, rfl, rfl⟩
  · rintro y ds ρ g2 K ⟨u7, h4, rfl, rfl⟩ k
    have o := h4 y List.mem_cons_self
    have k1 : (Cn.eqk true 24 (wt (c : Nat) (d : Nat)) && Cn.eqk true 24 y) = true := by rw [o.k]; rfl
    have k2 : (Cn.eqk true 24 y && Cn.eqk true 24 (wt (c : Nat) (d : Nat))) = true := by rw [o.k]; rfl
    simp? [true_and]
    refine eqq_d o.s k1 o.a ?_
    rw [o.e1]
    simp? [true_and]
    refine eqq_d o.s2 k2 o.b ?_
    rw [o.e2]
    simp? [true_and]
    refine eqq_d o.s k1 o.a ?_
    rw [o.e1]
    simp? [true_and]
    exact k _ _ ⟨_, fun y hy => h4 y (List.mem_cons_of_mem _ hy), rfl, rfl⟩
  rintro ρ g2 ⟨u7, h4, rfl, rfl⟩
  simp? [true_and]
  refine inq_d (l := L) rfl (eqk_all fun y hy => (H y hy).k) (fun y hy => (H y hy).b) ?_
  rw [any_not fun y hy => (H y hy).e2]
  simp? [true_and]
  exact fin _ q

theorem eqt {C : Cal} {p q r s : Int} {g : G} {Q : QT} (h : Q (.bl (eqD (wt p q) (wt r s))) g) : eqQ et false C (.tup [.int p, .int q]) (.tup [.int r, .int s]) g Q := by
  refine eqq_k rfl ?_
  rw [ev_eqkt]
  have e : eqD (.tup [.int p, .int q]) (.tup [.int r, .int s]) = eqD (wt p q) (wt r s) := by simp [eqD, eqL]
  have e2 : (pureD 40 (.tup [.int p, .int q]) && pureD 40 (.tup [.int r, .int s])) = true := rfl
  simp only [oEq, e2, e, Bool.or_true, Bool.true_or, Bool.false_eq_true, if_false]
  exact ⟨trivial, h⟩
theorem wt_comm {p q r s : Int} : eqD (wt r s) (wt p q) = eqD (wt p q) (wt r s) := by
  simp only [eqD, eqL, BEq.comm (a := r), BEq.comm (a := s)]
theorem two_right_ok {n : Nat} {g : G} {a b c d : Nat} {Q : QT} {E : ET} (hb : 0 < b) (hb2 : b < 2 ^ 60) (hd : 0 < d) (hd2 : d < 2 ^ 60) (q : Q (.bl true) g) : den tbl (n + 5) 1320 [nw a b, .tup [.int a, .int b], nw c d, .tup [.int c, .int d]] [] g Q E := by
  have sb : Sz b := Sz.of hb2 (by omega)
  have sd : Sz d := Sz.of hd2 (by omega)
  unfold nw
  refine den_atB (N := 7) (ps := [none, none, none, none]) (df := []) (b := b1320) (ρ := [some (wt _ _), some (.tup [.int a, .int b]), some (wt _ _), some (.tup [.int c, .int d]), none, none, none]) (by kernel_rfl) (by rfl) (by rfl) ?_
  unfold b1320
  simp? [true_and]
  refine lowest_ok hb sb ?_
  simp? [true_and]
  refine lowest_ok hd sd ?_
  refine eqt ?_
  simp? [true_and]
  generalize ((a / Nat.gcd a b : Nat) : Int) = p
  generalize ((b / Nat.gcd a b : Nat) : Int) = p'
  generalize ((c / Nat.gcd c d : Nat) : Int) = r
  generalize ((d / Nat.gcd c d : Nat) : Int) = r'
  have e1 : eqD (wt r r') (wt p p') = eqD (wt p p') (wt r r') := wt_comm
  obtain ⟨due, hdue⟩ : ∃ due, eqD (wt p p') (wt r r') = due := ⟨_, rfl⟩
  rw [hdue] at e1 ⊢
  have kk : ∀ {x y z w : Int}, (Cn.eqk true 24 (wt x y) && Cn.eqk true 24 (wt z w)) = true := rfl
  refine ⟨sz_le (by simp), sz_le (by simp), sz_le (by simp), ?_⟩
  refine forL_ind (fun ds ρ g' => ∃ u5 u6 : Option D, (∀ z ∈ ds, z = .tup [wt p p', wt r r'] ∨ z = .tup [wt r r', wt p p']) ∧ g' = g ∧ ρ = [some (wt p p'), some (.tup [.int a, .int b]), some (wt r r'), some (.tup [.int c, .int d]), some (.bl due), u5, u6]) ?_ ?_ _ _ _ ⟨none, none, fun z hz => by simpa using hz, rfl, rfl⟩
  · rintro z ds ρ g1 K ⟨u5, u6, hz, rfl, rfl⟩ k
    have hk : ∀ (v5 v6 : Option D), K [some (wt p p'), some (.tup [.int a, .int b]), some (wt r r'), some (.tup [.int c, .int d]), some (.bl due), v5, v6] g1 := fun v5 v6 => k _ _ ⟨v5, v6, fun y hy => hz y (List.mem_cons_of_mem _ hy), rfl, rfl⟩
    rcases hz z List.mem_cons_self with rfl | rfl
    · simp? [true_and]
      refine eqq_d rfl kk same_wt ?_
      rw [hdue]
      simp? [true_and]
      refine eqq_d rfl kk same_wt ?_
      rw [hdue]
      simp? [true_and]
      exact hk _ _
    · simp? [true_and]
      refine eqq_d rfl kk same_wt ?_
      rw [e1]
      simp? [true_and]
      refine eqq_d rfl kk same_wt ?_
      rw [e1]
      simp? [true_and]
      exact hk _ _
  rintro ρ g1 ⟨u5, u6, hz, rfl, rfl⟩
  simp? [true_and]
  refine ⟨sz_le (by simp), ?_⟩
  refine inq_d (l := [.non, wt r r', .int 5]) rfl rfl (fun z hz => ?_) ?_
  · simp only [List.mem_cons, List.not_mem_nil, or_false] at hz
    rcases hz with rfl | rfl | rfl
    · exact own_wt fun g Q E q => weq_no rfl (fun _ _ z => by cases z) q
    · exact same_wt
    · exact own_wt fun g Q E q => weq_no rfl (fun _ _ z => by cases z) q
  have e2 : ([D.non, wt r r', .int 5].any fun d => eqD d (wt p p')) = due := by
    simp only [List.any_cons, List.any_nil, e1, Bool.or_false]
    simp [eqD]
  rw [e2]
  simp? [true_and]
  refine ⟨sz_le (by simp), sz_le (by simp), ?_⟩
  refine eqq_d rfl rfl ⟨same_wt, trivial, trivial⟩ ?_
  have e3 : eqD (.tup [wt p p', .int 1]) (.tup [wt r r', .int 1]) = due := by
    rw [← hdue]
    simp [eqD, eqL]
  rw [e3]
  simp? [true_and]
  refine ⟨sz_le (by simp), cnt_d (l := [wt r r', wt r r', .int 1]) rfl rfl (fun z hz => ?_) ?_⟩
  · simp only [List.mem_cons, List.not_mem_nil, or_false] at hz
    rcases hz with rfl | rfl | rfl
    · exact same_wt
    · exact same_wt
    · exact own_wt fun g Q E q => weq_no rfl (fun _ _ z => by cases z) q
  have e4 : eqD (.int 1) (wt p p') = false := rfl
  simp only [List.countP_cons, List.countP_nil, e1, e4]
  cases due with
  | true =>
    refine ⟨mul_okR (by decide), ?_⟩
    have e5 : (((((0 + if false = true then 1 else 0) + if true = true then 1 else 0) + if true = true then 1 else 0 : Nat)) : Int) = 2 * if true = true then 1 else 0 := by decide
    rw [e5]
    simp? [true_and]
    exact q
  | false =>
    refine ⟨mul_okR (by decide), ?_⟩
    have e5 : (((((0 + if false = true then 1 else 0) + if false = true then 1 else 0) + if false = true then 1 else 0 : Nat)) : Int) = 2 * if false = true then 1 else 0 := by decide
    rw [e5]
    simp? [true_and]
    exact q

structure Pa where
  t : Nat
  b : Nat
structure Pok (p : Pa) : Prop where
  b0 : 0 < p.b
  ht : p.t < 2 ^ 60
  hb : p.b < 2 ^ 60
abbrev pD (p : Pa) : D := .tup [.int (p.t : Nat), .int (p.b : Nat)]
abbrev wD (p : Pa) : D := nw p.t p.b
theorem rangeD_nat {n : Nat} : rangeD 0 (Int.toNat (n : Int)) = (List.range n).map fun (i : Nat) => D.int (i : Int) := by
  simp [rangeD]
theorem law_ok : ∀ ns : List Int, ns.length ≤ 63 → (∀ z ∈ ns, Builtin.Int.intBits z ≤ 1048576) → den tbl 20 136 [.lst (ns.map D.int)] [] (fun _ => none) (fun d _ => d = .bl true) noE := by
  intro ns hn _
  generalize (fun _ => none : G) = g0
  refine den_atB (N := 10) (ps := [some 1]) (df := []) (b := b136) (ρ := [some (.lst (ns.map D.int)), none, none, none, none, none, none, none, none, none]) (by kernel_rfl) (by rfl) (by rfl) ?_
  unfold b136
  simp? [true_and]
  rw [show (10 : Int) = ((10 : Nat) : Int) from rfl, cutD_to]
  refine ⟨sz_le (by simp), sz_le (by simp; omega), ?_⟩
  refine forL_ind (fun ds ρ g' => ∃ (L : List Int) (u1 u2 u3 u4 u5 u6 u7 u8 u9 : Option D), ds = L.map D.int ∧ ρ = [some (.lst (ns.map D.int)), u1, u2, u3, u4, u5, u6, u7, u8, u9]) ?_ ?_ _ _ _ ⟨ns.take 10 ++ [3], _, _, _, _, _, _, _, _, _, ?_, rfl⟩
  · rintro d ds ρ g K ⟨L, u1, u2, u3, u4, u5, u6, u7, u8, u9, h1, rfl⟩ k
    cases L with
    | nil => cases h1
    | cons x L =>
      simp only [List.map_cons, List.cons.injEq] at h1
      obtain ⟨rfl, rfl⟩ := h1
      simp? [true_and]
      refine deck_ok fun a g1 ha d1 f1 => ?_
      simp? [true_and]
      refine ⟨sz_le (by simp), ?_⟩
      have e6 : rangeD 0 6 = (List.range 6).map fun (i : Nat) => D.int (i : Int) := rfl
      rw [e6]
      refine forL_ind (fun ds ρ g' => ∃ (M : List Nat) (l : List Pa) (v4 v5 v6 v7 : Option D), ds = M.map (fun k => .int (k : Nat)) ∧ (∀ p ∈ l, Pok p) ∧ l.length + 4 * M.length = 24 ∧ IsDk g' a ∧ ρ = [some (.lst (ns.map D.int)), some (.int x), some (.adr a), some (.lst (l.map pD)), v4, v5, v6, v7, u8, u9]) ?_ ?_ _ _ _ ⟨List.range 6, [], u4, u5, u6, u7, rfl, fun _ z => (by cases z), by simp, d1, rfl⟩
      · rintro d ds ρ g2 K2 ⟨M, l, v4, v5, v6, v7, h2, hl, hn2, d2, rfl⟩ k2
        cases M with
        | nil => cases h2
        | cons m M =>
          simp only [List.map_cons, List.cons.injEq] at h2
          obtain ⟨rfl, rfl⟩ := h2
          simp only [List.length_cons] at hn2
          simp? [true_and]
          refine two_ok d2 fun t b g3 b0 ht hb d3 f3 => ?_
          simp? [true_and]
          refine draw_ok d3 (by decide) (by decide +kernel) fun r g4 hr d4 f4 => ?_
          simp? [true_and]
          refine ⟨sz_le (by simp), mul_okR (by omega), mul_okR (by omega), sz_le (by simp), sz_le (by simp), sz_le (by simp), sz_le (by simp), sz_le (by simp; omega), ?_⟩
          have m1 : t * (2 + r) < 2 ^ 60 := Nat.lt_of_le_of_lt (Nat.mul_le_mul ht (show 2 + r ≤ 11 by omega)) (by decide)
          have m2 : b * (2 + r) < 2 ^ 60 := Nat.lt_of_le_of_lt (Nat.mul_le_mul hb (show 2 + r ≤ 11 by omega)) (by decide)
          have e1 : ((t : Int) * (2 + (r : Int))) = ((t * (2 + r) : Nat) : Int) := by simp
          have e2 : ((b : Int) * (2 + (r : Int))) = ((b * (2 + r) : Nat) : Int) := by simp
          have el : l.map pD ++ [.tup [.int t, .int b], .tup [.int (t * (2 + r) : Nat), .int (b * (2 + r) : Nat)], .tup [.int ((t : Int) + 1), .int b], .tup [.int t, .int ((b : Int) + 1)]] = (l ++ [(⟨t, b⟩ : Pa), ⟨t * (2 + r), b * (2 + r)⟩, ⟨t + 1, b⟩, ⟨t, b + 1⟩]).map pD := by simp
          rw [e1, e2, el]
          refine k2 _ _ ⟨M, _, _, _, _, _, rfl, fun p hp => ?_, by simp; omega, d4, rfl⟩
          rcases List.mem_append.mp hp with hp | hp
          · exact hl p hp
          · simp only [List.mem_cons, List.not_mem_nil, or_false] at hp
            rcases hp with rfl | rfl | rfl | rfl
            · exact ⟨b0, by show t < _; omega, by show b < _; omega⟩
            · exact ⟨Nat.mul_pos b0 (by omega), m1, m2⟩
            · exact ⟨b0, by show t + 1 < _; omega, by show b < _; omega⟩
            · exact ⟨by show 0 < b + 1; omega, by show t < _; omega, by show b + 1 < _; omega⟩
      · rintro ρ g6 ⟨M, l, v4, v5, v6, v7, h2, hl, hn2, d2, rfl⟩
        cases M with
        | cons m M => cases h2
        | nil =>
          simp only [List.length_nil] at hn2
          simp? [true_and]
          refine cpL_map (enc := pD) (out := wD) l [] (by simp only [List.length_nil]; omega) trivial (fun p hp Kc qk => ?_) ?_
          · simp? [true_and]
            exact weight_ok (hl p hp).b0 (Sz.of (hl p hp).hb (by omega)) qk
          simp? [List.nil_append]
          show fl (numD 0 (l.map pD)) _ _ _ _ _ _ _
          have P0 : ∀ (i : Nat) (p : Pa), l[i]? = some p → (l.map pD)[i]? = some (pD p) ∧ (l.map wD)[i]? = some (wD p) := fun i p h => by
            rw [List.getElem?_map, List.getElem?_map, h]
            exact ⟨rfl, rfl⟩
          refine forL_ind (fun ds ρ g' => ∃ (i : Nat) (v4 v5 v6 v9 : Option D), ds = numD i ((l.drop i).map pD) ∧ ρ = [some (.lst (ns.map D.int)), some (.int x), some (.adr a), some (.lst (l.map pD)), v4, v5, v6, v7, some (.lst (l.map wD)), v9]) ?_ ?_ _ _ _ ⟨0, v4, v5, v6, u9, by simp, rfl⟩
          · rintro d ds ρ g7 K3 ⟨i, v4, v5, v6, v9, h3, rfl⟩ k3
            cases hz : l.drop i with
            | nil => rw [hz] at h3; cases h3
            | cons p rest =>
              rw [hz] at h3
              obtain ⟨rfl, rfl⟩ : d = .tup [.int (i : Nat), pD p] ∧ ds = numD (i + 1) (rest.map pD) := by
                simp only [List.map_cons, numD, List.cons.injEq] at h3
                exact h3
              have hi : l[i]? = some p := by
                have := congrArg (fun z : List Pa => z[0]?) hz
                simpa using this
              have hil : i < l.length := (List.getElem?_eq_some_iff.mp hi).1
              have hr : rest = l.drop (i + 1) := by
                have := congrArg List.tail hz
                simpa [List.tail_drop] using this.symm
              have hp := hl p (List.mem_of_getElem? hi)
              have ei : ((i : Int) + 1) = ((i + 1 : Nat) : Int) := by omega
              simp? [onI_nat (P0 i p hi).1, onI_nat (P0 i p hi).2]
              refine alone_ok hp.b0 hp.ht hp.hb ?_
              simp? [true_and]
              rw [ei, rangeD_nat]
              refine ⟨by omega, ?_⟩
              refine forL_ind (fun ds ρ g' => ∃ (J : List Nat) (v9 : Option D), ds = J.map (fun j => .int (j : Nat)) ∧ (∀ j ∈ J, j ≤ i) ∧ ρ = [some (.lst (ns.map D.int)), some (.int x), some (.adr a), some (.lst (l.map pD)), some (.int (i : Nat)), some (.int (p.t : Nat)), some (.int (p.b : Nat)), v7, some (.lst (l.map wD)), v9]) ?_ ?_ _ _ _ ⟨List.range (i + 1), v9, rfl, fun j hj => by have := List.mem_range.mp hj; omega, rfl⟩
              · rintro d ds ρ g8 K4 ⟨J, v9, h4, hJ, rfl⟩ k4
                cases J with
                | nil => cases h4
                | cons j J =>
                  simp only [List.map_cons, List.cons.injEq] at h4
                  obtain ⟨rfl, rfl⟩ := h4
                  have hj := hJ j List.mem_cons_self
                  have hjl : j < l.length := by omega
                  have hq := hl l[j] (List.getElem_mem hjl)
                  have hj2 : l[j]? = some l[j] := List.getElem?_eq_getElem hjl
                  simp? [onI_nat (P0 i p hi).1, onI_nat (P0 i p hi).2, onI_nat (P0 j _ hj2).1, onI_nat (P0 j _ hj2).2]
                  refine two_right_ok hp.b0 hp.hb hq.b0 hq.hb ?_
                  simp? [true_and]
                  exact k4 _ _ ⟨J, _, rfl, fun y hy => hJ y (List.mem_cons_of_mem _ hy), rfl⟩
              · rintro ρ g8 ⟨J, v9, h4, hJ, rfl⟩
                simp? [true_and]
                exact ⟨rfl, k3 _ _ ⟨i + 1, _, _, _, _, by rw [hr], rfl⟩⟩
          · rintro ρ g7 ⟨i, v4, v5, v6, v9, h3, rfl⟩
            simp? [true_and]
            exact k _ _ ⟨L, _, _, _, _, _, _, _, _, _, rfl, rfl⟩
  · rintro ρ g6 ⟨L, u1, u2, u3, u4, u5, u6, u7, u8, u9, h1, rfl⟩
    simp? [true_and]
  · simp

end Law
open PySem PySem.W PySem.Calls PyProof.Rows in
set_option maxHeartbeats 0 in
theorem PySem.Challenge.cw_casknotes_k04_weights_by_their_words_holds : PySem.Challenge.rw_casknotes_k04_weights_by_their_words.Holds := by
  w_on; o_law
  refine HandSHeadRun.head_any (r := OpenLaw.row PySem.Challenge.rw_casknotes_k04_weights_by_their_words) (q := view (OpenLaw.row PySem.Challenge.rw_casknotes_k04_weights_by_their_words).prog [23]) (H := Law.hk) (ob := Law.ob) (M := 20000) (loose := Law.loose) (d := HandSHeadRun.topDef (OpenLaw.row PySem.Challenge.rw_casknotes_k04_weights_by_their_words).prog 23) (kwd := []) Law.ob_eq
    (by kernel_rfl) (fun s => by kernel_rfl) Law.run (by kernel_rfl) (by kernel_rfl) (by kernel_rfl) (by rfl) (by first | assumption | decide +kernel) (by decide +kernel) ⟨rfl, rfl, rfl, rfl, rfl, by decide +kernel⟩ ?hw ?hc
  case hw => w_witness2
  case hc =>
    refine Cn.walk_ofC (l := PySem.Challenge.rw_casknotes_k04_weights_by_their_words) (n := 63) rfl (by decide) (by kernel_rfl) ?F
    intro w mg fa h Y G hmg0
    obtain ⟨K, KX, c⟩ := Y
    have hmg : mg ("law" : PySem.Str) = some (.ref fa) := by
      have e : (HandSHeadRun.topDef (OpenLaw.row PySem.Challenge.rw_casknotes_k04_weights_by_their_words).prog 23).name = ("law" : PySem.Str) := by kernel_rfl
      rw [← e]
      exact hmg0
    have e := hmg.symm.trans ((Cn.top_of KX G c.chk).fns "law" 136 (by kernel_rfl)).1
    cases e
    exact ⟨K, Law.lw.tab K, 3 * 20 + 110, Cn.den Law.tbl 20 136, KX, c.1, ⟨rfl, by decide, by decide⟩, fun ns h1 h2 => Law.law_ok ns h1 h2, fun base X' G' => Cn.den_ok X' G' c Law.tbl_ok Law.rpok Law.rzok Law.hotok base 20 136⟩

