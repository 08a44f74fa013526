import PyProof.Rows.All
import Wide.All
import OpenK.AllK
import Wide.FinOn
import HandS.ForMost
import HandS.Exc
import HandS.TryOnly
import HandS.ExcOwn
import HandS.WordsExc
import HandS.Wide
import HandS.TupAny
import HandS.TupMul
import HandS.Style
import HandS.SortInts
import HandS.Gcd
import HandS.IsInst
import KE.KMathGC
import HandS.HeadHook1
import HandS.Defaults
import HandS.Walk
import HandS.Rev
import HandS.Comp
import HandS.ExcIs
import HandS.Head0
import HandS.Head1
import HandS.Head2
import HandS.HeadEnd
import HandS.EndBits
import HandS.HeadHook2
import HandS.Iter
import HandS.Zip
import HandS.Zip0
import HandS.TupLe
import HandS.Deep
import KE.SortData
import Lean
import PySem.Challenge.RW_hecate_k30_lists_of_matrices
set_option Elab.async false
set_option linter.all false
set_option maxRecDepth 100000
set_option maxHeartbeats 0
namespace DL
open PySem PySem.Spec PyProof.Rows L2

/-! ### data -/
inductive D where
  | non | bl (b : Bool) | int (i : Int) | str (x : Str)
  | lst (xs : List D) | tup (xs : List D) | scr (ns : List Int)
  | dT (kvs : List (List Key × D)) | dK (kvs : List (Key × D))
  | obj (c : Str) (fs : List (Str × D))

/-- what is owned: a persistent datum; a list of such; a list of owned lists; dicts; an instance -/
inductive O where
  | per (d : D) | l (ds : List D) | m (rows : List (List D))
  | dT (kvs : List (List Key × D)) | dK (kvs : List (Key × D))
  | obj (c : Str) (fs : List (Str × O))

mutual
def O.toD : O → D
  | .per d => d
  | .l ds => .lst ds
  | .m rows => .lst (rows.map .lst)
  | .dT kvs => .dT kvs
  | .dK kvs => .dK kvs
  | .obj c fs => .obj c (O.toDs fs)
def O.toDs : List (Str × O) → List (Str × D)
  | [] => []
  | (f, o) :: r => (f, O.toD o) :: O.toDs r
end

section
variable (K : PySem.W.Frag) (mg : Str → Option Value)
mutual
def Dat (F : Hp) : D → V → Prop
  | .non, v => v = .non
  | .bl b, v => v = .bl b
  | .int i, v => v = .int i
  | .str x, v => v = .str x
  | .lst ds, v => ∃ a xs, v = .ref a ∧ F a = some (.lst xs) ∧ DatL F ds xs
  | .scr ns, v => ∃ a, v = .ref a ∧ SqL K F a (ns.map V.int)
  | .tup ds, v => ∃ a xs, v = .ref a ∧ SqT K F a xs ∧ DatL F ds xs
  | .dT kvs, v => ∃ a xs, v = .ref a ∧ F a = some (.dT xs) ∧ DatT F kvs xs
  | .dK kvs, v => ∃ a xs, v = .ref a ∧ F a = some (.dK xs) ∧ DatK F kvs xs
  | .obj c fs, v => ∃ a C dx xs, v = .ref a ∧ F a = some (.ins C dx xs) ∧ mg c = some (.ref C) ∧ DatF F fs xs
def DatL (F : Hp) : List D → List V → Prop
  | [], xs => xs = []
  | d :: ds, xs => ∃ v r, xs = v :: r ∧ Dat F d v ∧ DatL F ds r
def DatT (F : Hp) : List (List Key × D) → List (List Key × V) → Prop
  | [], xs => xs = []
  | (k, d) :: ds, xs => ∃ v r, xs = (k, v) :: r ∧ Dat F d v ∧ DatT F ds r
def DatK (F : Hp) : List (Key × D) → List (Key × V) → Prop
  | [], xs => xs = []
  | (k, d) :: ds, xs => ∃ v r, xs = (k, v) :: r ∧ Dat F d v ∧ DatK F ds r
def DatF (F : Hp) : List (Str × D) → List (Str × V) → Prop
  | [], xs => xs = []
  | (k, d) :: ds, xs => ∃ v r, xs = (k, v) :: r ∧ Dat F d v ∧ DatF F ds r
end
end
theorem sqT_same {K : PySem.W.Frag} {H H' : Hp} {a : Addr} {xs : List V} (e : Same H H') (h : SqT K H a xs) : SqT K H' a xs := by
  rcases h with (h | ⟨o, h⟩) | h
  · exact .inl (.inl (e _ _ h))
  · exact .inl (.inr ⟨o, e _ _ h⟩)
  · exact .inr h
section
variable {K : PySem.W.Frag} {mg : Str → Option Value}
mutual
theorem Dat.same {F F' : Hp} (e : Same F F') : ∀ (d : D) (v : V), Dat K mg F d v → Dat K mg F' d v
  | .non, v, h => by simpa [Dat] using h
  | .bl b, v, h => by simpa [Dat] using h
  | .int i, v, h => by simpa [Dat] using h
  | .str x, v, h => by simpa [Dat] using h
  | .lst ds, v, h => by
    simp only [Dat] at h ⊢
    obtain ⟨a, xs, h1, h2, h3⟩ := h
    exact ⟨a, xs, h1, e _ _ h2, DatL.same e ds xs h3⟩
  | .scr ns, v, h => by
    simp only [Dat] at h ⊢
    obtain ⟨a, h1, h2⟩ := h
    exact ⟨a, h1, e.seq h2⟩
  | .tup ds, v, h => by
    simp only [Dat] at h ⊢
    obtain ⟨a, xs, h1, h2, h3⟩ := h
    exact ⟨a, xs, h1, sqT_same e h2, DatL.same e ds xs h3⟩
  | .dT kvs, v, h => by
    simp only [Dat] at h ⊢
    obtain ⟨a, xs, h1, h2, h3⟩ := h
    exact ⟨a, xs, h1, e _ _ h2, DatT.same e kvs xs h3⟩
  | .dK kvs, v, h => by
    simp only [Dat] at h ⊢
    obtain ⟨a, xs, h1, h2, h3⟩ := h
    exact ⟨a, xs, h1, e _ _ h2, DatK.same e kvs xs h3⟩
  | .obj c fs, v, h => by
    simp only [Dat] at h ⊢
    obtain ⟨a, C, dx, xs, h1, h2, h3, h4⟩ := h
    exact ⟨a, C, dx, xs, h1, e _ _ h2, h3, DatF.same e fs xs h4⟩
theorem DatL.same {F F' : Hp} (e : Same F F') : ∀ (ds : List D) (xs : List V), DatL K mg F ds xs → DatL K mg F' ds xs
  | [], xs, h => by simpa [DatL] using h
  | d :: ds, xs, h => by
    simp only [DatL] at h ⊢
    obtain ⟨v, r, h1, h2, h3⟩ := h
    exact ⟨v, r, h1, Dat.same e d v h2, DatL.same e ds r h3⟩
theorem DatT.same {F F' : Hp} (e : Same F F') : ∀ (ds : List (List Key × D)) (xs : List (List Key × V)), DatT K mg F ds xs → DatT K mg F' ds xs
  | [], xs, h => by simpa [DatT] using h
  | (k, d) :: ds, xs, h => by
    simp only [DatT] at h ⊢
    obtain ⟨v, r, h1, h2, h3⟩ := h
    exact ⟨v, r, h1, Dat.same e d v h2, DatT.same e ds r h3⟩
theorem DatK.same {F F' : Hp} (e : Same F F') : ∀ (ds : List (Key × D)) (xs : List (Key × V)), DatK K mg F ds xs → DatK K mg F' ds xs
  | [], xs, h => by simpa [DatK] using h
  | (k, d) :: ds, xs, h => by
    simp only [DatK] at h ⊢
    obtain ⟨v, r, h1, h2, h3⟩ := h
    exact ⟨v, r, h1, Dat.same e d v h2, DatK.same e ds r h3⟩
theorem DatF.same {F F' : Hp} (e : Same F F') : ∀ (ds : List (Str × D)) (xs : List (Str × V)), DatF K mg F ds xs → DatF K mg F' ds xs
  | [], xs, h => by simpa [DatF] using h
  | (k, d) :: ds, xs, h => by
    simp only [DatF] at h ⊢
    obtain ⟨v, r, h1, h2, h3⟩ := h
    exact ⟨v, r, h1, Dat.same e d v h2, DatF.same e ds r h3⟩
end
theorem DatL.length {F : Hp} : ∀ {ds : List D} {xs : List V}, DatL K mg F ds xs → xs.length = ds.length
  | [], xs, h => by simp only [DatL] at h; subst h; rfl
  | d :: ds, xs, h => by
    simp only [DatL] at h
    obtain ⟨v, r, rfl, _, h3⟩ := h
    simp [DatL.length h3]
theorem DatL.get {F : Hp} : ∀ {ds : List D} {xs : List V} {i : Nat} {d : D}, DatL K mg F ds xs → ds[i]? = some d → ∃ v, xs[i]? = some v ∧ Dat K mg F d v
  | [], xs, i, d, h, e => by simp at e
  | d0 :: ds, xs, 0, d, h, e => by
    simp only [DatL] at h
    obtain ⟨v, r, rfl, h2, h3⟩ := h
    simp at e; subst e
    exact ⟨v, rfl, h2⟩
  | d0 :: ds, xs, i + 1, d, h, e => by
    simp only [DatL] at h
    obtain ⟨v, r, rfl, h2, h3⟩ := h
    obtain ⟨w, q1, q2⟩ := DatL.get (i := i) h3 (by simpa using e)
    exact ⟨w, by simpa using q1, q2⟩
theorem DatL.get' {F : Hp} : ∀ {ds : List D} {xs : List V} {i : Nat} {v : V}, DatL K mg F ds xs → xs[i]? = some v → ∃ d, ds[i]? = some d ∧ Dat K mg F d v := by
  intro ds xs i v h e
  have hl := h.length
  have hi : i < ds.length := by
    rw [← hl]
    exact (List.getElem?_eq_some_iff.mp e).1
  obtain ⟨w, q1, q2⟩ := h.get (List.getElem?_eq_getElem hi)
  rw [e] at q1
  cases q1
  exact ⟨_, List.getElem?_eq_getElem hi, q2⟩
theorem DatL.append {F : Hp} : ∀ {ds es : List D} {xs ys : List V}, DatL K mg F ds xs → DatL K mg F es ys → DatL K mg F (ds ++ es) (xs ++ ys)
  | [], es, xs, ys, h, h' => by simp only [DatL] at h; subst h; simpa using h'
  | d :: ds, es, xs, ys, h, h' => by
    simp only [DatL] at h
    obtain ⟨v, r, rfl, h2, h3⟩ := h
    show DatL K mg F (d :: (ds ++ es)) (v :: (r ++ ys))
    simp only [DatL]
    exact ⟨v, _, rfl, h2, DatL.append h3 h'⟩
theorem DatL.nil {F : Hp} : DatL K mg F [] [] := by simp [DatL]
theorem DatL.cons {F : Hp} {d : D} {ds : List D} {v : V} {xs : List V} (h : Dat K mg F d v) (h' : DatL K mg F ds xs) : DatL K mg F (d :: ds) (v :: xs) := by
  simp only [DatL]; exact ⟨v, xs, rfl, h, h'⟩
theorem DatL.one {F : Hp} {d : D} {v : V} (h : Dat K mg F d v) : DatL K mg F [d] [v] := .cons h .nil
theorem DatL.take {F : Hp} : ∀ (n : Nat) {ds : List D} {xs : List V}, DatL K mg F ds xs → DatL K mg F (ds.take n) (xs.take n)
  | 0, ds, xs, h => by simp [DatL]
  | n + 1, [], xs, h => by simp only [DatL] at h; subst h; simp [DatL]
  | n + 1, d :: ds, xs, h => by
    simp only [DatL] at h
    obtain ⟨v, r, rfl, h2, h3⟩ := h
    simp only [List.take_succ_cons]
    exact .cons h2 (DatL.take n h3)
theorem DatL.drop {F : Hp} : ∀ (n : Nat) {ds : List D} {xs : List V}, DatL K mg F ds xs → DatL K mg F (ds.drop n) (xs.drop n)
  | 0, ds, xs, h => by simpa using h
  | n + 1, [], xs, h => by simp only [DatL] at h; subst h; simp [DatL]
  | n + 1, d :: ds, xs, h => by
    simp only [DatL] at h
    obtain ⟨v, r, rfl, h2, h3⟩ := h
    simpa using DatL.drop n h3
theorem DatL.set {F : Hp} {d : D} {v : V} (hd : Dat K mg F d v) : ∀ (i : Nat) {ds : List D} {xs : List V}, DatL K mg F ds xs → DatL K mg F (ds.set i d) (xs.set i v)
  | i, [], xs, h => by simp only [DatL] at h; subst h; simp [DatL]
  | 0, d0 :: ds, xs, h => by
    simp only [DatL] at h
    obtain ⟨w, r, rfl, h2, h3⟩ := h
    exact .cons hd h3
  | i + 1, d0 :: ds, xs, h => by
    simp only [DatL] at h
    obtain ⟨w, r, rfl, h2, h3⟩ := h
    exact .cons h2 (DatL.set hd i h3)
theorem DatL.reverse {F : Hp} : ∀ {ds : List D} {xs : List V}, DatL K mg F ds xs → DatL K mg F ds.reverse xs.reverse
  | [], xs, h => by simp only [DatL] at h; subst h; simp [DatL]
  | d :: ds, xs, h => by
    simp only [DatL] at h
    obtain ⟨w, r, rfl, h2, h3⟩ := h
    rw [List.reverse_cons, List.reverse_cons]
    exact (DatL.reverse h3).append (.one h2)
theorem DatL.mem {F : Hp} {ds : List D} {xs : List V} (h : DatL K mg F ds xs) {v : V} (hv : v ∈ xs) : ∃ d, d ∈ ds ∧ Dat K mg F d v := by
  obtain ⟨i, e⟩ := List.mem_iff_getElem?.mp hv
  obtain ⟨d, q1, q2⟩ := h.get' e
  exact ⟨d, List.mem_of_getElem? q1, q2⟩
end

/-! ### ownership: own a = some π says that a is the node of the path π (from the leaf up; the last entry: 0 a fresh result, i + 1 the slot i) -/
abbrev Own := Addr → Option (List Nat)
section
variable (K : PySem.W.Frag) (mg : Str → Option Value)
def RowsAt (F H : Hp) (own : Own) (π : List Nat) : Nat → List (List D) → List V → Prop
  | _, [], xs => xs = []
  | i, row :: rows, xs => ∃ b ys r, xs = .ref b :: r ∧ own b = some (i :: π) ∧ H b = some (.lst ys) ∧ DatL K mg F row ys ∧ RowsAt F H own π (i + 1) rows r
mutual
def Rep (F H : Hp) (own : Own) : List Nat → O → V → Prop
  | _, .per d, v => Dat K mg F d v
  | π, .l ds, v => ∃ a xs, v = .ref a ∧ own a = some π ∧ H a = some (.lst xs) ∧ DatL K mg F ds xs
  | π, .m rows, v => ∃ a xs, v = .ref a ∧ own a = some π ∧ H a = some (.lst xs) ∧ RowsAt K mg F H own π 0 rows xs
  | π, .dT kvs, v => ∃ a xs, v = .ref a ∧ own a = some π ∧ H a = some (.dT xs) ∧ DatT K mg F kvs xs
  | π, .dK kvs, v => ∃ a xs, v = .ref a ∧ own a = some π ∧ H a = some (.dK xs) ∧ DatK K mg F kvs xs
  | π, .obj c fs, v => ∃ a C dx xs, v = .ref a ∧ own a = some π ∧ H a = some (.ins C dx xs) ∧ mg c = some (.ref C) ∧ RepF F H own π 0 fs xs
def RepF (F H : Hp) (own : Own) (π : List Nat) : Nat → List (Str × O) → List (Str × V) → Prop
  | _, [], xs => xs = []
  | i, (f, o) :: fs, xs => ∃ v r, xs = (f, v) :: r ∧ Rep F H own (i :: π) o v ∧ RepF F H own π (i + 1) fs r
end
end
section
variable {K : PySem.W.Frag} {mg : Str → Option Value}
/-- what a representation leans on: F may grow, H may change off its own nodes, own may be renamed -/
theorem RowsAt.keep {F F' H H' : Hp} {own own' : Own} {π π' : List Nat} (e : Same F F') (q : ∀ a l o, own a = some (l ++ π) → H a = some o → own' a = some (l ++ π') ∧ H' a = some o) :
    ∀ (rows : List (List D)) (i : Nat) (xs : List V), RowsAt K mg F H own π i rows xs → RowsAt K mg F' H' own' π' i rows xs
  | [], i, xs, h => by simpa only [RowsAt] using h
  | row :: rows, i, xs, h => by
    simp only [RowsAt] at h ⊢
    obtain ⟨b, ys, r, h1, h2, h3, h4, h5⟩ := h
    obtain ⟨q1, q2⟩ := q b [i] _ h2 h3
    exact ⟨b, ys, r, h1, q1, q2, h4.same e, RowsAt.keep e q rows (i + 1) r h5⟩
mutual
theorem Rep.keep {F F' H H' : Hp} {own own' : Own} : ∀ (o : O) {π π' : List Nat} {v : V}, Same F F' → (∀ a l o, own a = some (l ++ π) → H a = some o → own' a = some (l ++ π') ∧ H' a = some o) →
    Rep K mg F H own π o v → Rep K mg F' H' own' π' o v
  | .per d, π, π', v, e, q, h => by
    simp only [Rep] at h ⊢
    exact h.same e
  | .l ds, π, π', v, e, q, h => by
    simp only [Rep] at h ⊢
    obtain ⟨a, xs, h1, h2, h3, h4⟩ := h
    obtain ⟨q1, q2⟩ := q a [] _ h2 h3
    exact ⟨a, xs, h1, q1, q2, h4.same e⟩
  | .m rows, π, π', v, e, q, h => by
    simp only [Rep] at h ⊢
    obtain ⟨a, xs, h1, h2, h3, h4⟩ := h
    obtain ⟨q1, q2⟩ := q a [] _ h2 h3
    exact ⟨a, xs, h1, q1, q2, RowsAt.keep e q rows 0 xs h4⟩
  | .dT kvs, π, π', v, e, q, h => by
    simp only [Rep] at h ⊢
    obtain ⟨a, xs, h1, h2, h3, h4⟩ := h
    obtain ⟨q1, q2⟩ := q a [] _ h2 h3
    exact ⟨a, xs, h1, q1, q2, h4.same e⟩
  | .dK kvs, π, π', v, e, q, h => by
    simp only [Rep] at h ⊢
    obtain ⟨a, xs, h1, h2, h3, h4⟩ := h
    obtain ⟨q1, q2⟩ := q a [] _ h2 h3
    exact ⟨a, xs, h1, q1, q2, h4.same e⟩
  | .obj c fs, π, π', v, e, q, h => by
    simp only [Rep] at h ⊢
    obtain ⟨a, C, dx, xs, h1, h2, h3, h4, h5⟩ := h
    obtain ⟨q1, q2⟩ := q a [] _ h2 h3
    exact ⟨a, C, dx, xs, h1, q1, q2, h4, RepF.keep fs 0 e q h5⟩
theorem RepF.keep {F F' H H' : Hp} {own own' : Own} : ∀ (fs : List (Str × O)) (i : Nat) {π π' : List Nat} {xs : List (Str × V)}, Same F F' → (∀ a l o, own a = some (l ++ π) → H a = some o → own' a = some (l ++ π') ∧ H' a = some o) →
    RepF K mg F H own π i fs xs → RepF K mg F' H' own' π' i fs xs
  | [], i, π, π', xs, e, q, h => by simpa only [RepF] using h
  | (f, o) :: fs, i, π, π', xs, e, q, h => by
    simp only [RepF] at h ⊢
    obtain ⟨v, r, h1, h2, h3⟩ := h
    refine ⟨v, r, h1, Rep.keep o e (fun a l ob w1 w2 => ?_) h2, RepF.keep fs (i + 1) e q h3⟩
    have := q a (l ++ [i]) ob (by simpa using w1) w2
    simpa using this
end
/-- an owned thing read by its data: over any heap that has its nodes -/
theorem RowsAt.dat {F F' H : Hp} {own : Own} {π : List Nat} (e : Same F F') (q : ∀ a l o, own a = some (l ++ π) → H a = some o → F' a = some o) :
    ∀ (rows : List (List D)) (i : Nat) (xs : List V), RowsAt K mg F H own π i rows xs → DatL K mg F' (rows.map .lst) xs
  | [], i, xs, h => by simp only [RowsAt] at h; subst h; exact .nil
  | row :: rows, i, xs, h => by
    simp only [RowsAt] at h
    obtain ⟨b, ys, r, h1, h2, h3, h4, h5⟩ := h
    subst h1
    refine .cons ?_ (RowsAt.dat e q rows (i + 1) r h5)
    simp only [Dat]
    exact ⟨b, ys, rfl, q b [i] _ h2 h3, h4.same e⟩
mutual
theorem Rep.dat {F F' H : Hp} {own : Own} : ∀ (o : O) {π : List Nat} {v : V}, Same F F' → (∀ a l o, own a = some (l ++ π) → H a = some o → F' a = some o) → Rep K mg F H own π o v → Dat K mg F' o.toD v
  | .per d, π, v, e, q, h => by
    simp only [Rep] at h
    exact h.same e
  | .l ds, π, v, e, q, h => by
    simp only [Rep] at h
    obtain ⟨a, xs, h1, h2, h3, h4⟩ := h
    simp only [O.toD, Dat]
    exact ⟨a, xs, h1, q a [] _ h2 h3, h4.same e⟩
  | .m rows, π, v, e, q, h => by
    simp only [Rep] at h
    obtain ⟨a, xs, h1, h2, h3, h4⟩ := h
    simp only [O.toD, Dat]
    exact ⟨a, xs, h1, q a [] _ h2 h3, RowsAt.dat e q rows 0 xs h4⟩
  | .dT kvs, π, v, e, q, h => by
    simp only [Rep] at h
    obtain ⟨a, xs, h1, h2, h3, h4⟩ := h
    simp only [O.toD, Dat]
    exact ⟨a, xs, h1, q a [] _ h2 h3, h4.same e⟩
  | .dK kvs, π, v, e, q, h => by
    simp only [Rep] at h
    obtain ⟨a, xs, h1, h2, h3, h4⟩ := h
    simp only [O.toD, Dat]
    exact ⟨a, xs, h1, q a [] _ h2 h3, h4.same e⟩
  | .obj c fs, π, v, e, q, h => by
    simp only [Rep] at h
    obtain ⟨a, C, dx, xs, h1, h2, h3, h4, h5⟩ := h
    simp only [O.toD, Dat]
    exact ⟨a, C, dx, xs, h1, q a [] _ h2 h3, h4, RepF.dat fs 0 e q h5⟩
theorem RepF.dat {F F' H : Hp} {own : Own} : ∀ (fs : List (Str × O)) (i : Nat) {π : List Nat} {xs : List (Str × V)}, Same F F' → (∀ a l o, own a = some (l ++ π) → H a = some o → F' a = some o) → RepF K mg F H own π i fs xs → DatF K mg F' (O.toDs fs) xs
  | [], i, π, xs, e, q, h => by
    simp only [RepF] at h
    subst h
    simp only [O.toDs, DatF]
  | (f, o) :: fs, i, π, xs, e, q, h => by
    simp only [RepF] at h
    obtain ⟨v, r, h1, h2, h3⟩ := h
    simp only [O.toDs, DatF]
    refine ⟨v, r, h1, Rep.dat o e (fun a l ob w1 w2 => q a (l ++ [i]) ob (by simpa using w1) w2) h2, RepF.dat fs (i + 1) e q h3⟩
end
end

/-! ### the state -/
abbrev DSt := List (Option O)
/-- what is fixed through a body: what stood at the entry (untouched), what may be named there -/
structure Bd where
  U : Hp
  F0 : Hp
  ck : L2.St → Prop := fun _ => True
structure Sat (K : PySem.W.Frag) (mg : Str → Option Value) (B : Bd) (F : Hp) (own : Own) (s : DSt) (σ : L2.St) (H : Hp) : Prop where
  u : Same B.U H
  f : Same F H
  f0 : Same B.F0 F
  new : ∀ a o, F a = some o → B.F0 a = some o ∨ B.U a = none
  slot : ∀ i o, s[i]? = some (some o) → ∃ v, σ[i]? = some (some v) ∧ Rep K mg F H own [i + 1] o v
  own : ∀ a π, own a = some π → B.U a = none ∧ F a = none ∧ H a ≠ none
  len : s.length = σ.length
  ck : B.ck σ
/-- nothing is asked of the slots -/
abbrev Fre (B : Bd) : Prop := ∀ σ, B.ck σ
section
variable {K : PySem.W.Frag} {mg : Str → Option Value} {B : Bd} {F : Hp} {H : Hp} {own : Own} {s : DSt} {σ : L2.St}
/-- the heap grows by things that nobody names -/
theorem Sat.grow (S : Sat K mg B F own s σ H) {H' : Hp} (e : Same H H') : Sat K mg B F own s σ H' :=
  ⟨S.u.trans e, S.f.trans e, S.f0, S.new, fun i o q => by
    obtain ⟨v, h1, h2⟩ := S.slot i o q
    exact ⟨v, h1, h2.keep o (Same.refl F) fun a l ob w1 w2 => ⟨w1, e _ _ w2⟩⟩, fun a π q => by
    obtain ⟨h1, h2, h3⟩ := S.own a π q
    refine ⟨h1, h2, ?_⟩
    cases z : H a with
    | none => exact absurd z h3
    | some ob => rw [e _ _ z]; simp, S.len, S.ck⟩
theorem same_upd {H : Hp} {p : Addr} {o : HO} (h : H p = none) : Same H (upd H p o) := fun b x e => by
  rw [upd_ne (ne_of_none e h)]
  exact e
/-- a new persistent object -/
theorem Sat.lay (S : Sat K mg B F own s σ H) {p : Addr} {ob : HO} (hp : H p = none) : Sat K mg B (upd F p ob) own s σ (upd H p ob) ∧ Same F (upd F p ob) ∧ Same H (upd H p ob) := by
  have hF : F p = none := S.f.free hp
  have hU : B.U p = none := S.u.free hp
  have eF : Same F (upd F p ob) := same_upd hF
  have eH : Same H (upd H p ob) := same_upd hp
  refine ⟨⟨S.u.trans eH, fun b o e => ?_, S.f0.trans eF, fun a o e => ?_, fun i o e => ?_, fun a π e => ?_, S.len, S.ck⟩, eF, eH⟩
  · unfold upd at e ⊢
    split at e
    · rename_i hb
      rw [if_pos hb]
      exact e
    · rename_i hb
      rw [if_neg hb]
      exact S.f _ _ e
  · by_cases hb : a = p
    · exact .inr (hb ▸ hU)
    · rw [upd_ne hb] at e
      exact S.new a o e
  · obtain ⟨v, h1, h2⟩ := S.slot i o e
    exact ⟨v, h1, h2.keep o eF fun a l ob w1 w2 => ⟨w1, eH _ _ w2⟩⟩
  · obtain ⟨h1, h2, h3⟩ := S.own a π e
    have hb : a ≠ p := fun z => h3 (z ▸ hp)
    exact ⟨h1, by rw [upd_ne hb]; exact h2, by rw [upd_ne hb]; exact h3⟩
/-- a new owned object at the path π -/
def ownAt (own : Own) (p : Addr) (π : List Nat) : Own := fun a => if a = p then some π else own a
theorem Sat.layOwn (S : Sat K mg B F own s σ H) {p : Addr} {ob : HO} (π : List Nat) (hp : H p = none) :
    Sat K mg B F (ownAt own p π) s σ (upd H p ob) ∧ Same H (upd H p ob) := by
  have hF : F p = none := S.f.free hp
  have hU : B.U p = none := S.u.free hp
  have eH : Same H (upd H p ob) := same_upd hp
  refine ⟨⟨S.u.trans eH, S.f.trans eH, S.f0, S.new, fun i o e => ?_, fun a π e => ?_, S.len, S.ck⟩, eH⟩
  · obtain ⟨v, h1, h2⟩ := S.slot i o e
    refine ⟨v, h1, h2.keep o (Same.refl F) fun a l ob w1 w2 => ⟨?_, eH _ _ w2⟩⟩
    unfold ownAt
    rw [if_neg (ne_of_none w2 hp)]
    exact w1
  · unfold ownAt at e
    by_cases hb : a = p
    · subst hb
      exact ⟨hU, hF, by rw [upd_same]; simp⟩
    · rw [if_neg hb] at e
      obtain ⟨h1, h2, h3⟩ := S.own a _ e
      exact ⟨h1, h2, by rw [upd_ne hb]; exact h3⟩
theorem ownAt_same {own : Own} {p : Addr} {π : List Nat} : ownAt own p π p = some π := by unfold ownAt; rw [if_pos rfl]
theorem ownAt_ne {own : Own} {p a : Addr} {π : List Nat} (h : a ≠ p) : ownAt own p π a = own a := by unfold ownAt; rw [if_neg h]

/-! ### freezing: the nodes of the root r become persistent -/
def rootIs (r : Nat) : Option (List Nat) → Bool
  | some π => π.getLast? == some r
  | none => false
theorem rootIs_of {r : Nat} {l : List Nat} : rootIs r (some (l ++ [r])) = true := by simp [rootIs]
theorem rootIs_ne {r q : Nat} {l : List Nat} (h : q ≠ r) : rootIs r (some (l ++ [q])) = false := by simp [rootIs, h]
def frzF (F H : Hp) (own : Own) (r : Nat) : Hp := fun a => if rootIs r (own a) = true then H a else F a
def frzO (own : Own) (r : Nat) : Own := fun a => if rootIs r (own a) = true then none else own a
theorem Sat.frzF_same (S : Sat K mg B F own s σ H) (r : Nat) : Same F (frzF F H own r) := fun a o e => by
  unfold frzF
  split
  · rename_i h
    cases q : own a with
    | none => rw [q] at h; cases h
    | some π =>
      obtain ⟨_, h2, _⟩ := S.own a π q
      rw [h2] at e
      cases e
  · exact e
theorem Sat.frz_dat (S : Sat K mg B F own s σ H) {r : Nat} {o : O} {v : V} (h : Rep K mg F H own [r] o v) : Dat K mg (frzF F H own r) o.toD v :=
  h.dat o (S.frzF_same r) fun a l ob w1 w2 => by
    unfold frzF
    rw [w1, rootIs_of, if_pos rfl]
    exact w2
theorem Sat.frz_core (S : Sat K mg B F own s σ H) (r : Nat) (s' : DSt) (hl : s'.length = s.length) (hs : ∀ i o, s'[i]? = some (some o) → (i + 1 ≠ r ∧ s[i]? = some (some o)) ∨ (i + 1 = r ∧ ∃ o', s[i]? = some (some o') ∧ o = .per o'.toD)) :
    Sat K mg B (frzF F H own r) (frzO own r) s' σ H := by
  refine ⟨S.u, fun a o e => ?_, S.f0.trans (S.frzF_same r), fun a o e => ?_, fun i o e => ?_, fun a π e => ?_, hl.trans S.len, S.ck⟩
  · unfold frzF at e
    split at e
    · exact e
    · exact S.f _ _ e
  · unfold frzF at e
    split at e
    · rename_i h
      cases q : own a with
      | none => rw [q] at h; cases h
      | some π => exact .inr (S.own a π q).1
    · exact S.new _ _ e
  · rcases hs i o e with ⟨hne, e'⟩ | ⟨he, o', e', rfl⟩
    · obtain ⟨v, h1, h2⟩ := S.slot i o e'
      refine ⟨v, h1, h2.keep o (S.frzF_same r) fun a l ob w1 w2 => ⟨?_, w2⟩⟩
      unfold frzO
      rw [w1, rootIs_ne hne]
      rfl
    · obtain ⟨v, h1, h2⟩ := S.slot i o' e'
      refine ⟨v, h1, ?_⟩
      simp only [Rep]
      subst he
      exact S.frz_dat h2
  · unfold frzO at e
    split at e
    · cases e
    · rename_i h
      obtain ⟨h1, h2, h3⟩ := S.own a π e
      refine ⟨h1, ?_, h3⟩
      unfold frzF
      rw [if_neg h]
      exact h2
/-- a fresh result becomes persistent -/
theorem Sat.frz0 (S : Sat K mg B F own s σ H) {o : O} {v : V} (h : Rep K mg F H own [0] o v) : Sat K mg B (frzF F H own 0) (frzO own 0) s σ H ∧ Same F (frzF F H own 0) ∧ Dat K mg (frzF F H own 0) o.toD v :=
  ⟨S.frz_core 0 s rfl fun i o e => .inl ⟨Nat.succ_ne_zero i, e⟩, S.frzF_same 0, S.frz_dat h⟩
/-- a slot becomes persistent -/
theorem Sat.frzSlot (S : Sat K mg B F own s σ H) {i : Nat} {o : O} (h : s[i]? = some (some o)) : Sat K mg B (frzF F H own (i + 1)) (frzO own (i + 1)) (s.set i (some (.per o.toD))) σ H ∧ Same F (frzF F H own (i + 1)) := by
  refine ⟨S.frz_core (i + 1) _ (List.length_set ..) fun j u e => ?_, S.frzF_same _⟩
  by_cases hj : j = i
  · subst hj
    refine .inr ⟨rfl, o, h, ?_⟩
    have hi : j < s.length := (List.getElem?_eq_some_iff.mp h).1
    rw [List.getElem?_set_self hi] at e
    cases e
    rfl
  · rw [List.getElem?_set_ne (Ne.symm hj)] at e
    exact .inl ⟨fun z => hj (Nat.succ.inj z), e⟩
/-! ### storing a fresh result into a slot -/
def reOwn (own : Own) (r q : Nat) : Own := fun a => if rootIs r (own a) = true then (own a).map fun π => π.dropLast ++ [q] else own a
theorem reOwn_hit {own : Own} {r q : Nat} {a : Addr} {l : List Nat} (h : own a = some (l ++ [r])) : reOwn own r q a = some (l ++ [q]) := by
  unfold reOwn
  rw [h, rootIs_of, if_pos rfl]
  simp
theorem reOwn_miss {own : Own} {r q p : Nat} {a : Addr} {l : List Nat} (h : own a = some (l ++ [p])) (hp : p ≠ r) : reOwn own r q a = some (l ++ [p]) := by
  unfold reOwn
  rw [h, rootIs_ne hp]
  rfl
theorem Sat.store (S : Sat K mg B F own s σ H) (hB : Fre B) {o : O} {v : V} {i : Nat} (h : Rep K mg F H own [0] o v) : Sat K mg B F (reOwn own 0 (i + 1)) (s.set i (some o)) (σ.set i (some v)) H := by
  refine ⟨S.u, S.f, S.f0, S.new, fun j u e => ?_, fun a π e => ?_, by rw [List.length_set, List.length_set]; exact S.len, hB _⟩
  · by_cases hj : j = i
    · subst hj
      have hi : j < s.length := by
        have z := (List.getElem?_eq_some_iff.mp e).1
        rw [List.length_set] at z
        exact z
      rw [List.getElem?_set_self hi] at e
      cases e
      refine ⟨v, List.getElem?_set_self (S.len ▸ hi), h.keep o (Same.refl F) fun a l ob w1 w2 => ⟨reOwn_hit w1, w2⟩⟩
    · rw [List.getElem?_set_ne (Ne.symm hj)] at e
      obtain ⟨w, h1, h2⟩ := S.slot j u e
      refine ⟨w, by rw [List.getElem?_set_ne (Ne.symm hj)]; exact h1, h2.keep u (Same.refl F) fun a l ob w1 w2 => ⟨reOwn_miss w1 (Nat.succ_ne_zero j), w2⟩⟩
  · unfold reOwn at e
    split at e
    · cases q : own a with
      | none => rw [q] at e; cases e
      | some π' => exact S.own a π' q
    · exact S.own a π e
/-- .. a persistent one -/
theorem Sat.storeD (S : Sat K mg B F own s σ H) (hB : Fre B) {d : D} {v : V} {i : Nat} (h : Dat K mg F d v) : Sat K mg B F own (s.set i (some (.per d))) (σ.set i (some v)) H := by
  refine ⟨S.u, S.f, S.f0, S.new, fun j u e => ?_, S.own, by rw [List.length_set, List.length_set]; exact S.len, hB _⟩
  by_cases hj : j = i
  · subst hj
    have hi : j < s.length := by
      have z := (List.getElem?_eq_some_iff.mp e).1
      rw [List.length_set] at z
      exact z
    rw [List.getElem?_set_self hi] at e
    cases e
    refine ⟨v, List.getElem?_set_self (S.len ▸ hi), ?_⟩
    simp only [Rep]
    exact h
  · rw [List.getElem?_set_ne (Ne.symm hj)] at e
    obtain ⟨w, h1, h2⟩ := S.slot j u e
    exact ⟨w, by rw [List.getElem?_set_ne (Ne.symm hj)]; exact h1, h2⟩
/-- an owned node is written -/
theorem Sat.write (S : Sat K mg B F own s σ H) {p : Addr} {ob : HO} {l : List Nat} {i : Nat} {o : O} {v : V} (hp : own p = some (l ++ [i + 1])) (hv : σ[i]? = some (some v)) (hr : Rep K mg F (upd H p ob) own [i + 1] o v) :
    Sat K mg B F own (s.set i (some o)) σ (upd H p ob) := by
  obtain ⟨pu, pf, ph⟩ := S.own p _ hp
  have keep : ∀ {G : Hp}, Same G H → G p = none → Same G (upd H p ob) := fun e z a x q => by
    rw [upd_ne (ne_of_none q z)]
    exact e _ _ q
  refine ⟨keep S.u pu, keep S.f pf, S.f0, S.new, fun j u e => ?_, fun a π e => ?_, by rw [List.length_set]; exact S.len, S.ck⟩
  · by_cases hj : j = i
    · subst hj
      have hi : j < s.length := by
        have z := (List.getElem?_eq_some_iff.mp e).1
        rw [List.length_set] at z
        exact z
      rw [List.getElem?_set_self hi] at e
      cases e
      exact ⟨v, hv, hr⟩
    · rw [List.getElem?_set_ne (Ne.symm hj)] at e
      obtain ⟨w, h1, h2⟩ := S.slot j u e
      refine ⟨w, h1, h2.keep u (Same.refl F) fun a l' ob' w1 w2 => ⟨w1, ?_⟩⟩
      have ne : a ≠ p := fun z => by
        rw [z, hp] at w1
        have z2 := Option.some.inj w1
        have z3 := congrArg List.getLast? z2
        simp at z3
        exact hj z3.symm
      rw [upd_ne ne]
      exact w2
  · obtain ⟨h1, h2, h3⟩ := S.own a π e
    refine ⟨h1, h2, ?_⟩
    by_cases z : a = p
    · rw [z, upd_same]; simp
    · rw [upd_ne z]; exact h3
end

/-! ### results -/
inductive R (α : Type) where
  | ok (a : α) | exc (c : Str) | bad
def R.bind {α β : Type} : R α → (α → R β) → R β
  | .ok a, f => f a
  | .exc c, _ => .exc c
  | .bad, _ => .bad
def R.map {α β : Type} (f : α → β) : R α → R β
  | .ok a => .ok (f a)
  | .exc c => .exc c
  | .bad => .bad
def R.of {α : Type} : Option α → R α
  | some a => .ok a
  | none => .bad
abbrev ED := DSt → R D
abbrev EO := DSt → R O
section
variable (K : PySem.W.Frag) (mg : Str → Option Value)
abbrev Rl (α β : Type) := Hp → Own → Hp → α → β → Prop
def rD : Rl D V := fun F _ _ d v => Dat K mg F d v
def rO : Rl O V := fun F own H o v => Rep K mg F H own [0] o v
def rB : Rl Bool Bool := fun _ _ _ a b => a = b
def rL : Rl (List D) (List V) := fun F _ _ ds vs => DatL K mg F ds vs
/-- the top node anywhere in the heap, what it holds persistent -/
def Pk (F H : Hp) : D → V → Prop
  | .lst ds, v => ∃ a xs, v = .ref a ∧ H a = some (.lst xs) ∧ DatL K mg F ds xs
  | .dT kvs, v => ∃ a xs, v = .ref a ∧ H a = some (.dT xs) ∧ DatT K mg F kvs xs
  | .dK kvs, v => ∃ a xs, v = .ref a ∧ H a = some (.dK xs) ∧ DatK K mg F kvs xs
  | .obj c fs, v => ∃ a C dx xs, v = .ref a ∧ H a = some (.ins C dx xs) ∧ mg c = some (.ref C) ∧ DatF K mg F fs xs
  | d, v => Dat K mg F d v
def rP : Rl D V := fun F _ H d v => Pk K mg F H d v
/-- any depth, over the whole heap (for ==) -/
def rQ : Rl D V := fun _ _ H d v => Dat K mg H d v
def Post {α β : Type} (B : Bd) (W : WX) (rl : Rl α β) (F : Hp) (s : DSt) (σ : L2.St) (H : Hp) (r : R α) (Q : β → Hp → Prop) : Prop :=
  match r with
  | .ok a => ∀ F' own' H' b, Same F F' → Same H H' → Sat K mg B F' own' s σ H' → rl F' own' H' a b → Q b H'
  | .exc c => ∀ C F' own' H', mg c = some (.ref C) → Same F F' → Same H H' → Sat K mg B F' own' s σ H' → W (.ref C) none σ H'
  | .bad => False
def tG {α β : Type} (B : Bd) (W : WX) (rl : Rl α β) (w : DSt → R α) (σ : L2.St) (H : Hp) (Q : β → Hp → Prop) : Prop :=
  ∃ F own s, Sat K mg B F own s σ H ∧ Post K mg B W rl F s σ H (w s) Q
end
section
variable {K : PySem.W.Frag} {mg : Str → Option Value} {B : Bd} {W : WX} {α β γ δ : Type} {rl : Rl α β} {rl' : Rl γ δ} {F F1 H H1 : Hp} {s : DSt} {σ : L2.St}
theorem Post.from {r : R α} {Q : β → Hp → Prop} (h : Post K mg B W rl F s σ H r Q) (e : Same F F1) (eH : Same H H1) : Post K mg B W rl F1 s σ H1 r Q := by
  cases r with
  | ok a => exact fun F' own' H' b e1 e2 S q => h F' own' H' b (e.trans e1) (eH.trans e2) S q
  | exc c => exact fun C F' own' H' hm e1 e2 S => h C F' own' H' hm (e.trans e1) (eH.trans e2) S
  | bad => exact h
theorem Post.bind {r : R γ} {k : γ → R α} {Q : β → Hp → Prop} {Q1 : δ → Hp → Prop} (h : Post K mg B W rl F s σ H (r.bind k) Q)
    (hk : ∀ x F' own' H' v, Sat K mg B F' own' s σ H' → Same F F' → Same H H' → rl' F' own' H' x v → Post K mg B W rl F' s σ H' (k x) Q → Q1 v H') : Post K mg B W rl' F s σ H r Q1 := by
  cases r with
  | ok a => exact fun F' own' H' b e1 e2 S q => hk a F' own' H' b S e1 e2 q (Post.from (show Post K mg B W rl F s σ H (k a) Q from h) e1 e2)
  | exc c => exact h
  | bad => exact h
/-- the end of a rule, nothing laid -/
theorem Post.done {own : Own} {a : α} {b : β} {Q : β → Hp → Prop} (h : Post K mg B W rl F s σ H (.ok a) Q) (S : Sat K mg B F own s σ H) (q : rl F own H a b) : Q b H :=
  h F own H b (Same.refl F) (Same.refl H) S q
theorem Post.layD {own : Own} {d : D} {v : V} {Q : VK} {p : Addr} {ob : HO} (h : Post K mg B W (rD K mg) F s σ H (.ok d) Q) (S : Sat K mg B F own s σ H) (hp : H p = none) (q : Dat K mg (upd F p ob) d v) : Q v (upd H p ob) := by
  obtain ⟨S', e1, e2⟩ := S.lay (ob := ob) hp
  exact h _ own _ v e1 e2 S' q
theorem Post.layO {own : Own} {o : O} {v : V} {Q : VK} {p : Addr} {ob : HO} (h : Post K mg B W (rO K mg) F s σ H (.ok o) Q) (S : Sat K mg B F own s σ H) (hp : H p = none) (q : Rep K mg F (upd H p ob) (ownAt own p [0]) [0] o v) : Q v (upd H p ob) := by
  obtain ⟨S', e2⟩ := S.layOwn (ob := ob) [0] hp
  exact h F _ _ v (Same.refl F) e2 S' q
theorem Pk.of {d : D} {v : V} (e : Same F H) (h : Dat K mg F d v) : Pk K mg F H d v := by
  cases d with
  | lst ds =>
    simp only [Dat] at h
    obtain ⟨a, xs, h1, h2, h3⟩ := h
    exact ⟨a, xs, h1, e _ _ h2, h3⟩
  | dT ds =>
    simp only [Dat] at h
    obtain ⟨a, xs, h1, h2, h3⟩ := h
    exact ⟨a, xs, h1, e _ _ h2, h3⟩
  | dK ds =>
    simp only [Dat] at h
    obtain ⟨a, xs, h1, h2, h3⟩ := h
    exact ⟨a, xs, h1, e _ _ h2, h3⟩
  | obj c fs =>
    simp only [Dat] at h
    obtain ⟨a, C, dx, xs, h1, h2, h3, h4⟩ := h
    exact ⟨a, C, dx, xs, h1, e _ _ h2, h3, h4⟩
  | _ => exact h
/-- a peek at a later heap -/
theorem Pk.later {d : D} {v : V} {F' H' : Hp} (e : Same F F') (eH : Same H H') (h : Pk K mg F H d v) : Pk K mg F' H' d v := by
  cases d with
  | lst ds =>
    obtain ⟨a, xs, h1, h2, h3⟩ := h
    exact ⟨a, xs, h1, eH _ _ h2, h3.same e⟩
  | dT ds =>
    obtain ⟨a, xs, h1, h2, h3⟩ := h
    exact ⟨a, xs, h1, eH _ _ h2, h3.same e⟩
  | dK ds =>
    obtain ⟨a, xs, h1, h2, h3⟩ := h
    exact ⟨a, xs, h1, eH _ _ h2, h3.same e⟩
  | obj c fs =>
    obtain ⟨a, C, dx, xs, h1, h2, h3, h4⟩ := h
    exact ⟨a, C, dx, xs, h1, eH _ _ h2, h3, h4.same e⟩
  | non => exact (show Dat K mg F' (D.non) v from Dat.same e (D.non) v (show Dat K mg F (D.non) v from h))
  | bl b => exact (show Dat K mg F' (D.bl b) v from Dat.same e (D.bl b) v (show Dat K mg F (D.bl b) v from h))
  | int b => exact (show Dat K mg F' (D.int b) v from Dat.same e (D.int b) v (show Dat K mg F (D.int b) v from h))
  | tup b => exact (show Dat K mg F' (D.tup b) v from Dat.same e (D.tup b) v (show Dat K mg F (D.tup b) v from h))
  | scr b => exact (show Dat K mg F' (D.scr b) v from Dat.same e (D.scr b) v (show Dat K mg F (D.scr b) v from h))
  | str b => exact (show Dat K mg F' (D.str b) v from Dat.same e (D.str b) v (show Dat K mg F (D.str b) v from h))
theorem Pk.dat {d : D} {v : V} (e : Same F H) (h : Pk K mg F H d v) : Dat K mg H d v := by
  cases d with
  | lst ds =>
    obtain ⟨a, xs, h1, h2, h3⟩ := h
    simp only [Dat]
    exact ⟨a, xs, h1, h2, h3.same e⟩
  | dT ds =>
    obtain ⟨a, xs, h1, h2, h3⟩ := h
    simp only [Dat]
    exact ⟨a, xs, h1, h2, h3.same e⟩
  | dK ds =>
    obtain ⟨a, xs, h1, h2, h3⟩ := h
    simp only [Dat]
    exact ⟨a, xs, h1, h2, h3.same e⟩
  | obj c fs =>
    obtain ⟨a, C, dx, xs, h1, h2, h3, h4⟩ := h
    simp only [Dat]
    exact ⟨a, C, dx, xs, h1, h2, h3, h4.same e⟩
  | non => exact (show Dat K mg H (D.non) v from Dat.same e (D.non) v (show Dat K mg F (D.non) v from h))
  | bl b => exact (show Dat K mg H (D.bl b) v from Dat.same e (D.bl b) v (show Dat K mg F (D.bl b) v from h))
  | int b => exact (show Dat K mg H (D.int b) v from Dat.same e (D.int b) v (show Dat K mg F (D.int b) v from h))
  | tup b => exact (show Dat K mg H (D.tup b) v from Dat.same e (D.tup b) v (show Dat K mg F (D.tup b) v from h))
  | scr b => exact (show Dat K mg H (D.scr b) v from Dat.same e (D.scr b) v (show Dat K mg F (D.scr b) v from h))
  | str b => exact (show Dat K mg H (D.str b) v from Dat.same e (D.str b) v (show Dat K mg F (D.str b) v from h))
end
end DL

namespace DL
open PySem PySem.Spec PyProof.Rows L2

/-! ### judgements -/
section
variable (X : Cx) (B : Bd) (W : WX)
abbrev DE (e : Expr) (w : ED) : Prop := PE X e (tG X.K X.mg B W (rD X.K X.mg) w)
abbrev DO (e : Expr) (w : EO) : Prop := PE X e (tG X.K X.mg B W (rO X.K X.mg) w)
abbrev DP (e : Expr) (w : ED) : Prop := PE X e (tG X.K X.mg B W (rP X.K X.mg) w)
abbrev DQ (e : Expr) (w : ED) : Prop := PE X e (tG X.K X.mg B W (rQ X.K X.mg) w)
abbrev DT (e : Expr) (w : DSt → R Bool) : Prop := PT X e (tG X.K X.mg B W rB w)
abbrev DW (e : Expr) (w : DSt → R Bool) : Prop := PW X e (tG X.K X.mg B W rB w)
abbrev DA (es : List Expr) (w : DSt → R (List D)) : Prop := PA X es (tG X.K X.mg B W (rL X.K X.mg) w)
end
theorem peImp {X : Cx} {e : Expr} {t t' : TE} (h : PE X e t) (k : ∀ σ H Q, t' σ H Q → t σ H Q) : PE X e t' := ⟨fun pins s σ H Q I q => h.run pins s σ H Q I (k σ H Q q)⟩
theorem ptImp {X : Cx} {e : Expr} {t t' : TT} (h : PT X e t) (k : ∀ σ H Q, t' σ H Q → t σ H Q) : PT X e t' := ⟨fun pins s σ H Q I q => h.run pins s σ H Q I (k σ H Q q)⟩
theorem pwImp {X : Cx} {e : Expr} {t t' : TT} (h : PW X e t) (k : ∀ σ H Q, t' σ H Q → t σ H Q) : PW X e t' := ⟨fun wh pins s σ H Q I q => h.run wh pins s σ H Q I (k σ H Q q)⟩
theorem paImp {X : Cx} {es : List Expr} {t t' : TA} (h : PA X es t) (k : ∀ σ H Q, t' σ H Q → t σ H Q) : PA X es t' := ⟨fun pos pins s σ H Q I q => h.run pos pins s σ H Q I (k σ H Q q)⟩
section
variable {X : Cx} {B : Bd} {W : WX} {e a b c : Expr} {es : List Expr} {w wa wb wc : ED} {pos : Pos}
/-! ### from one judgement to another -/
theorem DO.de {w : EO} (h : DO X B W e w) : DE X B W e (fun s => (w s).map O.toD) := by
  refine peImp h fun σ H Q ⟨F, own, s, S, q⟩ => ⟨F, own, s, S, ?_⟩
  have q : Post X.K X.mg B W (rD X.K X.mg) F s σ H ((w s).map O.toD) Q := q
  generalize w s = r at q
  cases r with
  | ok o =>
    intro F' own' H' v e1 e2 S' r
    obtain ⟨S2, e3, d⟩ := S'.frz0 (show Rep X.K X.mg F' H' own' [0] o v from r)
    exact q _ _ H' v (e1.trans e3) e2 S2 d
  | exc c => exact q
  | bad => exact q
theorem DE.dp (h : DE X B W e w) : DP X B W e w := by
  refine peImp h fun σ H Q ⟨F, own, s, S, q⟩ => ⟨F, own, s, S, ?_⟩
  have q : Post X.K X.mg B W (rP X.K X.mg) F s σ H (w s) Q := q
  show Post X.K X.mg B W (rD X.K X.mg) F s σ H (w s) Q
  generalize w s = r at q ⊢
  cases r with
  | ok o => exact fun F' own' H' v e1 e2 S' r => q F' own' H' v e1 e2 S' (Pk.of S'.f r)
  | exc c => exact q
  | bad => exact q
theorem DP.dq (h : DP X B W e w) : DQ X B W e w := by
  refine peImp h fun σ H Q ⟨F, own, s, S, q⟩ => ⟨F, own, s, S, ?_⟩
  have q : Post X.K X.mg B W (rQ X.K X.mg) F s σ H (w s) Q := q
  show Post X.K X.mg B W (rP X.K X.mg) F s σ H (w s) Q
  generalize w s = r at q ⊢
  cases r with
  | ok o => exact fun F' own' H' v e1 e2 S' r => q F' own' H' v e1 e2 S' (Pk.dat S'.f r)
  | exc c => exact q
  | bad => exact q
/-! ### names and constants -/
def dC (d : D) : ED := fun _ => .ok d
theorem de_int {i : Int} {j} : DE X B W (.Constant (.int i) j pos) (dC (.int i)) :=
  peImp pe_int fun σ H Q ⟨F, own, s, S, q⟩ => q F own H _ (Same.refl _) (Same.refl _) S (by simp [rD, Dat])
theorem de_bl {i : Bool} {j} : DE X B W (.Constant (.bool i) j pos) (dC (.bl i)) :=
  peImp pe_bl fun σ H Q ⟨F, own, s, S, q⟩ => q F own H _ (Same.refl _) (Same.refl _) S (by simp [rD, Dat])
theorem de_str {i : Str} {j} : DE X B W (.Constant (.str i) j pos) (dC (.str i)) :=
  peImp pe_str fun σ H Q ⟨F, own, s, S, q⟩ => q F own H _ (Same.refl _) (Same.refl _) S (by simp [rD, Dat])
theorem de_non {j} : DE X B W (.Constant .none j pos) (dC .non) :=
  peImp pe_non fun σ H Q ⟨F, own, s, S, q⟩ => q F own H _ (Same.refl _) (Same.refl _) S (by simp [rD, Dat])
def dVar (i : Nat) : ED := fun s => match s[i]? with
  | some (some (.per d)) => .ok d
  | _ => .bad
def O.top : O → Option D
  | .per d => some d
  | .l ds => some (.lst ds)
  | .dT kvs => some (.dT kvs)
  | .dK kvs => some (.dK kvs)
  | _ => none
def dPeek (i : Nat) : ED := fun s => match s[i]? with
  | some (some o) => R.of o.top
  | _ => .bad
def dSee (i : Nat) : ED := fun s => match s[i]? with
  | some (some o) => .ok o.toD
  | _ => .bad
theorem tVar_of {i : Nat} {e : Expr} {wv : DSt → R D} {rl : Rl D V} (h : PE X e (tVar i))
    (k : ∀ F own s σ H d, Sat X.K X.mg B F own s σ H → wv s = .ok d → ∃ v, σ[i]? = some (some v) ∧ rl F own H d v) (k2 : ∀ s, wv s = .bad ∨ ∃ d, wv s = .ok d) : PE X e (tG X.K X.mg B W rl wv) := by
  refine peImp h fun σ H Q ⟨F, own, s, S, q⟩ => ?_
  rcases k2 s with z | ⟨d, z⟩
  · rw [z] at q; exact q.elim
  · rw [z] at q
    obtain ⟨v, h1, h2⟩ := k F own s σ H d S z
    exact ⟨v, h1, q F own H v (Same.refl _) (Same.refl _) S h2⟩
theorem de_var (i : Nat) (h : PE X e (tVar i)) : DE X B W e (dVar i) := by
  refine tVar_of h (fun F own s σ H d S z => ?_) fun s => ?_
  · unfold dVar at z
    split at z
    · rename_i d' hs
      cases z
      obtain ⟨v, h1, h2⟩ := S.slot i _ hs
      exact ⟨v, h1, (show Dat X.K X.mg F d v by simpa only [Rep] using h2)⟩
    · cases z
  · unfold dVar
    split
    · exact .inr ⟨_, rfl⟩
    · exact .inl rfl
theorem dp_var (i : Nat) (h : PE X e (tVar i)) : DP X B W e (dPeek i) := by
  refine tVar_of h (fun F own s σ H d S z => ?_) fun s => ?_
  · unfold dPeek at z
    split at z
    · rename_i o hs
      obtain ⟨v, h1, h2⟩ := S.slot i _ hs
      refine ⟨v, h1, ?_⟩
      cases o with
      | per d' =>
        cases z
        exact Pk.of S.f (by simpa only [Rep] using h2)
      | l ds =>
        cases z
        simp only [Rep] at h2
        obtain ⟨a, xs, q1, q2, q3, q4⟩ := h2
        exact ⟨a, xs, q1, q3, q4⟩
      | dT kvs =>
        cases z
        simp only [Rep] at h2
        obtain ⟨a, xs, q1, q2, q3, q4⟩ := h2
        exact ⟨a, xs, q1, q3, q4⟩
      | dK kvs =>
        cases z
        simp only [Rep] at h2
        obtain ⟨a, xs, q1, q2, q3, q4⟩ := h2
        exact ⟨a, xs, q1, q3, q4⟩
      | m rows => cases z
      | obj c fs => cases z
    · cases z
  · unfold dPeek
    split
    · rename_i o hs
      cases o.top with
      | none => exact .inl rfl
      | some d => exact .inr ⟨_, rfl⟩
    · exact .inl rfl
theorem dq_var (i : Nat) (h : PE X e (tVar i)) : DQ X B W e (dSee i) := by
  refine tVar_of h (fun F own s σ H d S z => ?_) fun s => ?_
  · unfold dSee at z
    split at z
    · rename_i o hs
      cases z
      obtain ⟨v, h1, h2⟩ := S.slot i _ hs
      refine ⟨v, h1, h2.dat o S.f fun a l ob w1 w2 => w2⟩
    · cases z
  · unfold dSee
    split
    · exact .inr ⟨_, rfl⟩
    · exact .inl rfl
/-! ### operators: scalars out -/
def d2 (f : D → D → Option D) (wa wb : ED) : ED := fun s => (wa s).bind fun x => (wb s).bind fun y => R.of (f x y)
def d1 (f : D → Option D) (wa : ED) : ED := fun s => (wa s).bind fun x => R.of (f x)
def Sca (d : D) (v : V) : Prop := ∀ (K : PySem.W.Frag) (mg : Str → Option Value) (G : Hp), Dat K mg G d v
theorem sca_int {i : Int} : Sca (.int i) (.int i) := fun _ _ _ => by simp [Dat]
theorem sca_bl {i : Bool} : Sca (.bl i) (.bl i) := fun _ _ _ => by simp [Dat]
theorem sca_str {i : Str} : Sca (.str i) (.str i) := fun _ _ _ => by simp [Dat]
theorem sca_non : Sca .non .non := fun _ _ _ => by simp [Dat]
variable {rla rlb : Rl D V}
/-- two operands, then a reading r that ends in a scalar -/
theorem t2_sca {ra rb : Rl D V} {f : D → D → Option D} {r : R2} {σ : L2.St} {H : Hp} {Q : VK} (keep : ∀ F F' own own' H H' d v, Same F F' → Same H H' → ra F own H d v → ra F' own' H' d v)
    (k : ∀ F own H x y v u z, Same F H → ra F own H x v → rb F own H y u → f x y = some z → ∃ w, Sca z w ∧ ∀ Q : VK, Q w H → r v u H Q)
    (h : tG X.K X.mg B W (rD X.K X.mg) (d2 f wa wb) σ H Q) : tOp r (tG X.K X.mg B W ra wa) (tG X.K X.mg B W rb wb) σ H Q := by
  obtain ⟨F, own, s, S, q⟩ := h
  refine ⟨F, own, s, S, Post.bind q fun x F1 own1 H1 v S1 e1 eH1 dx q1 => ⟨F1, own1, s, S1, Post.bind q1 fun y F2 own2 H2 u S2 e2 eH2 dy q2 => ?_⟩⟩
  cases hf : f x y with
  | none => rw [hf] at q2; exact q2.elim
  | some z =>
    rw [hf] at q2
    obtain ⟨w, hw, hr⟩ := k F2 own2 H2 x y v u z S2.f (keep _ _ _ _ _ _ _ _ e2 eH2 dx) dy hf
    exact hr Q (q2 F2 own2 H2 w (Same.refl _) (Same.refl _) S2 (hw _ _ _))
theorem keepD {K : PySem.W.Frag} {mg : Str → Option Value} : ∀ (F F' : Hp) (own own' : Own) (H H' : Hp) (d : D) (v : V), Same F F' → Same H H' → rD K mg F own H d v → rD K mg F' own' H' d v := fun _ _ _ _ _ _ d v e _ h => Dat.same e d v h
theorem keepP {K : PySem.W.Frag} {mg : Str → Option Value} : ∀ (F F' : Hp) (own own' : Own) (H H' : Hp) (d : D) (v : V), Same F F' → Same H H' → rP K mg F own H d v → rP K mg F' own' H' d v := fun _ _ _ _ _ _ d v e eH h => Pk.later e eH h
theorem keepQ {K : PySem.W.Frag} {mg : Str → Option Value} : ∀ (F F' : Hp) (own own' : Own) (H H' : Hp) (d : D) (v : V), Same F F' → Same H H' → rQ K mg F own H d v → rQ K mg F' own' H' d v := fun _ _ _ _ _ _ d v _ eH h => Dat.same eH d v h
/-- ints in, a scalar out -/
def ii (f : Int → Int → Option D) : D → D → Option D
  | .int i, .int j => f i j
  | _, _ => none
theorem ii_some {f : Int → Int → Option D} {x y z : D} (h : ii f x y = some z) : ∃ i j, x = .int i ∧ y = .int j ∧ f i j = some z := by
  cases x with
  | int i =>
    cases y with
    | int j => exact ⟨i, j, rfl, rfl, h⟩
    | _ => cases h
  | _ => cases h
theorem de_ii {op : Operator} {C : Int → Int → Prop} {g : Int → Int → V} {f : Int → Int → Option D} (ho : OpR X (binaryOp op) (rI C g)) (hf : ∀ i j z, f i j = some z → C i j ∧ Sca z (g i j)) (ha : DE X B W a wa) (hb : DE X B W b wb) :
    DE X B W (.BinOp a op b pos) (d2 (ii f) wa wb) :=
  peImp (pe_op ho ha hb) fun σ H Q h => t2_sca keepD (fun F own H x y v u z e dx dy hz => by
    obtain ⟨i, j, rfl, rfl, hz⟩ := ii_some hz
    obtain ⟨c, sc⟩ := hf i j z hz
    have ev : v = .int i := by simpa [rD, Dat] using dx
    have eu : u = .int j := by simpa [rD, Dat] using dy
    exact ⟨_, sc, fun Q q => ⟨i, j, ev, eu, c, q⟩⟩) h
theorem rI0_rI {g : Int → Int → V} {f : Value → Value → Sem Value} (h : OpR X f (rI0 g)) : OpR X f (rI (fun _ _ => True) g) := fun pins s σ H x y v u Q I rx ry ⟨i, j, h1, h2, _, q⟩ => h pins s σ H x y v u Q I rx ry ⟨i, j, h1, h2, q⟩
def addI (i j : Int) : Option D := some (.int (i + j))
def subI (i j : Int) : Option D := some (.int (i - j))
def mulI (i j : Int) : Option D := if i.natAbs.log2 + j.natAbs.log2 < 1000000 then some (.int (i * j)) else none
def divI (i j : Int) : Option D := if j ≠ 0 ∧ j.natAbs.log2 < 9000 then some (.int (i.fdiv j)) else none
def modI (i j : Int) : Option D := if j ≠ 0 then some (.int (i.fmod j)) else none
def powI (i j : Int) : Option D := if 0 ≤ j ∧ j ≤ 1000000 ∧ i.natAbs < 2 ^ 64 then some (.int (i ^ j.toNat)) else none
theorem de_add (ha : DE X B W a wa) (hb : DE X B W b wb) : DE X B W (.BinOp a .Add b pos) (d2 (ii addI) wa wb) := de_ii (rI0_rI op_add) (fun i j z h => by cases h; exact ⟨trivial, sca_int⟩) ha hb
theorem de_sub (ha : DE X B W a wa) (hb : DE X B W b wb) : DE X B W (.BinOp a .Sub b pos) (d2 (ii subI) wa wb) := de_ii (rI0_rI op_sub) (fun i j z h => by cases h; exact ⟨trivial, sca_int⟩) ha hb
theorem de_mul (ha : DE X B W a wa) (hb : DE X B W b wb) : DE X B W (.BinOp a .Mult b pos) (d2 (ii mulI) wa wb) := de_ii op_mulW (fun i j z h => by
  unfold mulI at h
  split at h
  · rename_i hc
    cases h
    exact ⟨hc, sca_int⟩
  · cases h) ha hb
theorem op_fdivG : OpR X (binaryOp .FloorDiv) (rI (fun _ j => j ≠ 0 ∧ j.natAbs.log2 < 9000) fun i j => .int (i.fdiv j)) := opI fun _ _ _ _ _ _ _ hc q => floordiv_int hc.1 q (.inl (PyProof.noPylong_of_log2 hc.2))
theorem de_div (ha : DE X B W a wa) (hb : DE X B W b wb) : DE X B W (.BinOp a .FloorDiv b pos) (d2 (ii divI) wa wb) := de_ii op_fdivG (fun i j z h => by
  unfold divI at h
  split at h
  · rename_i hc
    cases h
    exact ⟨hc, sca_int⟩
  · cases h) ha hb
theorem de_mod (ha : DE X B W a wa) (hb : DE X B W b wb) : DE X B W (.BinOp a .Mod b pos) (d2 (ii modI) wa wb) := de_ii op_modN (fun i j z h => by
  unfold modI at h
  split at h
  · rename_i hc
    cases h
    exact ⟨hc, sca_int⟩
  · cases h) ha hb
theorem de_pow (ha : DE X B W a wa) (hb : DE X B W b wb) : DE X B W (.BinOp a .Pow b pos) (d2 (ii powI) wa wb) := de_ii op_pow (fun i j z h => by
  unfold powI at h
  split at h
  · rename_i hc
    cases h
    exact ⟨hc, sca_int⟩
  · cases h) ha hb
def negD : D → Option D
  | .int i => some (.int (-i))
  | _ => none
theorem de_neg (ha : DE X B W a wa) : DE X B W (.UnaryOp .USub a pos) (d1 negD wa) :=
  peImp (pe_un un_neg ha) fun σ H Q ⟨F, own, s, S, q⟩ => ⟨F, own, s, S, Post.bind q fun x F1 own1 H1 v S1 e1 eH1 dx q1 => by
    cases x with
    | int i =>
      have ev : v = .int i := by simpa [rD, Dat] using dx
      exact ⟨i, ev, q1 F1 own1 H1 _ (Same.refl _) (Same.refl _) S1 (sca_int _ _ _)⟩
    | _ => exact q1.elim⟩
/-! ### comparisons of ints -/
def ltI (i j : Int) : Option D := some (.bl (decide (i < j)))
def leI (i j : Int) : Option D := some (.bl (decide (i ≤ j)))
def gtI (i j : Int) : Option D := some (.bl (decide (j < i)))
def geI (i j : Int) : Option D := some (.bl (decide (j ≤ i)))
theorem de_cmp {op : CmpOp} {g : Int → Int → V} {f : Int → Int → Option D} (ho : OpR X (compareOp op) (rI0 g)) (hf : ∀ i j, ∃ z, f i j = some z ∧ Sca z (g i j)) (ha : DE X B W a wa) (hb : DE X B W b wb) (hm : behindInMarks op b = false) :
    DE X B W (.Compare a [op] [b] pos) (d2 (ii f) wa wb) :=
  peImp (pe_cmpR ho ha hb hm) fun σ H Q h => t2_sca keepD (fun F own H x y v u z e dx dy hz => by
    obtain ⟨i, j, rfl, rfl, hz2⟩ := ii_some hz
    obtain ⟨z', hz', sc⟩ := hf i j
    rw [hz2] at hz'
    cases hz'
    have ev : v = .int i := by simpa [rD, Dat] using dx
    have eu : u = .int j := by simpa [rD, Dat] using dy
    exact ⟨_, sc, fun Q q => ⟨i, j, ev, eu, q⟩⟩) h
/-- a comparison as a test -/
def asB (w : ED) : DSt → R Bool := fun s => (w s).bind fun d => match d with
  | .bl b => .ok b
  | _ => .bad
theorem tTest_of {r : R2} {f : D → D → Option D} {ra rb : Rl D V} {σ : L2.St} {H : Hp} {Q : Bool → Hp → Prop} (keep : ∀ F F' own own' H H' d v, Same F F' → Same H H' → ra F own H d v → ra F' own' H' d v)
    (k : ∀ F own H x y v u z, Same F H → ra F own H x v → rb F own H y u → f x y = some z → ∃ w, Sca z w ∧ ∀ Q : VK, Q w H → r v u H Q)
    (h : tG X.K X.mg B W rB (asB (d2 f wa wb)) σ H Q) : tTest (tOp r (tG X.K X.mg B W ra wa) (tG X.K X.mg B W rb wb)) σ H Q := by
  obtain ⟨F, own, s, S, q⟩ := h
  refine t2_sca (W := W) keep k ⟨F, own, s, S, Post.bind (rl' := rD X.K X.mg) q fun z F1 own1 H1 v S1 e1 eH1 dx q1 => ?_⟩
  cases z with
  | bl b =>
    have ev : v = .bl b := by simpa [rD, Dat] using dx
    exact ⟨b, ev, q1 F1 own1 H1 b (Same.refl _) (Same.refl _) S1 rfl⟩
  | _ => exact q1.elim
theorem dt_cmp {op : CmpOp} {g : Int → Int → V} {f : Int → Int → Option D} (ho : OpR X (compareOp op) (rI0 g)) (hf : ∀ i j, ∃ z, f i j = some z ∧ Sca z (g i j)) (ha : DE X B W a wa) (hb : DE X B W b wb) (hm : behindInMarks op b = false) :
    DT X B W (.Compare a [op] [b] pos) (asB (d2 (ii f) wa wb)) :=
  ptImp (pt_cmpR ho ha hb hm) fun σ H Q h => tTest_of keepD (fun F own H x y v u z e dx dy hz => by
    obtain ⟨i, j, rfl, rfl, hz2⟩ := ii_some hz
    obtain ⟨z', hz', sc⟩ := hf i j
    rw [hz2] at hz'
    cases hz'
    have ev : v = .int i := by simpa [rD, Dat] using dx
    have eu : u = .int j := by simpa [rD, Dat] using dy
    exact ⟨_, sc, fun Q q => ⟨i, j, ev, eu, q⟩⟩) h
theorem de_lt (ha : DE X B W a wa) (hb : DE X B W b wb) : DE X B W (.Compare a [.Lt] [b] pos) (d2 (ii ltI) wa wb) := de_cmp op_lt (fun i j => ⟨_, rfl, sca_bl⟩) ha hb (nomark _)
theorem de_le (ha : DE X B W a wa) (hb : DE X B W b wb) : DE X B W (.Compare a [.LtE] [b] pos) (d2 (ii leI) wa wb) := de_cmp op_le (fun i j => ⟨_, rfl, sca_bl⟩) ha hb (nomark _)
theorem de_gt (ha : DE X B W a wa) (hb : DE X B W b wb) : DE X B W (.Compare a [.Gt] [b] pos) (d2 (ii gtI) wa wb) := de_cmp op_gt (fun i j => ⟨_, rfl, sca_bl⟩) ha hb (nomark _)
theorem de_ge (ha : DE X B W a wa) (hb : DE X B W b wb) : DE X B W (.Compare a [.GtE] [b] pos) (d2 (ii geI) wa wb) := de_cmp op_ge (fun i j => ⟨_, rfl, sca_bl⟩) ha hb (nomark _)
theorem dt_lt (ha : DE X B W a wa) (hb : DE X B W b wb) : DT X B W (.Compare a [.Lt] [b] pos) (asB (d2 (ii ltI) wa wb)) := dt_cmp op_lt (fun i j => ⟨_, rfl, sca_bl⟩) ha hb (nomark _)
theorem dt_le (ha : DE X B W a wa) (hb : DE X B W b wb) : DT X B W (.Compare a [.LtE] [b] pos) (asB (d2 (ii leI) wa wb)) := dt_cmp op_le (fun i j => ⟨_, rfl, sca_bl⟩) ha hb (nomark _)
theorem dt_gt (ha : DE X B W a wa) (hb : DE X B W b wb) : DT X B W (.Compare a [.Gt] [b] pos) (asB (d2 (ii gtI) wa wb)) := dt_cmp op_gt (fun i j => ⟨_, rfl, sca_bl⟩) ha hb (nomark _)
theorem dt_ge (ha : DE X B W a wa) (hb : DE X B W b wb) : DT X B W (.Compare a [.GtE] [b] pos) (asB (d2 (ii geI) wa wb)) := dt_cmp op_ge (fun i j => ⟨_, rfl, sca_bl⟩) ha hb (nomark _)
end
end DL

namespace DL
open PySem PySem.Spec PyProof.Rows L2
section
variable {X : Cx} {B : Bd} {W : WX} {e a b c : Expr} {es : List Expr} {w wa wb wc : ED} {pos : Pos} {α β γ δ : Type}
/-! ### one, two operands, any result -/
def f1 (f : α → Option γ) (wa : DSt → R α) : DSt → R γ := fun s => (wa s).bind fun x => R.of (f x)
def f2 (f : α → δ → Option γ) (wa : DSt → R α) (wb : DSt → R δ) : DSt → R γ := fun s => (wa s).bind fun x => (wb s).bind fun y => R.of (f x y)
theorem t1 {β' γ' : Type} {ra : Rl α β'} {ro : Rl γ γ'} {f : α → Option γ} {wa : DSt → R α} {r : β' → Hp → (γ' → Hp → Prop) → Prop} {σ : L2.St} {H : Hp} {Q : γ' → Hp → Prop}
    (k : ∀ F own s σ H x v z (Q : γ' → Hp → Prop), Sat X.K X.mg B F own s σ H → ra F own H x v → f x = some z → Post X.K X.mg B W ro F s σ H (.ok z) Q → r v H Q)
    (h : tG X.K X.mg B W ro (f1 f wa) σ H Q) : tG X.K X.mg B W ra wa σ H (fun v H1 => r v H1 Q) := by
  obtain ⟨F, own, s, S, q⟩ := h
  refine ⟨F, own, s, S, Post.bind q fun x F1 own1 H1 v S1 e1 eH1 dx q1 => ?_⟩
  cases hf : f x with
  | none => rw [hf] at q1; exact q1.elim
  | some z =>
    rw [hf] at q1
    exact k F1 own1 s σ H1 x v z Q S1 dx hf q1
theorem t2 {β' δ' γ' : Type} {ra : Rl α β'} {rb : Rl δ δ'} {ro : Rl γ γ'} {f : α → δ → Option γ} {wa : DSt → R α} {wb : DSt → R δ} {r : β' → δ' → Hp → (γ' → Hp → Prop) → Prop} {σ : L2.St} {H : Hp} {Q : γ' → Hp → Prop}
    (keep : ∀ F F' own own' H H' d v, Same F F' → Same H H' → ra F own H d v → ra F' own' H' d v)
    (k : ∀ F own s σ H x y v u z (Q : γ' → Hp → Prop), Sat X.K X.mg B F own s σ H → ra F own H x v → rb F own H y u → f x y = some z → Post X.K X.mg B W ro F s σ H (.ok z) Q → r v u H Q)
    (h : tG X.K X.mg B W ro (f2 f wa wb) σ H Q) : tG X.K X.mg B W ra wa σ H (fun v H1 => tG X.K X.mg B W rb wb σ H1 fun u H2 => r v u H2 Q) := by
  obtain ⟨F, own, s, S, q⟩ := h
  refine ⟨F, own, s, S, Post.bind q fun x F1 own1 H1 v S1 e1 eH1 dx q1 => ⟨F1, own1, s, S1, Post.bind q1 fun y F2 own2 H2 u S2 e2 eH2 dy q2 => ?_⟩⟩
  cases hf : f x y with
  | none => rw [hf] at q2; exact q2.elim
  | some z =>
    rw [hf] at q2
    exact k F2 own2 s σ H2 x y v u z Q S2 (keep _ _ _ _ _ _ _ _ e2 eH2 dx) dy hf q2
/-! ### argument lists, displays -/
def dNil : DSt → R (List D) := fun _ => .ok []
def dCons (w : ED) (ws : DSt → R (List D)) : DSt → R (List D) := f2 (fun x xs => some (x :: xs)) w ws
theorem da_nil : DA X B W [] dNil := paImp pa_nil fun σ H Q ⟨F, own, s, S, q⟩ => q F own H [] (Same.refl _) (Same.refl _) S DatL.nil
theorem da_cons {ws : DSt → R (List D)} (ha : DE X B W e w) (hr : DA X B W es ws) (hs : starEach (e :: es) X.env = (false, eval e X.env) :: starEach es X.env := by rfl) : DA X B W (e :: es) (dCons w ws) :=
  paImp (pa_cons ha hr hs) fun σ H Q h => t2 (r := fun v vs H Q => Q (v :: vs) H) keepD (fun F own s σ H x y v u z Q S dx dy hz q => by
    cases hz
    exact q.done S (DatL.cons dx dy)) h
def few : List D → Bool := fun xs => decide (xs.length ≤ 1000)
theorem few_ok {xs : List D} {vs : List V} {K : PySem.W.Frag} {mg : Str → Option Value} {F : Hp} (h : few xs = true) (d : DatL K mg F xs vs) : vs.length ≤ sizeLine := by
  have := of_decide_eq_true h
  rw [d.length, sizeLine_eq]
  omega
def tupO (xs : List D) : Option D := if few xs = true then some (.tup xs) else none
def lstO (xs : List D) : Option O := if few xs = true then some (.l xs) else none
theorem de_tup {ws : DSt → R (List D)} {x1} (h : DA X B W es ws) : DE X B W (.Tuple es x1 pos) (f1 tupO ws) :=
  peImp (pe_tup h) fun σ H Q h => t1 (ra := rL X.K X.mg) (ro := rD X.K X.mg) (r := fun (xs : List V) H1 Q => xs.length ≤ sizeLine ∧ ∀ p, H1 p = none → Q (.ref p) (upd H1 p (.tup xs))) (fun F own s σ H x v z Q S dx hz q => by
    unfold tupO at hz
    split at hz
    · rename_i hf
      cases hz
      refine ⟨few_ok hf dx, fun p hp => q.layD S hp ?_⟩
      simp only [Dat]
      exact ⟨p, v, rfl, .of upd_same, DatL.same (same_upd (S.f.free hp)) x v dx⟩
    · cases hz) h
theorem rep_l {K : PySem.W.Frag} {mg : Str → Option Value} {F H : Hp} {own : Own} {p : Addr} {ds : List D} {xs : List V} (h : DatL K mg F ds xs) : Rep K mg F (upd H p (.lst xs)) (ownAt own p [0]) [0] (.l ds) (.ref p) := by
  simp only [Rep]
  exact ⟨p, xs, rfl, ownAt_same, upd_same, h⟩
theorem do_lst {ws : DSt → R (List D)} (h : DA X B W es ws) : DO X B W (.List es pos) (f1 lstO ws) :=
  peImp (pe_lst h) fun σ H Q h => t1 (ra := rL X.K X.mg) (ro := rO X.K X.mg) (r := fun (xs : List V) H1 Q => xs.length ≤ sizeLine ∧ ∀ p, H1 p = none → Q (.ref p) (upd H1 p (.lst xs))) (fun F own s σ H x v z Q S dx hz q => by
    unfold lstO at hz
    split at hz
    · rename_i hf
      cases hz
      exact ⟨few_ok hf dx, fun p hp => q.layO S hp (rep_l dx)⟩
    · cases hz) h
/-! ### subscripts -/
def ixD : D → D → Option D
  | .lst ds, .int i => atI ds i
  | .tup ds, .int i => atI ds i
  | .scr ns, .int i => (atI ns i).map D.int
  | _, _ => none
theorem DatL.atI {K : PySem.W.Frag} {mg : Str → Option Value} {F : Hp} {ds : List D} {xs : List V} {i : Int} {d : D} (h : DatL K mg F ds xs) (e : L2.atI ds i = some d) : ∃ v, L2.atI xs i = some v ∧ Dat K mg F d v := by
  unfold L2.atI at e ⊢
  rw [h.length]
  cases q : ixN ds.length i with
  | none => rw [q] at e; cases e
  | some j =>
    rw [q] at e
    exact h.get (i := j) e
theorem atI_map {f : α → β} {xs : List α} {i : Int} : L2.atI (xs.map f) i = (L2.atI xs i).map f := by
  unfold L2.atI
  rw [List.length_map]
  cases ixN xs.length i with
  | none => rfl
  | some j => simp
theorem de_ix (ha : DP X B W a wa) (hb : DE X B W b wb) (hs : PlainIx b) : DE X B W (.Subscript a b pos) (f2 ixD wa wb) :=
  peImp (pe_ix (ix_list.or ix_tup) ha hb hs) fun σ H Q h => t2 (r := fun v u H Q => rIxL X.K v u H Q ∨ rIxT X.K v u H Q) keepP (fun F own s σ H x y v u z Q S dx dy hz q => by
    cases y with
    | int i =>
      have eu : u = .int i := by simpa [rD, Dat] using dy
      cases x with
      | lst ds =>
        obtain ⟨p, xs, h1, h2, h3⟩ := dx
        obtain ⟨w, q1, q2⟩ := h3.atI hz
        exact .inl ⟨p, xs, i, w, h1, eu, .of h2, q1, q.done S q2⟩
      | tup ds =>
        have dx : Dat X.K X.mg F (.tup ds) v := dx
        simp only [Dat] at dx
        obtain ⟨p, xs, h1, h2, h3⟩ := dx
        obtain ⟨w, q1, q2⟩ := h3.atI hz
        exact .inr ⟨p, xs, i, w, h1, eu, sqT_same S.f h2, q1, q.done S q2⟩
      | scr ns =>
        have dx : Dat X.K X.mg F (.scr ns) v := dx
        simp only [Dat] at dx
        obtain ⟨p, h1, h2⟩ := dx
        have hz : (L2.atI ns i).map D.int = some z := hz
        cases e : L2.atI ns i with
        | none => rw [e] at hz; cases hz
        | some n =>
          rw [e] at hz
          cases hz
          exact .inl ⟨p, ns.map V.int, i, .int n, h1, eu, S.f.seq h2, by rw [atI_map, e]; rfl, q.done S (sca_int _ _ _)⟩
      | _ => cases hz
    | _ => cases x <;> cases hz) h
/-! ### slices -/
def cutD (xs : List α) (lo hi : Option Int) : List α := (xs.drop (HT.sIx xs.length 0 lo)).take (HT.sIx xs.length xs.length hi - HT.sIx xs.length 0 lo)
theorem DatL.cut {K : PySem.W.Frag} {mg : Str → Option Value} {F : Hp} {ds : List D} {xs : List V} {lo hi : Option Int} (h : DatL K mg F ds xs) : DatL K mg F (cutD ds lo hi) (cutV xs lo hi) := by
  unfold cutD cutV
  rw [h.length]
  exact (h.drop _).take _
def dNo : DSt → R (Option Int) := fun _ => .ok none
def asI : D → Option (Option Int)
  | .int i => some (some i)
  | _ => none
def dYes (w : ED) : DSt → R (Option Int) := f1 asI w
def rN : Rl (Option Int) (Option Int) := fun _ _ _ a b => a = b
abbrev DN (X : Cx) (B : Bd) (W : WX) (e : Option Expr) (w : DSt → R (Option Int)) : Prop := PO X e (tG X.K X.mg B W rN w)
theorem poImp {e : Option Expr} {t t' : TO} (h : PO X e t) (k : ∀ σ H Q, t' σ H Q → t σ H Q) : PO X e t' := ⟨fun pins s σ H Q I q => h.run pins s σ H Q I (k σ H Q q)⟩
theorem dn_no : DN X B W none dNo := poImp po_none fun σ H Q ⟨F, own, s, S, q⟩ => q F own H none (Same.refl _) (Same.refl _) S rfl
theorem dn_yes (h : DE X B W e w) : DN X B W (some e) (dYes w) :=
  poImp (po_some h) fun σ H Q h => t1 (ra := rD X.K X.mg) (ro := rN) (r := fun (x : V) H1 (Q : Option Int → Hp → Prop) => ∃ i, x = .int i ∧ Q (some i) H1) (fun F own s σ H x v z Q S dx hz q => by
    cases x with
    | int i =>
      cases hz
      exact ⟨i, by simpa [rD, Dat] using dx, q.done S rfl⟩
    | _ => cases hz) h
def f3 {ε : Type} (f : α → δ → ε → Option γ) (wa : DSt → R α) (wb : DSt → R δ) (wc : DSt → R ε) : DSt → R γ := fun s => (wa s).bind fun x => (wb s).bind fun y => (wc s).bind fun z => R.of (f x y z)
theorem t3 {ε β' δ' ε' γ' : Type} {ra : Rl α β'} {rb : Rl δ δ'} {rc : Rl ε ε'} {ro : Rl γ γ'} {f : α → δ → ε → Option γ} {wa : DSt → R α} {wb : DSt → R δ} {wc : DSt → R ε} {r : β' → δ' → ε' → Hp → (γ' → Hp → Prop) → Prop} {σ : L2.St} {H : Hp} {Q : γ' → Hp → Prop}
    (keep : ∀ F F' own own' H H' d v, Same F F' → Same H H' → ra F own H d v → ra F' own' H' d v)
    (keepb : ∀ F F' own own' H H' d v, Same F F' → Same H H' → rb F own H d v → rb F' own' H' d v)
    (k : ∀ F own s σ H x y t v u y' z (Q : γ' → Hp → Prop), Sat X.K X.mg B F own s σ H → ra F own H x v → rb F own H y u → rc F own H t y' → f x y t = some z → Post X.K X.mg B W ro F s σ H (.ok z) Q → r v u y' H Q)
    (h : tG X.K X.mg B W ro (f3 f wa wb wc) σ H Q) : tG X.K X.mg B W ra wa σ H (fun v H1 => tG X.K X.mg B W rb wb σ H1 fun u H2 => tG X.K X.mg B W rc wc σ H2 fun y' H3 => r v u y' H3 Q) := by
  obtain ⟨F, own, s, S, q⟩ := h
  refine ⟨F, own, s, S, Post.bind q fun x F1 own1 H1 v S1 e1 eH1 dx q1 => ⟨F1, own1, s, S1, Post.bind q1 fun y F2 own2 H2 u S2 e2 eH2 dy q2 => ⟨F2, own2, s, S2, Post.bind q2 fun t F3 own3 H3 y' S3 e3 eH3 dt q3 => ?_⟩⟩⟩
  cases hf : f x y t with
  | none => rw [hf] at q3; exact q3.elim
  | some z =>
    rw [hf] at q3
    exact k F3 own3 s σ H3 x y t v u y' z Q S3 (keep _ _ _ _ _ _ _ _ (e2.trans e3) (eH2.trans eH3) dx) (keepb _ _ _ _ _ _ _ _ e3 eH3 dy) dt hf q3
def slL : D → Option Int → Option Int → Option O
  | .lst ds, lo, hi => some (.l (cutD ds lo hi))
  | .scr ns, lo, hi => some (.l ((cutD ns lo hi).map .int))
  | _, _, _ => none
theorem datL_ints {K : PySem.W.Frag} {mg : Str → Option Value} {F : Hp} : ∀ ns : List Int, DatL K mg F (ns.map D.int) (ns.map V.int)
  | [] => DatL.nil
  | n :: ns => DatL.cons (sca_int _ _ _) (datL_ints ns)
theorem cutV_map {ns : List Int} {lo hi : Option Int} : cutV (ns.map V.int) lo hi = (cutD ns lo hi).map V.int := by
  unfold cutV cutD
  rw [List.length_map, List.map_take, List.map_drop]
variable {lo hi : Option Expr} {wl wh : DSt → R (Option Int)} {p2 : Pos}
theorem keepN : ∀ (F F' : Hp) (own own' : Own) (H H' : Hp) (d v : Option Int), Same F F' → Same H H' → rN F own H d v → rN F' own' H' d v := fun _ _ _ _ _ _ _ _ _ _ h => h
/-- xs[lo:hi] of a list -/
theorem do_slL (he : DP X B W e w) (hl : DN X B W lo wl) (hh : DN X B W hi wh) : DO X B W (.Subscript e (.Slice lo hi none p2) pos) (f3 slL w wl wh) :=
  peImp (pe_slice sl_list he hl hh) fun σ H Q h => t3 (r := fun v l u H Q => rSlL X.K v l u H Q) keepP keepN (fun F own s σ H x y t v u y' z Q S dx dy dt hz q => by
    cases (show y = u from dy)
    cases (show t = y' from dt)
    cases x with
    | lst ds =>
      obtain ⟨p, xs, h1, h2, h3⟩ := dx
      cases hz
      exact ⟨p, xs, h1, .of h2, fun p hp => q.layO S hp (rep_l h3.cut)⟩
    | scr ns =>
      have dx : Dat X.K X.mg F (.scr ns) v := dx
      simp only [Dat] at dx
      obtain ⟨p, h1, h2⟩ := dx
      cases hz
      refine ⟨p, _, h1, S.f.seq h2, fun p hp => q.layO S hp ?_⟩
      rw [cutV_map]
      exact rep_l (datL_ints _)
    | _ => cases hz) h
def slT : D → Option Int → Option Int → Option D
  | .tup ds, lo, hi => some (.tup (cutD ds lo hi))
  | _, _, _ => none
/-- t[lo:hi] of a tuple -/
theorem de_slT (he : DP X B W e w) (hl : DN X B W lo wl) (hh : DN X B W hi wh) : DE X B W (.Subscript e (.Slice lo hi none p2) pos) (f3 slT w wl wh) :=
  peImp (pe_slice sl_tupA he hl hh) fun σ H Q h => t3 (r := fun v l u H Q => rSlA X.K v l u H Q) keepP keepN (fun F own s σ H x y t v u y' z Q S dx dy dt hz q => by
    cases (show y = u from dy)
    cases (show t = y' from dt)
    cases x with
    | tup ds =>
      have dx : Dat X.K X.mg F (.tup ds) v := dx
      simp only [Dat] at dx
      obtain ⟨p, xs, h1, h2, h3⟩ := dx
      cases hz
      refine ⟨p, xs, h1, sqT_same S.f h2, fun hw => q.done S ?_, fun hw p' hp => q.layD S hp ?_⟩
      · have e : cutD ds y t = ds := by
          unfold cutD
          rw [← h3.length, hw.1, hw.2, List.drop_zero, Nat.sub_zero, h3.length, List.take_length]
        simp only [rD, Dat]
        rw [e]
        exact ⟨p, xs, rfl, h2, h3⟩
      · simp only [Dat]
        exact ⟨p', _, rfl, .of upd_same, DatL.same (same_upd (S.f.free hp)) _ _ h3.cut⟩
    | _ => cases hz) h
end
end DL

namespace DL
open PySem PySem.Spec PyProof.Rows L2
section
variable {X : Cx} {B : Bd} {W : WX} {e a b c : Expr} {es rest : List Expr} {w wa wb wc : ED} {pos : Pos} {α β γ δ : Type}
/-! ### lists and tuples put together -/
def line (n : Nat) : Bool := decide (n ≤ 16777216)
theorem line_ok {n : Nat} (h : line n = true) : n ≤ sizeLine := by
  have := of_decide_eq_true h
  rw [sizeLine_eq]
  exact this
def catL : D → D → Option O
  | .lst xs, .lst ys => if line (xs.length + ys.length) = true then some (.l (xs ++ ys)) else none
  | _, _ => none
theorem do_cat (ha : DP X B W a wa) (hb : DP X B W b wb) : DO X B W (.BinOp a .Add b pos) (f2 catL wa wb) :=
  peImp (pe_op op_cat ha hb) fun σ H Q h => t2 (ra := rP X.K X.mg) (rb := rP X.K X.mg) (ro := rO X.K X.mg) (r := fun v u H Q => rCat v u H Q) keepP (fun F own s σ H x y v u z Q S dx dy hz q => by
    cases x with
    | lst xs =>
      cases y with
      | lst ys =>
        simp only [catL] at hz
        split at hz
        · rename_i hl
          cases hz
          obtain ⟨p, us, h1, h2, h3⟩ := dx
          obtain ⟨p', vs, k1, k2, k3⟩ := dy
          exact ⟨p, p', us, vs, h1, k1, h2, k2, by rw [h3.length, k3.length]; exact line_ok hl, fun p hp => q.layO S hp (rep_l (h3.append k3))⟩
        · cases hz
      | _ => cases hz
    | _ => cases y <;> cases hz) h
def repL : D → D → Option O
  | .lst xs, .int k => if -(2 ^ 63) ≤ k ∧ k < 2 ^ 63 ∧ line (xs.length * k.toNat) = true then some (.l (List.replicate k.toNat xs).flatten) else none
  | _, _ => none
theorem DatL.rep {K : PySem.W.Frag} {mg : Str → Option Value} {F : Hp} {ds : List D} {xs : List V} (h : DatL K mg F ds xs) : ∀ k : Nat, DatL K mg F (List.replicate k ds).flatten (List.replicate k xs).flatten
  | 0 => .nil
  | k + 1 => by
    rw [List.replicate_succ, List.replicate_succ, List.flatten_cons, List.flatten_cons]
    exact h.append (DatL.rep h k)
theorem do_rep (ha : DP X B W a wa) (hb : DE X B W b wb) : DO X B W (.BinOp a .Mult b pos) (f2 repL wa wb) :=
  peImp (pe_op op_rep ha hb) fun σ H Q h => t2 (ra := rP X.K X.mg) (rb := rD X.K X.mg) (ro := rO X.K X.mg) (r := fun v u H Q => rRep v u H Q) keepP (fun F own s σ H x y v u z Q S dx dy hz q => by
    cases x with
    | lst xs =>
      cases y with
      | int k =>
        simp only [repL] at hz
        split at hz
        · rename_i hl
          cases hz
          obtain ⟨p, us, h1, h2, h3⟩ := dx
          exact ⟨p, k, us, h1, by simpa [rD, Dat] using dy, h2, hl.1, hl.2.1, by rw [h3.length]; exact line_ok hl.2.2, fun p hp => q.layO S hp (rep_l (h3.rep _))⟩
        · cases hz
      | _ => cases hz
    | _ => cases y <;> cases hz) h
def catT : D → D → Option D
  | .tup xs, .tup ys => if line (xs.length + ys.length) = true then some (.tup (xs ++ ys)) else none
  | _, _ => none
theorem de_catT (ha : DE X B W a wa) (hb : DE X B W b wb) : DE X B W (.BinOp a .Add b pos) (f2 catT wa wb) :=
  peImp (pe_op op_catA ha hb) fun σ H Q h => t2 (ra := rD X.K X.mg) (rb := rD X.K X.mg) (ro := rD X.K X.mg) (r := fun v u H Q => rCatA X.K v u H Q) keepD (fun F own s σ H x y v u z Q S dx dy hz q => by
    cases x with
    | tup xs =>
      cases y with
      | tup ys =>
        simp only [catT] at hz
        split at hz
        · rename_i hl
          cases hz
          have dx : Dat X.K X.mg F (.tup xs) v := dx
          have dy : Dat X.K X.mg F (.tup ys) u := dy
          simp only [Dat] at dx dy
          obtain ⟨p, us, h1, h2, h3⟩ := dx
          obtain ⟨p', vs, k1, k2, k3⟩ := dy
          refine ⟨p, p', us, vs, h1, k1, sqT_same S.f h2, sqT_same S.f k2, by rw [h3.length, k3.length]; exact line_ok hl, fun e => q.done S ?_, fun _ e => q.done S ?_, fun _ _ p hp => q.layD S hp ?_⟩
          · subst e
            have : xs = [] := List.eq_nil_of_length_eq_zero h3.length.symm
            subst this
            simp only [rD, Dat]
            exact ⟨p', vs, rfl, k2, k3⟩
          · subst e
            have : ys = [] := List.eq_nil_of_length_eq_zero k3.length.symm
            subst this
            simp only [rD, Dat, List.append_nil]
            exact ⟨p, us, rfl, h2, h3⟩
          · simp only [Dat]
            exact ⟨p, _, rfl, .of upd_same, DatL.same (same_upd (S.f.free hp)) _ _ (h3.append k3)⟩
        · cases hz
      | _ => cases hz
    | _ => cases y <;> cases hz) h
/-! ### equality of data -/
mutual
def D.toP : D → PyData
  | .non => .none
  | .bl b => .bool b
  | .int i => .int i
  | .str x => .str x
  | .lst xs => .list (D.toPs xs)
  | .tup xs => .tuple (D.toPs xs)
  | _ => .dict []
def D.toPs : List D → List PyData
  | [] => []
  | d :: ds => D.toP d :: D.toPs ds
end
/-- None, bools, ints, texts in ASCII or beyond, lists and tuples of them, at most n deep -/
def shp : Nat → D → Bool
  | _, .non | _, .bl _ | _, .int _ => true
  | _, .str x => PyData.strOk x
  | n + 1, .lst xs | n + 1, .tup xs => xs.all (shp n)
  | _, _ => false
theorem toPs_map : ∀ xs : List D, D.toPs xs = xs.map D.toP
  | [] => rfl
  | x :: xs => by rw [D.toPs, toPs_map xs]; rfl
theorem shp_lay : ∀ (n : Nat) (d : D), shp n d = true → PyData.canLay0 d.toP = true ∧ PyData.depth d.toP ≤ n := by
  have key : ∀ (n : Nat) (xs : List D), (∀ d ∈ xs, PyData.canLay0 d.toP = true ∧ PyData.depth d.toP ≤ n) → PyData.canLayAll0 (D.toPs xs) = true ∧ PyData.depthAll (D.toPs xs) ≤ n := by
    intro n xs
    induction xs with
    | nil => intro _; simp [D.toPs, PyData.canLayAll0, PyData.depthAll]
    | cons x xs ih =>
      intro h
      obtain ⟨h1, h2⟩ := h x List.mem_cons_self
      obtain ⟨h3, h4⟩ := ih fun d hd => h d (List.mem_cons_of_mem _ hd)
      simp only [D.toPs, PyData.canLayAll0, PyData.depthAll, h1, h3, Bool.and_self, true_and]
      omega
  intro n
  induction n with
  | zero =>
    intro d h
    cases d <;> simp [shp, D.toP, PyData.canLay0, PyData.depth] at h ⊢
    exact h
  | succ n ih =>
    intro d h
    cases d with
    | lst xs =>
      simp only [shp, List.all_eq_true] at h
      obtain ⟨h1, h2⟩ := key n xs fun d hd => ih d (h d hd)
      simp only [D.toP, PyData.canLay0, PyData.depth, h1, true_and]
      omega
    | tup xs =>
      simp only [shp, List.all_eq_true] at h
      obtain ⟨h1, h2⟩ := key n xs fun d hd => ih d (h d hd)
      simp only [D.toP, PyData.canLay0, PyData.depth, h1, true_and]
      omega
    | str x => simpa [shp, D.toP, PyData.canLay0, PyData.depth] using h
    | _ => first | (simp [shp] at h; done) | simp [D.toP, PyData.canLay0, PyData.depth]
theorem shp_shaped {d : D} (h : shp 60 d = true) : SeqAt.shaped d.toP = true := by
  obtain ⟨h1, h2⟩ := shp_lay 60 d h
  unfold SeqAt.shaped
  rw [h1, Bool.true_and]
  exact decide_eq_true (by omega)
theorem dp_of {K : PySem.W.Frag} {mg : Str → Option Value} {H : Hp} : ∀ (n : Nat) (d : D) (v : V), shp n d = true → Dat K mg H d v → Dp K H v d.toP := by
  have key : ∀ (n : Nat), (∀ (d : D) (v : V), shp n d = true → Dat K mg H d v → Dp K H v d.toP) → ∀ (xs : List D) (vs : List V), xs.all (shp n) = true → DatL K mg H xs vs → DpAll K H vs (D.toPs xs) := by
    intro n ih xs
    induction xs with
    | nil => intro vs _ h; simp only [DatL] at h; subst h; exact .nil
    | cons x xs ihx =>
      intro vs hs h
      simp only [DatL] at h
      obtain ⟨v, r, rfl, h2, h3⟩ := h
      rw [List.all_cons, Bool.and_eq_true] at hs
      exact .cons (ih x v hs.1 h2) (ihx r hs.2 h3)
  intro n
  induction n with
  | zero =>
    intro d v hs h
    cases d <;> simp only [shp, Bool.false_eq_true] at hs
    · simp only [Dat] at h; subst h; exact .non
    · simp only [Dat] at h; subst h; exact .bl _
    · simp only [Dat] at h; subst h; exact .int _
    · simp only [Dat] at h; subst h; exact .str _
  | succ n ih =>
    intro d v hs h
    cases d with
    | non => simp only [Dat] at h; subst h; exact .non
    | bl _ => simp only [Dat] at h; subst h; exact .bl _
    | int _ => simp only [Dat] at h; subst h; exact .int _
    | str _ => simp only [Dat] at h; subst h; exact .str _
    | lst xs =>
      simp only [Dat] at h
      obtain ⟨p, vs, rfl, h2, h3⟩ := h
      simp only [shp] at hs
      exact .lst (.of h2) (key n ih xs vs hs h3)
    | tup xs =>
      simp only [Dat] at h
      obtain ⟨p, vs, rfl, h2, h3⟩ := h
      simp only [shp] at hs
      exact .tup h2 (key n ih xs vs hs h3)
    | _ => simp [shp] at hs
mutual
/-- Python's == -/
def eqv : D → D → Bool
  | .non, .non => true
  | .bl a, .bl b => a == b
  | .bl a, .int j => (if a then 1 else 0) == j
  | .int i, .bl b => i == (if b then 1 else 0)
  | .int i, .int j => decide (i = j)
  | .str x, .str y => decide (x = y)
  | .lst xs, .lst ys => eqvs xs ys
  | .tup xs, .tup ys => eqvs xs ys
  | _, _ => false
def eqvs : List D → List D → Bool
  | [], [] => true
  | x :: xs, y :: ys => eqv x y && eqvs xs ys
  | _, _ => false
end
mutual
theorem eqv_toP : ∀ d e : D, (∃ n, shp n d = true) → (∃ n, shp n e = true) → PyData.eqv d.toP e.toP = eqv d e
  | .lst xs, e, ⟨n, hd⟩, ⟨m, he⟩ => by
    cases n with
    | zero => simp [shp] at hd
    | succ n =>
      cases e with
      | lst ys =>
        cases m with
        | zero => simp [shp] at he
        | succ m =>
          simp only [D.toP, PyData.eqv, eqv]
          simp only [shp] at hd he
          exact eqvs_toP xs ys n m hd he
      | scr _ => simp [shp] at he
      | dT _ => simp [shp] at he
      | dK _ => simp [shp] at he
      | obj _ _ => simp [shp] at he
      | _ => simp only [D.toP, PyData.eqv, eqv]
  | .tup xs, e, ⟨n, hd⟩, ⟨m, he⟩ => by
    cases n with
    | zero => simp [shp] at hd
    | succ n =>
      cases e with
      | tup ys =>
        cases m with
        | zero => simp [shp] at he
        | succ m =>
          simp only [D.toP, PyData.eqv, eqv]
          simp only [shp] at hd he
          exact eqvs_toP xs ys n m hd he
      | scr _ => simp [shp] at he
      | dT _ => simp [shp] at he
      | dK _ => simp [shp] at he
      | obj _ _ => simp [shp] at he
      | _ => simp only [D.toP, PyData.eqv, eqv]
  | .non, e, _, ⟨m, he⟩ => by
    cases e <;> first | (simp [shp] at he; done) | simp only [D.toP, PyData.eqv, eqv]
  | .bl a, e, _, ⟨m, he⟩ => by
    cases e <;> first | (simp [shp] at he; done) | simp only [D.toP, PyData.eqv, eqv]
  | .int a, e, _, ⟨m, he⟩ => by
    cases e <;> first | (simp [shp] at he; done) | (simp only [D.toP, PyData.eqv, eqv]; done) | (simp only [D.toP, PyData.eqv, eqv]; exact Bool.beq_eq_decide_eq _ _)
  | .str a, e, _, ⟨m, he⟩ => by
    cases e with
    | str y =>
      simp only [D.toP, PyData.eqv, eqv]
      rw [Bool.eq_iff_iff]
      simp
    | _ => first | (simp [shp] at he; done) | simp only [D.toP, PyData.eqv, eqv]
  | .scr _, e, ⟨n, hd⟩, _ => by cases n <;> simp [shp] at hd
  | .dT _, e, ⟨n, hd⟩, _ => by cases n <;> simp [shp] at hd
  | .dK _, e, ⟨n, hd⟩, _ => by cases n <;> simp [shp] at hd
  | .obj _ _, e, ⟨n, hd⟩, _ => by cases n <;> simp [shp] at hd
theorem eqvs_toP : ∀ (xs ys : List D) (n m : Nat), xs.all (shp n) = true → ys.all (shp m) = true → PyData.eqvAll (D.toPs xs) (D.toPs ys) = eqvs xs ys
  | [], [], _, _, _, _ => by simp only [D.toPs, PyData.eqvAll, eqvs]
  | [], _ :: _, _, _, _, _ => by simp only [D.toPs, PyData.eqvAll, eqvs]
  | _ :: _, [], _, _, _, _ => by simp only [D.toPs, PyData.eqvAll, eqvs]
  | x :: xs, y :: ys, n, m, h1, h2 => by
    rw [List.all_cons, Bool.and_eq_true] at h1 h2
    simp only [D.toPs, PyData.eqvAll, eqvs]
    rw [eqv_toP x y ⟨n, h1.1⟩ ⟨m, h2.1⟩, eqvs_toP xs ys n m h1.2 h2.2]
end
def eqD (x y : D) : Option D := if shp 60 x = true ∧ shp 60 y = true then some (.bl (eqv x y)) else none
def neD (x y : D) : Option D := if shp 60 x = true ∧ shp 60 y = true then some (.bl (!eqv x y)) else none
theorem eq_core {F H : Hp} {own : Own} {x y z : D} {v u : V} (dx : rQ X.K X.mg F own H x v) (dy : rQ X.K X.mg F own H y u) (hz : eqD x y = some z) : ∃ w, Sca z w ∧ ∀ Q : VK, Q w H → rEqD X.K v u H Q := by
  unfold eqD at hz
  split at hz
  · rename_i h
    cases hz
    exact ⟨.bl (eqv x y), sca_bl, fun Q q => ⟨x.toP, y.toP, dp_of 60 x v h.1 dx, dp_of 60 y u h.2 dy, shp_shaped h.1, shp_shaped h.2, by rw [eqv_toP x y ⟨_, h.1⟩ ⟨_, h.2⟩]; exact q⟩⟩
  · cases hz
theorem ne_core {F H : Hp} {own : Own} {x y z : D} {v u : V} (dx : rQ X.K X.mg F own H x v) (dy : rQ X.K X.mg F own H y u) (hz : neD x y = some z) : ∃ w, Sca z w ∧ ∀ Q : VK, Q w H → rNeD X.K v u H Q := by
  unfold neD at hz
  split at hz
  · rename_i h
    cases hz
    exact ⟨.bl (!eqv x y), sca_bl, fun Q q => ⟨x.toP, y.toP, dp_of 60 x v h.1 dx, dp_of 60 y u h.2 dy, shp_shaped h.1, shp_shaped h.2, by rw [eqv_toP x y ⟨_, h.1⟩ ⟨_, h.2⟩]; exact q⟩⟩
  · cases hz
theorem de_eq {k : Nat} (hr : Room k X.A) (ha : DQ X B W a wa) (hb : DQ X B W b wb) : DE X B W (.Compare a [.Eq] [b] pos) (d2 eqD wa wb) :=
  peImp (pe_cmpR (op_eqD hr.units) ha hb (nomark _)) fun σ H Q h => t2_sca keepQ (fun F own H x y v u z e dx dy hz => eq_core dx dy hz) h
theorem de_ne {k : Nat} (hr : Room k X.A) (ha : DQ X B W a wa) (hb : DQ X B W b wb) : DE X B W (.Compare a [.NotEq] [b] pos) (d2 neD wa wb) :=
  peImp (pe_cmpR (op_neD hr.units) ha hb (nomark _)) fun σ H Q h => t2_sca keepQ (fun F own H x y v u z e dx dy hz => ne_core dx dy hz) h
theorem dt_eq {k : Nat} (hr : Room k X.A) (ha : DQ X B W a wa) (hb : DQ X B W b wb) : DT X B W (.Compare a [.Eq] [b] pos) (asB (d2 eqD wa wb)) :=
  ptImp (pt_cmpR (op_eqD hr.units) ha hb (nomark _)) fun σ H Q h => tTest_of keepQ (fun F own H x y v u z e dx dy hz => eq_core dx dy hz) h
theorem dt_ne {k : Nat} (hr : Room k X.A) (ha : DQ X B W a wa) (hb : DQ X B W b wb) : DT X B W (.Compare a [.NotEq] [b] pos) (asB (d2 neD wa wb)) :=
  ptImp (pt_cmpR (op_neD hr.units) ha hb (nomark _)) fun σ H Q h => tTest_of keepQ (fun F own H x y v u z e dx dy hz => ne_core dx dy hz) h
end
end DL

namespace DL
open PySem PySem.Spec PyProof.Rows L2
section
variable {X : Cx} {B : Bd} {W : WX} {e a b c : Expr} {es rest : List Expr} {w wa wb wc : ED} {pos : Pos} {α β γ δ : Type}
/-! ### and, or, not, if else -/
def dAnd (wa wb : ED) : ED := fun s => (wa s).bind fun x => match x with
  | .bl true => wb s
  | .bl false => .ok (.bl false)
  | _ => .bad
def dOr (wa wb : ED) : ED := fun s => (wa s).bind fun x => match x with
  | .bl true => .ok (.bl true)
  | .bl false => wb s
  | _ => .bad
def notD : D → Option D
  | .bl b => some (.bl (!b))
  | _ => none
theorem de_one {op} (h : DE X B W a wa) : DE X B W (.BoolOp op [a] pos) wa := pe_one h
theorem de_and (ha : DE X B W a wa) (hb : DE X B W (.BoolOp .And (b :: rest) pos) wb) : DE X B W (.BoolOp .And (a :: b :: rest) pos) (dAnd wa wb) :=
  peImp (pe_and ha hb) fun σ H Q ⟨F, own, s, S, q⟩ => ⟨F, own, s, S, Post.bind q fun x F1 own1 H1 v S1 e1 eH1 dx q1 => by
    cases x with
    | bl c =>
      refine ⟨c, by simpa [rD, Dat] using dx, ?_⟩
      cases c with
      | true => exact ⟨F1, own1, s, S1, q1⟩
      | false => exact q1.done S1 (sca_bl _ _ _)
    | _ => exact q1.elim⟩
theorem de_or (ha : DE X B W a wa) (hb : DE X B W (.BoolOp .Or (b :: rest) pos) wb) : DE X B W (.BoolOp .Or (a :: b :: rest) pos) (dOr wa wb) :=
  peImp (pe_or ha hb) fun σ H Q ⟨F, own, s, S, q⟩ => ⟨F, own, s, S, Post.bind q fun x F1 own1 H1 v S1 e1 eH1 dx q1 => by
    cases x with
    | bl c =>
      refine ⟨c, by simpa [rD, Dat] using dx, ?_⟩
      cases c with
      | false => exact ⟨F1, own1, s, S1, q1⟩
      | true => exact q1.done S1 (sca_bl _ _ _)
    | _ => exact q1.elim⟩
/-- not x, x a bool or any value with a truth: by its test -/
def bD (w : DSt → R Bool) : ED := fun s => (w s).map D.bl
/-! tests -/
def bAnd (wa wb : DSt → R Bool) : DSt → R Bool := fun s => (wa s).bind fun x => if x = true then wb s else .ok false
def bOr (wa wb : DSt → R Bool) : DSt → R Bool := fun s => (wa s).bind fun x => if x = true then .ok true else wb s
def bNot (wa : DSt → R Bool) : DSt → R Bool := fun s => (wa s).map (! ·)
variable {ba bb bc : DSt → R Bool}
theorem dw_and1 (ha : DT X B W a ba) : DW X B W (.BoolOp .And [a] pos) ba := pw_and1 ha
theorem dw_or1 (ha : DT X B W a ba) : DW X B W (.BoolOp .Or [a] pos) ba := pw_or1 ha
theorem dw_and (ha : DT X B W a ba) (hb : DW X B W (.BoolOp .And (b :: rest) pos) bb) : DW X B W (.BoolOp .And (a :: b :: rest) pos) (bAnd ba bb) :=
  pwImp (pw_and ha hb) fun σ H Q ⟨F, own, s, S, q⟩ => ⟨F, own, s, S, Post.bind q fun x F1 own1 H1 v S1 e1 eH1 dx q1 => by
    cases (show x = v from dx)
    cases x with
    | true => exact iteT ⟨F1, own1, s, S1, q1⟩
    | false => exact iteF (q1.done S1 rfl)⟩
theorem dw_or (ha : DT X B W a ba) (hb : DW X B W (.BoolOp .Or (b :: rest) pos) bb) : DW X B W (.BoolOp .Or (a :: b :: rest) pos) (bOr ba bb) :=
  pwImp (pw_or ha hb) fun σ H Q ⟨F, own, s, S, q⟩ => ⟨F, own, s, S, Post.bind q fun x F1 own1 H1 v S1 e1 eH1 dx q1 => by
    cases (show x = v from dx)
    cases x with
    | false => exact iteF ⟨F1, own1, s, S1, q1⟩
    | true => exact iteT (q1.done S1 rfl)⟩
theorem dt_w (h : DW X B W a ba) : DT X B W a ba := PW.pt h
theorem dt_not (ha : DT X B W a ba) : DT X B W (.UnaryOp .Not a pos) (bNot ba) :=
  ptImp (pt_not ha) fun σ H Q ⟨F, own, s, S, q⟩ => ⟨F, own, s, S, by
    have q : Post X.K X.mg B W rB F s σ H ((ba s).map (! ·)) Q := q
    generalize ba s = r at q ⊢
    cases r with
    | ok x =>
      intro F' own' H' b e1 e2 S' r
      cases (show x = b from r)
      exact q F' own' H' (!x) e1 e2 S' rfl
    | exc c => exact q
    | bad => exact q⟩
/-- a value's truth -/
def truD : D → Option Bool
  | .non => some false
  | .bl b => some b
  | .int i => some (i != 0)
  | .str y => if line y.length = true then some ((y.length : Int) != 0) else none
  | .lst xs => some (!xs.isEmpty)
  | .tup xs => some (!xs.isEmpty)
  | .scr xs => some (!xs.isEmpty)
  | .dK kvs => some (!kvs.isEmpty)
  | _ => none
theorem isEmpty_len {α β : Type} {xs : List α} {ys : List β} (h : xs.length = ys.length) : xs.isEmpty = ys.isEmpty := by
  cases xs <;> cases ys <;> simp at h ⊢
theorem DatK.length {K : PySem.W.Frag} {mg : Str → Option Value} {F : Hp} : ∀ {ds : List (Key × D)} {xs : List (Key × V)}, DatK K mg F ds xs → xs.length = ds.length
  | [], xs, h => by simp only [DatK] at h; subst h; rfl
  | (k, d) :: ds, xs, h => by
    simp only [DatK] at h
    obtain ⟨v, r, rfl, _, h3⟩ := h
    simp [DatK.length h3]
theorem tru_of {F H : Hp} {own : Own} {x : D} {v : V} {k : Bool} (e : Same F H) (dx : rP X.K X.mg F own H x v) (hz : truD x = some k) : TruV X.K v H k := by
  cases x with
  | non => have dx : Dat X.K X.mg F .non v := dx; simp only [Dat] at dx; subst dx; cases hz; rfl
  | bl b => have dx : Dat X.K X.mg F (.bl b) v := dx; simp only [Dat] at dx; subst dx; cases hz; rfl
  | int b => have dx : Dat X.K X.mg F (.int b) v := dx; simp only [Dat] at dx; subst dx; cases hz; rfl
  | str b =>
    have dx : Dat X.K X.mg F (.str b) v := dx
    simp only [Dat] at dx
    subst dx
    simp only [truD] at hz
    split at hz
    · rename_i hl
      cases hz
      exact ⟨line_ok hl, rfl⟩
    · cases hz
  | lst ds =>
    obtain ⟨p, xs, rfl, h2, h3⟩ := dx
    cases hz
    exact .inl ⟨xs, .of h2, by rw [isEmpty_len h3.length]⟩
  | tup ds =>
    have dx : Dat X.K X.mg F (.tup ds) v := dx
    simp only [Dat] at dx
    obtain ⟨p, xs, rfl, h2, h3⟩ := dx
    cases hz
    exact .inr (.inl ⟨xs, sqT_same e h2, by rw [isEmpty_len h3.length]⟩)
  | scr ds =>
    have dx : Dat X.K X.mg F (.scr ds) v := dx
    simp only [Dat] at dx
    obtain ⟨p, rfl, h2⟩ := dx
    cases hz
    exact .inl ⟨_, e.seq h2, by rw [isEmpty_len (List.length_map _)]⟩
  | dK ds =>
    obtain ⟨p, xs, rfl, h2, h3⟩ := dx
    cases hz
    exact .inr (.inr ⟨xs, h2, by rw [isEmpty_len h3.length]⟩)
  | _ => cases hz
/-- a name, a call, a subscript .. as a test -/
theorem dt_of (h : DP X B W a wa) (he : ∀ whole, isTrue a X.env whole = (do let v ← whole; standAt a.pos; holding [v] (truthy v)) := by intro _; rfl) : DT X B W a (f1 truD wa) :=
  ptImp (pt_truth h he) fun σ H Q h => t1 (ra := rP X.K X.mg) (ro := rB) (r := fun (x : V) H' (Q : Bool → Hp → Prop) => ∃ k, TruV X.K x H' k ∧ Q k H') (fun F own s σ H x v z Q S dx hz q => ⟨z, tru_of S.f dx hz, q.done S rfl⟩) h
/-- not of a value as a value: the operand by its truth -/
def notV (x : D) : Option D := match x with
  | .bl b => some (.bl (!b))
  | _ => none
theorem de_not (ha : DE X B W a wa) : DE X B W (.UnaryOp .Not a pos) (f1 notV wa) :=
  peImp (pe_not ha) fun σ H Q h => t1 (ra := rD X.K X.mg) (ro := rD X.K X.mg) (r := fun (x : V) H' (Q : VK) => ∃ k, x = .bl k ∧ Q (.bl (!k)) H') (fun F own s σ H x v z Q S dx hz q => by
    cases x with
    | bl c =>
      cases hz
      exact ⟨c, by simpa [rD, Dat] using dx, q.done S (sca_bl _ _ _)⟩
    | _ => cases hz) h
def dIf (wc : DSt → R Bool) (wa wb : DSt → R α) : DSt → R α := fun s => (wc s).bind fun x => if x = true then wa s else wb s
theorem de_if (hc : DT X B W c bc) (ha : DE X B W a wa) (hb : DE X B W b wb) : DE X B W (.IfExp c a b pos) (dIf bc wa wb) :=
  peImp (pe_ifExp hc ha hb) fun σ H Q ⟨F, own, s, S, q⟩ => ⟨F, own, s, S, Post.bind q fun x F1 own1 H1 v S1 e1 eH1 dx q1 => by
    cases (show x = v from dx)
    cases x with
    | false => exact iteF ⟨F1, own1, s, S1, q1⟩
    | true => exact iteT ⟨F1, own1, s, S1, q1⟩⟩
theorem do_if {wa wb : EO} (hc : DT X B W c bc) (ha : DO X B W a wa) (hb : DO X B W b wb) : DO X B W (.IfExp c a b pos) (dIf bc wa wb) :=
  peImp (pe_ifExp hc ha hb) fun σ H Q ⟨F, own, s, S, q⟩ => ⟨F, own, s, S, Post.bind q fun x F1 own1 H1 v S1 e1 eH1 dx q1 => by
    cases (show x = v from dx)
    cases x with
    | false => exact iteF ⟨F1, own1, s, S1, q1⟩
    | true => exact iteT ⟨F1, own1, s, S1, q1⟩⟩
/-! ### is None -/
def D.isNone : D → Bool
  | .non => true
  | _ => false
def isN (x : D) : Option D := some (.bl x.isNone)
def isNN (x : D) : Option D := some (.bl (!x.isNone))
theorem none_iff {F H : Hp} {own : Own} {x : D} {v : V} (dx : rD X.K X.mg F own H x v) : decide (v = V.non) = x.isNone := by
  have dx : Dat X.K X.mg F x v := dx
  cases x <;> simp only [Dat] at dx
  · subst dx; rfl
  · subst dx; rfl
  · subst dx; rfl
  · subst dx; rfl
  · obtain ⟨p, _, rfl, _⟩ := dx; rfl
  · obtain ⟨p, _, rfl, _⟩ := dx; rfl
  · obtain ⟨p, rfl, _⟩ := dx; rfl
  · obtain ⟨p, _, rfl, _⟩ := dx; rfl
  · obtain ⟨p, _, rfl, _⟩ := dx; rfl
  · obtain ⟨p, _, _, _, rfl, _⟩ := dx; rfl
theorem is_core {σ : L2.St} {H : Hp} {Q : VK} (h : tG X.K X.mg B W (rD X.K X.mg) (f1 isN wa) σ H Q) : tIsN (tG X.K X.mg B W (rD X.K X.mg) wa) σ H Q :=
  t1 (ra := rD X.K X.mg) (ro := rD X.K X.mg) (r := fun (x : V) H1 (Q : VK) => Q (.bl (decide (x = .non))) H1) (fun F own s σ H x v z Q S dx hz q => by
    cases hz
    rw [none_iff dx]
    exact q.done S (sca_bl _ _ _)) h
theorem isnot_core {σ : L2.St} {H : Hp} {Q : VK} (h : tG X.K X.mg B W (rD X.K X.mg) (f1 isNN wa) σ H Q) : tNotN (tG X.K X.mg B W (rD X.K X.mg) wa) σ H Q :=
  t1 (ra := rD X.K X.mg) (ro := rD X.K X.mg) (r := fun (x : V) H1 (Q : VK) => Q (.bl (!decide (x = .non))) H1) (fun F own s σ H x v z Q S dx hz q => by
    cases hz
    rw [none_iff dx]
    exact q.done S (sca_bl _ _ _)) h
/-- from a bool-valued reading to a test -/
theorem asB_core {w : ED} {σ : L2.St} {H : Hp} {Q : Bool → Hp → Prop} (h : tG X.K X.mg B W rB (asB w) σ H Q) : tG X.K X.mg B W (rD X.K X.mg) w σ H (fun x H1 => ∃ c, x = .bl c ∧ Q c H1) := by
  obtain ⟨F, own, s, S, q⟩ := h
  exact ⟨F, own, s, S, Post.bind (rl' := rD X.K X.mg) q fun z F1 own1 H1 v S1 e1 eH1 dx q1 => by
      cases z with
      | bl b => exact ⟨b, by simpa [rD, Dat] using dx, q1 F1 own1 H1 b (Same.refl _) (Same.refl _) S1 rfl⟩
      | _ => exact q1.elim⟩
theorem de_is {k : Nat} {p2 : Pos} (ha : DE X B W a wa) : DE X B W (.Compare a [.Is] [.Constant .none k p2] pos) (f1 isN wa) := peImp (pe_cmp (pc_isN ha) rfl) fun σ H Q h => is_core h
theorem de_isnot {k : Nat} {p2 : Pos} (ha : DE X B W a wa) : DE X B W (.Compare a [.IsNot] [.Constant .none k p2] pos) (f1 isNN wa) := peImp (pe_cmp (pc_notN ha) rfl) fun σ H Q h => isnot_core h
theorem dt_is {k : Nat} {p2 : Pos} (ha : DE X B W a wa) : DT X B W (.Compare a [.Is] [.Constant .none k p2] pos) (asB (f1 isN wa)) := ptImp (pt_cmp (pc_isN ha) rfl) fun σ H Q h => is_core (asB_core h)
theorem dt_isnot {k : Nat} {p2 : Pos} (ha : DE X B W a wa) : DT X B W (.Compare a [.IsNot] [.Constant .none k p2] pos) (asB (f1 isNN wa)) := ptImp (pt_cmp (pc_notN ha) rfl) fun σ H Q h => isnot_core (asB_core h)
/-! ### a op b op c, ints -/
def iiB (f : Int → Int → Bool) : D → D → Option Bool
  | .int i, .int j => some (f i j)
  | _, _ => none
def dChain (f g : Int → Int → Bool) (wa wb wc : ED) : ED := fun s => (wa s).bind fun x => (wb s).bind fun y => match iiB f x y with
  | none => .bad
  | some false => .ok (.bl false)
  | some true => (wc s).bind fun z => match iiB g y z with
    | none => .bad
    | some r => .ok (.bl r)
structure Cmp2 (X : Cx) (op : CmpOp) (f : Int → Int → Bool) : Prop where
  run : OpR X (compareOp op) (rI0 fun i j => .bl (f i j))
theorem cmp2_lt : Cmp2 X .Lt (fun i j => decide (i < j)) := ⟨op_lt⟩
theorem cmp2_le : Cmp2 X .LtE (fun i j => decide (i ≤ j)) := ⟨op_le⟩
theorem chain_core {f g : Int → Int → Bool} {σ : L2.St} {H : Hp} {Q : VK} (h : tG X.K X.mg B W (rD X.K X.mg) (dChain f g wa wb wc) σ H Q) :
    tChain (rI0 fun i j => .bl (f i j)) (rI0 fun i j => .bl (g i j)) (tG X.K X.mg B W (rD X.K X.mg) wa) (tG X.K X.mg B W (rD X.K X.mg) wb) (tG X.K X.mg B W (rD X.K X.mg) wc) σ H Q := by
  obtain ⟨F, own, s, S, q⟩ := h
  refine ⟨F, own, s, S, Post.bind q fun x F1 own1 H1 v S1 e1 eH1 dx q1 => ⟨F1, own1, s, S1, Post.bind q1 fun y F2 own2 H2 u S2 e2 eH2 dy q2 => ?_⟩⟩
  cases x with
  | int i =>
    cases y with
    | int j =>
      have ev : v = .int i := by simpa [rD, Dat] using dx
      have eu : u = .int j := by simpa [rD, Dat] using dy
      refine ⟨i, j, ev, eu, f i j, rfl, ?_⟩
      simp only [iiB] at q2
      cases hf : f i j with
      | false =>
        rw [hf] at q2
        exact iteF (q2 F2 own2 H2 _ (Same.refl _) (Same.refl _) S2 (sca_bl _ _ _))
      | true =>
        rw [hf] at q2
        refine iteT ⟨F2, own2, s, S2, Post.bind q2 fun z F3 own3 H3 t S3 e3 eH3 dz q3 => ?_⟩
        cases z with
        | int k => exact ⟨j, k, eu, by simpa [rD, Dat] using dz, q3 F3 own3 H3 _ (Same.refl _) (Same.refl _) S3 (sca_bl _ _ _)⟩
        | _ => exact q3.elim
    | _ => exact q2.elim
  | _ => cases y <;> exact q2.elim
theorem de_chain {op op' : CmpOp} {f g : Int → Int → Bool} (h1 : Cmp2 X op f) (h2 : Cmp2 X op' g) (ha : DE X B W a wa) (hb : DE X B W b wb) (hc : DE X B W c wc) (hm : lastMarks [op, op'] [b, c] = false := by with_unfolding_all rfl) :
    DE X B W (.Compare a [op, op'] [b, c] pos) (dChain f g wa wb wc) := peImp (pe_chain h1.run h2.run ha hb hc hm) fun σ H Q h => chain_core h
theorem dt_chain {op op' : CmpOp} {f g : Int → Int → Bool} (h1 : Cmp2 X op f) (h2 : Cmp2 X op' g) (ha : DE X B W a wa) (hb : DE X B W b wb) (hc : DE X B W c wc) (hm : lastMarks [op, op'] [b, c] = false := by with_unfolding_all rfl) :
    DT X B W (.Compare a [op, op'] [b, c] pos) (asB (dChain f g wa wb wc)) := ptImp (pt_chain h1.run h2.run ha hb hc hm) fun σ H Q h => chain_core (asB_core h)
end
end DL

namespace DL
open PySem PySem.Spec PyProof.Rows L2
section
variable {X : Cx} {B : Bd} {W : WX} {e a b c : Expr} {es rest : List Expr} {w wa wb wc : ED} {p p' pos : Pos} {α β γ δ : Type}
/-! ### built-in functions of one and two arguments -/
/-- no star -/
def NS (a : Expr) : Prop := ∀ (env : Env) (es : List Expr), starEach (a :: es) env = (false, eval a env) :: starEach es env
theorem NS.pl {b : Expr} (h : NS b) (env : Env) (pos : Pos) : (backTo pos (starEach [b] env)).any (·.1) = false := by
  rw [h env []]
  rfl
theorem NS.pl2 {b c : Expr} (h : NS b) (h2 : NS c) (env : Env) (pos : Pos) : (backTo pos (starEach [b, c] env)).any (·.1) = false := by
  rw [h env [c], h2 env []]
  rfl
theorem b1 {γ' : Type} {id : String} {x : Str} {r : List V → Hp → VK → Prop} {ra : Rl α V} {ro : Rl γ V} {f : α → Option γ} {wa : DSt → R α} (hc : CallR X (.builtin id) r) (hg : Gl X x) (hm : X.mg x = none) (hv : bootBuiltins x = some (.builtin id))
    (hn : x ≠ "__name__") (hdb : (x == ("__debug__" : Str)) = false) (ha : PE X a (tG X.K X.mg B W ra wa)) (k : ∀ F own s σ H x v z (Q : VK), Sat X.K X.mg B F own s σ H → ra F own H x v → f x = some z → Post X.K X.mg B W ro F s σ H (.ok z) Q → r [v] H Q)
    (na : NS a) :
    PE X (.Call (.Name x p) [a] [] pos) (tG X.K X.mg B W ro (f1 f wa)) :=
  peImp (pe_callB hc hg hm hv (pa_cons ha pa_nil (na _ _)) hn hdb (na _ _) rfl) fun σ H Q h => t1 (ra := ra) (ro := ro) (r := fun (v : V) H Q => r [v] H Q) k h
theorem b2 {id : String} {x : Str} {r : List V → Hp → VK → Prop} {ra : Rl α V} {rb : Rl β V} {ro : Rl γ V} {f : α → β → Option γ} {wa : DSt → R α} {wb : DSt → R β} (hc : CallR X (.builtin id) r) (hg : Gl X x) (hm : X.mg x = none) (hv : bootBuiltins x = some (.builtin id))
    (hn : x ≠ "__name__") (hdb : (x == ("__debug__" : Str)) = false) (ha : PE X a (tG X.K X.mg B W ra wa)) (hb : PE X b (tG X.K X.mg B W rb wb)) (keep : ∀ F F' own own' H H' d v, Same F F' → Same H H' → ra F own H d v → ra F' own' H' d v)
    (k : ∀ F own s σ H x y v u z (Q : VK), Sat X.K X.mg B F own s σ H → ra F own H x v → rb F own H y u → f x y = some z → Post X.K X.mg B W ro F s σ H (.ok z) Q → r [v, u] H Q)
    (na : NS a) (nb : NS b) :
    PE X (.Call (.Name x p) [a, b] [] pos) (tG X.K X.mg B W ro (f2 f wa wb)) :=
  peImp (pe_callB hc hg hm hv (pa_cons ha (pa_cons hb pa_nil (nb _ _)) (na _ _)) hn hdb (na _ _) (nb.pl _ _)) fun σ H Q h => t2 (ra := ra) (rb := rb) (ro := ro) (r := fun (v u : V) H Q => r [v, u] H Q) keep k h
theorem ty1 {T : String} {x : Str} {r : List V → Hp → VK → Prop} {ra : Rl α V} {ro : Rl γ V} {f : α → Option γ} {wa : DSt → R α} (hc : CallR X (.type T) r) (hg : Gl X x) (hm : X.mg x = none) (hv : bootBuiltins x = some (.type T))
    (hn : x ≠ "__name__") (hdb : (x == ("__debug__" : Str)) = false) (ha : PE X a (tG X.K X.mg B W ra wa)) (k : ∀ F own s σ H x v z (Q : VK), Sat X.K X.mg B F own s σ H → ra F own H x v → f x = some z → Post X.K X.mg B W ro F s σ H (.ok z) Q → r [v] H Q)
    (na : NS a) :
    PE X (.Call (.Name x p) [a] [] pos) (tG X.K X.mg B W ro (f1 f wa)) :=
  peImp (pe_callTy hc hg hm hv (pa_cons ha pa_nil (na _ _)) hn hdb (na _ _) rfl) fun σ H Q h => t1 (ra := ra) (ro := ro) (r := fun (v : V) H Q => r [v] H Q) k h
/-! lists of ints, of bools -/
def intsOf : List D → Option (List Int)
  | [] => some []
  | .int i :: ds => (intsOf ds).map (i :: ·)
  | _ => none
def blsOf : List D → Option (List Bool)
  | [] => some []
  | .bl i :: ds => (blsOf ds).map (i :: ·)
  | _ => none
theorem intsOf_eq : ∀ {ds : List D} {ns : List Int}, intsOf ds = some ns → ds = ns.map D.int
  | [], ns, h => by cases h; rfl
  | .int i :: ds, ns, h => by
    simp only [intsOf, Option.map_eq_some_iff] at h
    obtain ⟨ms, h1, rfl⟩ := h
    rw [intsOf_eq h1]; rfl
  | .non :: _, _, h => by cases h
  | .bl _ :: _, _, h => by cases h
  | .str _ :: _, _, h => by cases h
  | .lst _ :: _, _, h => by cases h
  | .tup _ :: _, _, h => by cases h
  | .scr _ :: _, _, h => by cases h
  | .dT _ :: _, _, h => by cases h
  | .dK _ :: _, _, h => by cases h
  | .obj _ _ :: _, _, h => by cases h
@[simp] theorem intsOf_map (ns : List Int) : intsOf (ns.map D.int) = some ns := by
  induction ns with
  | nil => rfl
  | cons n ns ih => simp [intsOf, ih]
theorem blsOf_eq : ∀ {ds : List D} {ns : List Bool}, blsOf ds = some ns → ds = ns.map D.bl
  | [], ns, h => by cases h; rfl
  | .bl i :: ds, ns, h => by
    simp only [blsOf, Option.map_eq_some_iff] at h
    obtain ⟨ms, h1, rfl⟩ := h
    rw [blsOf_eq h1]; rfl
  | .non :: _, _, h => by cases h
  | .int _ :: _, _, h => by cases h
  | .str _ :: _, _, h => by cases h
  | .lst _ :: _, _, h => by cases h
  | .tup _ :: _, _, h => by cases h
  | .scr _ :: _, _, h => by cases h
  | .dT _ :: _, _, h => by cases h
  | .dK _ :: _, _, h => by cases h
  | .obj _ _ :: _, _, h => by cases h
@[simp] theorem blsOf_map (ns : List Bool) : blsOf (ns.map D.bl) = some ns := by
  induction ns with
  | nil => rfl
  | cons n ns ih => simp [blsOf, ih]
theorem datL_int {K : PySem.W.Frag} {mg : Str → Option Value} {F : Hp} : ∀ {ns : List Int} {xs : List V}, DatL K mg F (ns.map D.int) xs → xs = ns.map V.int
  | [], xs, h => by simpa [DatL] using h
  | n :: ns, xs, h => by
    simp only [List.map_cons, DatL, Dat] at h
    obtain ⟨v, r, rfl, rfl, h3⟩ := h
    rw [datL_int h3]; rfl
theorem datL_bl {K : PySem.W.Frag} {mg : Str → Option Value} {F : Hp} : ∀ {ns : List Bool} {xs : List V}, DatL K mg F (ns.map D.bl) xs → xs = ns.map V.bl
  | [], xs, h => by simpa [DatL] using h
  | n :: ns, xs, h => by
    simp only [List.map_cons, DatL, Dat] at h
    obtain ⟨v, r, rfl, rfl, h3⟩ := h
    rw [datL_bl h3]; rfl
/-- a list of ints, wherever it stands -/
def liI : D → Option (List Int)
  | .lst ds => intsOf ds
  | .scr ns => some ns
  | _ => none
theorem liI_sq {F H : Hp} {own : Own} {x : D} {v : V} {ns : List Int} (e : Same F H) (dx : rP X.K X.mg F own H x v) (h : liI x = some ns) : ∃ q, v = .ref q ∧ SqL X.K H q (ns.map V.int) := by
  cases x with
  | lst ds =>
    obtain ⟨q, xs, h1, h2, h3⟩ := dx
    cases intsOf_eq h
    cases datL_int h3
    exact ⟨q, h1, .of h2⟩
  | scr ms =>
    have dx : Dat X.K X.mg F (.scr ms) v := dx
    simp only [Dat] at dx
    obtain ⟨q, h1, h2⟩ := dx
    cases h
    exact ⟨q, h1, e.seq h2⟩
  | _ => cases h
def liB : D → Option (List Bool)
  | .lst ds => blsOf ds
  | _ => none
theorem liB_sq {F H : Hp} {own : Own} {x : D} {v : V} {ns : List Bool} (dx : rP X.K X.mg F own H x v) (h : liB x = some ns) : ∃ q, v = .ref q ∧ SqL X.K H q (ns.map V.bl) := by
  cases x with
  | lst ds =>
    obtain ⟨q, xs, h1, h2, h3⟩ := dx
    cases blsOf_eq h
    cases datL_bl h3
    exact ⟨q, h1, .of h2⟩
  | _ => cases h
/-! len -/
def lenD : D → Option D
  | .lst ds => some (.int ds.length)
  | .tup ds => some (.int ds.length)
  | .scr ns => some (.int ns.length)
  | .str y => if line y.length = true then some (.int y.length) else none
  | _ => none
theorem de_len (hg : Gl X "len") (hm : X.mg "len" = none) (ha : DP X B W a wa) (na : NS a := by intro _ _; rfl) : DE X B W (.Call (.Name "len" p) [a] [] pos) (f1 lenD wa) :=
  b1 (γ' := V) call_len hg hm PySem.boot_len (by decide) (by decide) ha (fun F own s σ H x v z Q S dx hz q => by
    cases x with
    | lst ds =>
      obtain ⟨r, xs, rfl, h2, h3⟩ := dx
      cases hz
      refine ⟨_, xs.length, rfl, .inl ⟨xs, .of h2, rfl⟩, ?_⟩
      rw [h3.length]
      exact q.done S (sca_int _ _ _)
    | tup ds =>
      have dx : Dat X.K X.mg F (.tup ds) v := dx
      simp only [Dat] at dx
      obtain ⟨r, xs, rfl, h2, h3⟩ := dx
      cases hz
      refine ⟨_, xs.length, rfl, .inr ⟨xs, sqT_same S.f h2, rfl⟩, ?_⟩
      rw [h3.length]
      exact q.done S (sca_int _ _ _)
    | scr ns =>
      have dx : Dat X.K X.mg F (.scr ns) v := dx
      simp only [Dat] at dx
      obtain ⟨r, rfl, h2⟩ := dx
      cases hz
      refine ⟨_, (ns.map V.int).length, rfl, .inl ⟨_, S.f.seq h2, rfl⟩, ?_⟩
      rw [List.length_map]
      exact q.done S (sca_int _ _ _)
    | str y =>
      have dx : Dat X.K X.mg F (.str y) v := dx
      simp only [Dat] at dx
      subst dx
      simp only [lenD] at hz
      split at hz
      · rename_i hl
        cases hz
        exact ⟨_, y.length, rfl, ⟨line_ok hl, rfl⟩, q.done S (sca_int _ _ _)⟩
      · cases hz
    | _ => cases hz) na
def sumD (d : D) : Option D := (liI d).map fun ns => .int ns.sum
theorem boot_sum : bootBuiltins "sum" = some (.builtin "sum") := by decide +kernel
theorem de_sum (hc : X.calm = true) (hg : Gl X "sum") (hm : X.mg "sum" = none) (ha : DP X B W a wa) (na : NS a := by intro _ _; rfl) : DE X B W (.Call (.Name "sum" p) [a] [] pos) (f1 sumD wa) :=
  b1 (γ' := V) (cr_sum hc) hg hm boot_sum (by decide) (by decide) ha (fun F own s σ H x v z Q S dx hz q => by
    simp only [sumD, Option.map_eq_some_iff] at hz
    obtain ⟨ns, h1, rfl⟩ := hz
    obtain ⟨r, rfl, h2⟩ := liI_sq S.f dx h1
    exact ⟨r, ns, rfl, h2, q.done S (sca_int _ _ _)⟩) na
def anyD (d : D) : Option D := (liB d).map fun ns => .bl (ns.any id)
def allD (d : D) : Option D := (liB d).map fun ns => .bl (ns.all id)
theorem boot_any : bootBuiltins "any" = some (.builtin "any") := by decide +kernel
theorem boot_all : bootBuiltins "all" = some (.builtin "all") := by decide +kernel
theorem de_any (hc : X.calm = true) (hg : Gl X "any") (hm : X.mg "any" = none) (ha : DP X B W a wa) (na : NS a := by intro _ _; rfl) : DE X B W (.Call (.Name "any" p) [a] [] pos) (f1 anyD wa) :=
  b1 (γ' := V) (cr_any hc) hg hm boot_any (by decide) (by decide) ha (fun F own s σ H x v z Q S dx hz q => by
    simp only [anyD, Option.map_eq_some_iff] at hz
    obtain ⟨ns, h1, rfl⟩ := hz
    obtain ⟨r, rfl, h2⟩ := liB_sq dx h1
    exact ⟨r, ns, rfl, h2, q.done S (sca_bl _ _ _)⟩) na
theorem de_all (hc : X.calm = true) (hg : Gl X "all") (hm : X.mg "all" = none) (ha : DP X B W a wa) (na : NS a := by intro _ _; rfl) : DE X B W (.Call (.Name "all" p) [a] [] pos) (f1 allD wa) :=
  b1 (γ' := V) (cr_all hc) hg hm boot_all (by decide) (by decide) ha (fun F own s σ H x v z Q S dx hz q => by
    simp only [allD, Option.map_eq_some_iff] at hz
    obtain ⟨ns, h1, rfl⟩ := hz
    obtain ⟨r, rfl, h2⟩ := liB_sq dx h1
    exact ⟨r, ns, rfl, h2, q.done S (sca_bl _ _ _)⟩) na
def maxL : List Int → Option Int
  | [] => none
  | n :: ns => some (ns.foldl max n)
def minL : List Int → Option Int
  | [] => none
  | n :: ns => some (ns.foldl min n)
theorem maxL_is : ∀ {ns : List Int} {n : Int}, ns.foldl max n ∈ n :: ns ∧ ∀ y ∈ n :: ns, y ≤ ns.foldl max n
  | [], n => ⟨by simp, by simp⟩
  | m :: ns, n => by
    obtain ⟨h1, h2⟩ := maxL_is (ns := ns) (n := max n m)
    rw [List.foldl_cons]
    have hm : n ≤ ns.foldl max (max n m) := Int.le_trans (Int.le_max_left n m) (h2 _ List.mem_cons_self)
    have hk : m ≤ ns.foldl max (max n m) := Int.le_trans (Int.le_max_right n m) (h2 _ List.mem_cons_self)
    refine ⟨?_, fun y hy => ?_⟩
    · rcases List.mem_cons.mp h1 with h | h
      · rw [h]
        rcases Int.le_total n m with q | q
        · rw [Int.max_eq_right q]; simp
        · rw [Int.max_eq_left q]; simp
      · simp [h]
    · rcases List.mem_cons.mp hy with rfl | hy
      · exact hm
      · rcases List.mem_cons.mp hy with rfl | hy
        · exact hk
        · exact h2 y (List.mem_cons_of_mem _ hy)
theorem minL_is : ∀ {ns : List Int} {n : Int}, ns.foldl min n ∈ n :: ns ∧ ∀ y ∈ n :: ns, ns.foldl min n ≤ y
  | [], n => ⟨by simp, by simp⟩
  | m :: ns, n => by
    obtain ⟨h1, h2⟩ := minL_is (ns := ns) (n := min n m)
    rw [List.foldl_cons]
    have hm : ns.foldl min (min n m) ≤ n := Int.le_trans (h2 _ List.mem_cons_self) (Int.min_le_left n m)
    have hk : ns.foldl min (min n m) ≤ m := Int.le_trans (h2 _ List.mem_cons_self) (Int.min_le_right n m)
    refine ⟨?_, fun y hy => ?_⟩
    · rcases List.mem_cons.mp h1 with h | h
      · rw [h]
        rcases Int.le_total n m with q | q
        · rw [Int.min_eq_left q]; simp
        · rw [Int.min_eq_right q]; simp
      · simp [h]
    · rcases List.mem_cons.mp hy with rfl | hy
      · exact hm
      · rcases List.mem_cons.mp hy with rfl | hy
        · exact hk
        · exact h2 y (List.mem_cons_of_mem _ hy)
def maxD (d : D) : Option D := ((liI d).bind maxL).map D.int
def minD (d : D) : Option D := ((liI d).bind minL).map D.int
theorem boot_max : bootBuiltins "max" = some (.builtin "max") := by decide +kernel
theorem boot_min : bootBuiltins "min" = some (.builtin "min") := by decide +kernel
theorem de_maxL (hc : X.calm = true) (hg : Gl X "max") (hm : X.mg "max" = none) (ha : DP X B W a wa) (na : NS a := by intro _ _; rfl) : DE X B W (.Call (.Name "max" p) [a] [] pos) (f1 maxD wa) :=
  b1 (γ' := V) (cr_max hc) hg hm boot_max (by decide) (by decide) ha (fun F own s σ H x v z Q S dx hz q => by
    simp only [maxD, Option.map_eq_some_iff, Option.bind_eq_some_iff] at hz
    obtain ⟨m, ⟨ns, h1, h3⟩, rfl⟩ := hz
    obtain ⟨r, rfl, h2⟩ := liI_sq S.f dx h1
    cases ns with
    | nil => cases h3
    | cons n ns =>
      cases h3
      obtain ⟨k1, k2⟩ := maxL_is (ns := ns) (n := n)
      refine ⟨r, n :: ns, rfl, h2, by simp, fun m hm1 hm2 => ?_⟩
      have : m = ns.foldl max n := Int.le_antisymm (k2 m hm1) (hm2 _ k1)
      subst this
      exact q.done S (sca_int _ _ _)) na
theorem de_minL (hc : X.calm = true) (hg : Gl X "min") (hm : X.mg "min" = none) (ha : DP X B W a wa) (na : NS a := by intro _ _; rfl) : DE X B W (.Call (.Name "min" p) [a] [] pos) (f1 minD wa) :=
  b1 (γ' := V) (cr_min hc) hg hm boot_min (by decide) (by decide) ha (fun F own s σ H x v z Q S dx hz q => by
    simp only [minD, Option.map_eq_some_iff, Option.bind_eq_some_iff] at hz
    obtain ⟨m, ⟨ns, h1, h3⟩, rfl⟩ := hz
    obtain ⟨r, rfl, h2⟩ := liI_sq S.f dx h1
    cases ns with
    | nil => cases h3
    | cons n ns =>
      cases h3
      obtain ⟨k1, k2⟩ := minL_is (ns := ns) (n := n)
      refine ⟨r, n :: ns, rfl, h2, by simp, fun m hm1 hm2 => ?_⟩
      have : m = ns.foldl min n := Int.le_antisymm (hm2 _ k1) (k2 m hm1)
      subst this
      exact q.done S (sca_int _ _ _)) na
/-! ints in, a scalar out -/
def unI (f : Int → Option D) : D → Option D
  | .int i => f i
  | _ => none
def absI (i : Int) : Option D := some (.int (if i < 0 then -i else i))
def max2I (i j : Int) : Option D := some (.int (if j > i then j else i))
def min2I (i j : Int) : Option D := some (.int (if j < i then j else i))
theorem boot_abs : bootBuiltins "abs" = some (.builtin "abs") := by decide +kernel
theorem de_abs (hg : Gl X "abs") (hm : X.mg "abs" = none) (ha : DE X B W a wa) (na : NS a := by intro _ _; rfl) : DE X B W (.Call (.Name "abs" p) [a] [] pos) (f1 (unI absI) wa) :=
  b1 (γ' := V) call_abs hg hm boot_abs (by decide) (by decide) ha (fun F own s σ H x v z Q S dx hz q => by
    cases x with
    | int i =>
      cases hz
      have ev : v = .int i := by simpa [rD, Dat] using dx
      exact ⟨i, by rw [ev], q.done S (sca_int _ _ _)⟩
    | _ => cases hz) na
theorem de_max2 (hc : X.calm = true) (hg : Gl X "max") (hm : X.mg "max" = none) (ha : DE X B W a wa) (hb : DE X B W b wb) (na : NS a := by intro _ _; rfl) (nb : NS b := by intro _ _; rfl) : DE X B W (.Call (.Name "max" p) [a, b] [] pos) (f2 (ii max2I) wa wb) :=
  b2 (call_max2 hc) hg hm boot_max (by decide) (by decide) ha hb keepD (fun F own s σ H x y v u z Q S dx dy hz q => by
    obtain ⟨i, j, rfl, rfl, hz⟩ := ii_some hz
    cases hz
    have ev : v = .int i := by simpa [rD, Dat] using dx
    have eu : u = .int j := by simpa [rD, Dat] using dy
    exact ⟨i, j, by rw [ev, eu], q.done S (sca_int _ _ _)⟩) na nb
theorem de_min2 (hc : X.calm = true) (hg : Gl X "min") (hm : X.mg "min" = none) (ha : DE X B W a wa) (hb : DE X B W b wb) (na : NS a := by intro _ _; rfl) (nb : NS b := by intro _ _; rfl) : DE X B W (.Call (.Name "min" p) [a, b] [] pos) (f2 (ii min2I) wa wb) :=
  b2 (call_min2 hc) hg hm boot_min (by decide) (by decide) ha hb keepD (fun F own s σ H x y v u z Q S dx dy hz q => by
    obtain ⟨i, j, rfl, rfl, hz⟩ := ii_some hz
    cases hz
    have ev : v = .int i := by simpa [rD, Dat] using dx
    have eu : u = .int j := by simpa [rD, Dat] using dy
    exact ⟨i, j, by rw [ev, eu], q.done S (sca_int _ _ _)⟩) na nb
/-! types called: int, list, tuple -/
def intD : D → Option D
  | .int i => some (.int i)
  | .bl b => some (.int (if b then 1 else 0))
  | _ => none
theorem boot_int : bootBuiltins "int" = some (.type "int") := by decide +kernel
theorem boot_list : bootBuiltins "list" = some (.type "list") := by decide +kernel
theorem boot_tuple : bootBuiltins "tuple" = some (.type "tuple") := by decide +kernel
theorem boot_bool : bootBuiltins "bool" = some (.type "bool") := by decide +kernel
theorem boot_str : bootBuiltins "str" = some (.type "str") := by decide +kernel
theorem de_int1 (hg : Gl X "int") (hm : X.mg "int" = none) (ha : DE X B W a wa) (na : NS a := by intro _ _; rfl) : DE X B W (.Call (.Name "int" p) [a] [] pos) (f1 intD wa) :=
  ty1 call_int1 hg hm boot_int (by decide) (by decide) ha (fun F own s σ H x v z Q S dx hz q => by
    cases x with
    | int i =>
      cases hz
      have ev : v = .int i := by simpa [rD, Dat] using dx
      exact .inl ⟨i, by rw [ev], q.done S (sca_int _ _ _)⟩
    | bl i =>
      cases hz
      have ev : v = .bl i := by simpa [rD, Dat] using dx
      exact .inr ⟨i, by rw [ev], q.done S (sca_int _ _ _)⟩
    | _ => cases hz) na
def listO : D → Option O
  | .lst ds => some (.l ds)
  | .tup ds => some (.l ds)
  | .scr ns => some (.l (ns.map .int))
  | _ => none
theorem do_list (hg : Gl X "list") (hm : X.mg "list" = none) (ha : DP X B W a wa) (na : NS a := by intro _ _; rfl) : DO X B W (.Call (.Name "list" p) [a] [] pos) (f1 listO wa) :=
  ty1 call_list_of hg hm boot_list (by decide) (by decide) ha (fun F own s σ H x v z Q S dx hz q => by
    cases x with
    | lst ds =>
      obtain ⟨r, xs, rfl, h2, h3⟩ := dx
      cases hz
      exact ⟨r, xs, rfl, .inl (.of h2), fun l hl => q.layO S hl (rep_l h3)⟩
    | tup ds =>
      have dx : Dat X.K X.mg F (.tup ds) v := dx
      simp only [Dat] at dx
      obtain ⟨r, xs, rfl, h2, h3⟩ := dx
      cases hz
      exact ⟨r, xs, rfl, .inr (sqT_same S.f h2), fun l hl => q.layO S hl (rep_l h3)⟩
    | scr ns =>
      have dx : Dat X.K X.mg F (.scr ns) v := dx
      simp only [Dat] at dx
      obtain ⟨r, rfl, h2⟩ := dx
      cases hz
      exact ⟨r, _, rfl, .inl (S.f.seq h2), fun l hl => q.layO S hl (rep_l (datL_ints ns))⟩
    | _ => cases hz) na
def tupD : D → Option D
  | .lst ds => some (.tup ds)
  | .tup ds => some (.tup ds)
  | _ => none
theorem de_tuple (hg : Gl X "tuple") (hm : X.mg "tuple" = none) (ha : DP X B W a wa) (na : NS a := by intro _ _; rfl) : DE X B W (.Call (.Name "tuple" p) [a] [] pos) (f1 tupD wa) :=
  ty1 call_tuple_of hg hm boot_tuple (by decide) (by decide) ha (fun F own s σ H x v z Q S dx hz q => by
    cases x with
    | lst ds =>
      obtain ⟨r, xs, rfl, h2, h3⟩ := dx
      cases hz
      refine ⟨r, xs, rfl, .inl ⟨.of h2, fun l hl => q.layD S hl ?_⟩⟩
      simp only [Dat]
      exact ⟨l, xs, rfl, .of upd_same, DatL.same (same_upd (S.f.free hl)) _ _ h3⟩
    | tup ds =>
      have dx : Dat X.K X.mg F (.tup ds) v := dx
      have dx2 := dx
      simp only [Dat] at dx
      obtain ⟨r, xs, rfl, h2, h3⟩ := dx
      cases hz
      exact ⟨r, xs, rfl, .inr ⟨sqT_same S.f h2, q.done S dx2⟩⟩
    | _ => cases hz) na
/-! sorted, of ints -/
def sortI (ns : List Int) : List Int := ns.mergeSort (fun a b => decide (a ≤ b))
theorem sortI_perm (ns : List Int) : (sortI ns).Perm ns := List.mergeSort_perm ns _
theorem sortI_sorted (ns : List Int) : (sortI ns).Pairwise (· ≤ ·) := by
  have := List.pairwise_mergeSort (le := fun (a b : Int) => decide (a ≤ b)) (fun a b c h1 h2 => by
    simp only [decide_eq_true_eq] at h1 h2 ⊢
    omega) (fun a b => by
    simp only [Bool.or_eq_true, decide_eq_true_eq]
    omega) ns
  exact this.imp fun h => by simpa using h
theorem perm_sorted_eq {as bs : List Int} (p : as.Perm bs) (ha : as.Pairwise (· ≤ ·)) (hb : bs.Pairwise (· ≤ ·)) : as = bs :=
  p.eq_of_pairwise (fun a b _ _ h1 h2 => Int.le_antisymm h1 h2) ha hb
def sortedO (d : D) : Option O := (liI d).map fun ns => .l ((sortI ns).map .int)
theorem boot_sorted : bootBuiltins "sorted" = some (.builtin "sorted") := by decide +kernel
theorem do_sortedI (hg : Gl X "sorted") (hm : X.mg "sorted" = none) (ha : DP X B W a wa) (na : NS a := by intro _ _; rfl) : DO X B W (.Call (.Name "sorted" p) [a] [] pos) (f1 sortedO wa) :=
  b1 (γ' := V) cr_sortedI hg hm boot_sorted (by decide) (by decide) ha (fun F own s σ H x v z Q S dx hz q => by
    simp only [sortedO, Option.map_eq_some_iff] at hz
    obtain ⟨ns, h1, rfl⟩ := hz
    obtain ⟨r, rfl, h2⟩ := liI_sq S.f dx h1
    refine ⟨r, ns, rfl, h2, fun ns' p hp hs hn => ?_⟩
    have e : ns' = sortI ns := perm_sorted_eq (hp.trans (sortI_perm ns).symm) hs (sortI_sorted ns)
    subst e
    exact q.layO S hn (rep_l (datL_ints _))) na
/-! isinstance of a built-in type -/
def D.tyN : D → Option String
  | .non => some "NoneType"
  | .bl _ => some "bool"
  | .int _ => some "int"
  | .str _ => some "str"
  | .lst _ => some "list"
  | .scr _ => none
  | .tup _ => some "tuple"
  | .dT _ => some "dict"
  | .dK _ => some "dict"
  | .obj _ _ => none
def isTy (T : String) (t : String) : Bool := t == T || (t == "bool" && T == "int")
def isD (T : String) (d : D) : Option D := d.tyN.map fun t => .bl (isTy T t)
theorem kit_all : ∀ t ∈ ["NoneType", "bool", "int", "str", "list", "tuple", "dict"], ∀ T ∈ ["bool", "int", "tuple", "list", "str"], kitB t T = some (isTy T t) := by decide +kernel
theorem tyX_of {F H : Hp} {own : Own} {x : D} {v : V} {t : String} (e : Same F H) (dx : rP X.K X.mg F own H x v) (h : x.tyN = some t) : TyX X.K H v (.type t) ∧ t ∈ ["NoneType", "bool", "int", "str", "list", "tuple", "dict"] := by
  cases x with
  | non => have dx : Dat X.K X.mg F .non v := dx; simp only [Dat] at dx; subst dx; cases h; exact ⟨.base .non, by simp⟩
  | bl b => have dx : Dat X.K X.mg F (.bl b) v := dx; simp only [Dat] at dx; subst dx; cases h; exact ⟨.base (.bl _), by simp⟩
  | int b => have dx : Dat X.K X.mg F (.int b) v := dx; simp only [Dat] at dx; subst dx; cases h; exact ⟨.base (.int _), by simp⟩
  | str b => have dx : Dat X.K X.mg F (.str b) v := dx; simp only [Dat] at dx; subst dx; cases h; exact ⟨.base (.str _), by simp⟩
  | lst ds =>
    obtain ⟨p, xs, rfl, h2, h3⟩ := dx
    cases h
    exact ⟨.base (.lst h2), by simp⟩
  | tup ds =>
    have dx : Dat X.K X.mg F (.tup ds) v := dx
    simp only [Dat] at dx
    obtain ⟨p, xs, rfl, h2, h3⟩ := dx
    cases h
    refine ⟨?_, by simp⟩
    rcases sqT_same e h2 with (h2 | ⟨o, h2⟩) | ⟨o, its, n, h2, h4, _⟩
    · exact .base (.tup h2)
    · exact .fTuple h2
    · exact .kTuple h2 h4
  | dT ds =>
    obtain ⟨p, xs, rfl, h2, h3⟩ := dx
    cases h
    exact ⟨.base (.dT h2), by simp⟩
  | dK ds =>
    obtain ⟨p, xs, rfl, h2, h3⟩ := dx
    cases h
    exact ⟨.base (.dK h2), by simp⟩
  | scr _ => cases h
  | obj _ _ => cases h
theorem boot_isinstance : bootBuiltins "isinstance" = some (.builtin "isinstance") := by decide +kernel
theorem de_isT {x2 : Str} {T : String} (hg : Gl X "isinstance") (hm : X.mg "isinstance" = none) (hg2 : Gl X x2) (hm2 : X.mg x2 = none) (hv : bootBuiltins x2 = some (.type T)) (hT : T ∈ ["bool", "int", "tuple", "list", "str"]) (ha : DP X B W a wa)
    (hn : x2 ≠ "__name__" := by decide) (hdb : (x2 == ("__debug__" : Str)) = false := by decide)
    (na : NS a := by intro _ _; rfl) :
    DE X B W (.Call (.Name "isinstance" p) [a, .Name x2 p'] [] pos) (f1 (isD T) wa) :=
  peImp (pe_callB call_isi hg hm boot_isinstance (pa_cons ha (pa_cons (pe_bltn (v := .ty T) hg2 hm2 hv rfl hn hdb) pa_nil rfl) (na _ _)) (by decide) (by decide) (na _ _) rfl) fun σ H Q h => t1 (ra := rP X.K X.mg) (ro := rD X.K X.mg) (r := fun (v : V) H Q => rIsi X.K [v, .ty T] H Q) (fun F own s σ H x v z Q S dx hz q => by
    simp only [isD, Option.map_eq_some_iff] at hz
    obtain ⟨t, h1, rfl⟩ := hz
    obtain ⟨h2, h3⟩ := tyX_of S.f dx h1
    exact ⟨v, .ty T, .type t, .type T, isTy T t, rfl, .ty T, h2, kit_ty (kit_all t h3 T hT), q.done S (sca_bl _ _ _)⟩) h
/-! math.gcd, math.isqrt, math.comb -/
theorem bf1 {id : String} {x : Str} {r : List V → Hp → VK → Prop} {ra : Rl α V} {ro : Rl γ V} {f : α → Option γ} {wa : DSt → R α} (hc : CallR X (.builtin id) r) (hg : Gl X x) (hm : X.mg x = some (.builtin id)) (hdb : (x == ("__debug__" : Str)) = false)
    (ha : PE X a (tG X.K X.mg B W ra wa)) (k : ∀ F own s σ H x v z (Q : VK), Sat X.K X.mg B F own s σ H → ra F own H x v → f x = some z → Post X.K X.mg B W ro F s σ H (.ok z) Q → r [v] H Q)
    (na : NS a) :
    PE X (.Call (.Name x p) [a] [] pos) (tG X.K X.mg B W ro (f1 f wa)) :=
  peImp (pe_callBfun hc hg hm (pa_cons ha pa_nil (na _ _)) hdb (na _ _) rfl) fun σ H Q h => t1 (ra := ra) (ro := ro) (r := fun (v : V) H Q => r [v] H Q) k h
theorem bf2 {id : String} {x : Str} {r : List V → Hp → VK → Prop} {ra : Rl α V} {rb : Rl β V} {ro : Rl γ V} {f : α → β → Option γ} {wa : DSt → R α} {wb : DSt → R β} (hc : CallR X (.builtin id) r) (hg : Gl X x) (hm : X.mg x = some (.builtin id)) (hdb : (x == ("__debug__" : Str)) = false)
    (ha : PE X a (tG X.K X.mg B W ra wa)) (hb : PE X b (tG X.K X.mg B W rb wb)) (keep : ∀ F F' own own' H H' d v, Same F F' → Same H H' → ra F own H d v → ra F' own' H' d v)
    (k : ∀ F own s σ H x y v u z (Q : VK), Sat X.K X.mg B F own s σ H → ra F own H x v → rb F own H y u → f x y = some z → Post X.K X.mg B W ro F s σ H (.ok z) Q → r [v, u] H Q)
    (na : NS a) (nb : NS b) :
    PE X (.Call (.Name x p) [a, b] [] pos) (tG X.K X.mg B W ro (f2 f wa wb)) :=
  peImp (pe_callBfun hc hg hm (pa_cons ha (pa_cons hb pa_nil (nb _ _)) (na _ _)) hdb (na _ _) (nb.pl _ _)) fun σ H Q h => t2 (ra := ra) (rb := rb) (ro := ro) (r := fun (v u : V) H Q => r [v, u] H Q) keep k h
def gcdI (i j : Int) : Option D := some (.int ((Nat.gcd i.natAbs j.natAbs : Nat) : Int))
theorem de_gcd (hg : Gl X "gcd") (hm : X.mg "gcd" = some (.builtin "math.gcd")) (ha : DE X B W a wa) (hb : DE X B W b wb) (na : NS a := by intro _ _; rfl) (nb : NS b := by intro _ _; rfl) :
    DE X B W (.Call (.Name "gcd" p) [a, b] [] pos) (f2 (ii gcdI) wa wb) :=
  bf2 cr_gcd hg hm (by decide) ha hb keepD (fun F own s σ H x y v u z Q S dx dy hz q => by
    obtain ⟨i, j, rfl, rfl, hz⟩ := ii_some hz
    cases hz
    have ev : v = .int i := by simpa [rD, Dat] using dx
    have eu : u = .int j := by simpa [rD, Dat] using dy
    exact ⟨i, j, by rw [ev, eu], q.done S (sca_int _ _ _)⟩) na nb
theorem cr_isqrt : CallR X (.builtin "math.isqrt") (fun vs H Q => ∃ a : Int, vs = [.int a] ∧ 0 ≤ a ∧ a < 2 ^ 64 ∧ Q (.int ((Float64.isqrt a.toNat : Nat) : Int)) H) := by
  intro pins s σ H vs us Q I r h
  obtain ⟨a, rfl, h0, h1, q⟩ := h
  obtain ⟨u, rfl, t, rfl⟩ := vals1 r
  exact PySem.W.mg_isqrt h0 h1 ⟨.int _, H, I.tok _, ⟨_, rfl⟩, q⟩
def isqrtI (i : Int) : Option D := if 0 ≤ i ∧ i < 2 ^ 64 then some (.int ((Float64.isqrt i.toNat : Nat) : Int)) else none
theorem de_isqrt (hg : Gl X "isqrt") (hm : X.mg "isqrt" = some (.builtin "math.isqrt")) (ha : DE X B W a wa) (na : NS a := by intro _ _; rfl) : DE X B W (.Call (.Name "isqrt" p) [a] [] pos) (f1 (unI isqrtI) wa) :=
  bf1 cr_isqrt hg hm (by decide) ha (fun F own s σ H x v z Q S dx hz q => by
    cases x with
    | int i =>
      simp only [unI, isqrtI] at hz
      split at hz
      · rename_i hl
        cases hz
        have ev : v = .int i := by simpa [rD, Dat] using dx
        exact ⟨i, by rw [ev], hl.1, hl.2, q.done S (sca_int _ _ _)⟩
      · cases hz
    | _ => cases hz) na
theorem cr_comb : CallR X (.builtin "math.comb") (fun vs H Q => ∃ a b : Int, vs = [.int a, .int b] ∧ 0 ≤ a ∧ 0 ≤ b ∧ a ≤ 18000 ∧ Q (.int (PySem.W.mcComb a b)) H) := by
  intro pins s σ H vs us Q I r h
  obtain ⟨a, b, rfl, h0, h1, h2, q⟩ := h
  obtain ⟨t, u, rfl⟩ := Vals.int2 r
  exact PySem.W.mc_comb h0 h1 (by omega) (.inr h2) fun _ => ⟨.int _, H, I.tok _, ⟨_, rfl⟩, q⟩
def combI (i j : Int) : Option D := if 0 ≤ i ∧ 0 ≤ j ∧ i ≤ 18000 then some (.int (PySem.W.mcComb i j)) else none
theorem de_comb (hg : Gl X "comb") (hm : X.mg "comb" = some (.builtin "math.comb")) (ha : DE X B W a wa) (hb : DE X B W b wb) (na : NS a := by intro _ _; rfl) (nb : NS b := by intro _ _; rfl) :
    DE X B W (.Call (.Name "comb" p) [a, b] [] pos) (f2 (ii combI) wa wb) :=
  bf2 cr_comb hg hm (by decide) ha hb keepD (fun F own s σ H x y v u z Q S dx dy hz q => by
    obtain ⟨i, j, rfl, rfl, hz2⟩ := ii_some hz
    unfold combI at hz2
    split at hz2
    · rename_i hl
      cases hz2
      have ev : v = .int i := by simpa [rD, Dat] using dx
      have eu : u = .int j := by simpa [rD, Dat] using dy
      exact ⟨i, j, by rw [ev, eu], hl.1, hl.2.1, hl.2.2, q.done S (sca_int _ _ _)⟩
    · cases hz2) na nb
end
end DL

namespace DL
open PySem PySem.Spec PyProof.Rows L2

/-! ### statements -/
inductive RS where
  | nx (s : DSt) | rt (o : O) | bk (s : DSt) | ct (s : DSt) | exc (c : Str) (s : DSt) | bad
abbrev SD := DSt → RS
section
variable (K : PySem.W.Frag) (mg : Str → Option Value)
def PostS (B : Bd) (W : WX) (F : Hp) (r : RS) (D : Ends) : Prop :=
  match r with
  | .nx s => ∀ F' own' σ' H', Same F F' → Sat K mg B F' own' s σ' H' → D.nx σ' H'
  | .bk s => ∀ F' own' σ' H', Same F F' → Sat K mg B F' own' s σ' H' → D.bk σ' H'
  | .ct s => ∀ F' own' σ' H', Same F F' → Sat K mg B F' own' s σ' H' → D.ct σ' H'
  | .rt o => ∀ F' own' s σ' H' v, Same F F' → Sat K mg B F' own' s σ' H' → Rep K mg F' H' own' [0] o v → D.rt v H'
  | .exc c s => ∀ C F' own' σ' H', mg c = some (.ref C) → Same F F' → Sat K mg B F' own' s σ' H' → W (.ref C) none σ' H'
  | .bad => False
def tS (B : Bd) (W : WX) (w : SD) : TS := fun D σ H => ∃ F own s, Sat K mg B F own s σ H ∧ PostS K mg B W F (w s) D
/-- alike but at these slots -/
def Ag {α : Type} (vs : List Nat) (σ σ' : List (Option α)) : Prop := σ'.length = σ.length ∧ ∀ j, j ∉ vs → σ'[j]? = σ[j]?
theorem Ag.refl {α : Type} {vs : List Nat} {σ : List (Option α)} : Ag vs σ σ := ⟨rfl, fun _ _ => rfl⟩
theorem Ag.set {α : Type} {σ : List (Option α)} {i : Nat} {x : Option α} : Ag [i] σ (σ.set i x) := ⟨List.length_set .., fun j h => List.getElem?_set_ne (fun e => h (by simp [e]))⟩
theorem Ag.trans {α : Type} {vs us : List Nat} {a b c : List (Option α)} (h : Ag vs a b) (h' : Ag us b c) : Ag (vs ++ us) a c :=
  ⟨h'.1.trans h.1, fun j hj => by
    rw [List.mem_append, not_or] at hj
    rw [h'.2 j hj.2, h.2 j hj.1]⟩
/-- targets -/
abbrev GD := D → DSt → Option DSt
def tT (B : Bd) (vs : List Nat) (g : GD) : TG := fun v σ H Q => ∃ F own s d, Sat K mg B F own s σ H ∧ Dat K mg F d v ∧ match g d s with
  | some s' => ∀ F' own' σ' H', Same F F' → Same H H' → Ag vs σ σ' → Sat K mg B F' own' s' σ' H' → Q σ' H'
  | none => False
abbrev GDs := List D → DSt → Option DSt
def tTs (B : Bd) (vs : List Nat) (g : GDs) : TGs := fun us σ H Q => ∃ F own s ds, Sat K mg B F own s σ H ∧ DatL K mg F ds us ∧ match g ds s with
  | some s' => ∀ F' own' σ' H', Same F F' → Same H H' → Ag vs σ σ' → Sat K mg B F' own' s' σ' H' → Q σ' H'
  | none => False
/-- an iterator walks these data -/
structure Wlk (F : Hp) (J : It) (ds : List D) : Prop where
  go : ∀ i B F1 own s σ H, Same F F1 → Sat K mg B F1 own s σ H → i < ds.length → J.go i H
  stop : ∀ B F1 own s σ H, Same F F1 → Sat K mg B F1 own s σ H → J.stop ds.length H
  yld : ∀ i B F1 own s σ H x H' d, Same F F1 → Sat K mg B F1 own s σ H → ds[i]? = some d → J.yld i H x H' → ∃ F2, Same F1 F2 ∧ Same H H' ∧ Sat K mg B F2 own s σ H' ∧ Dat K mg F2 d x
def tI (B : Bd) (W : WX) (wi : DSt → R (List D)) : TI := fun σ H R => ∃ F own s, Sat K mg B F own s σ H ∧ match wi s with
  | .ok ds => ∀ F' own' H' J, Same F F' → Same H H' → Sat K mg B F' own' s σ H' → Wlk K mg F' J ds → R J H'
  | .exc c => ∀ C F' own' H', mg c = some (.ref C) → Same F F' → Same H H' → Sat K mg B F' own' s σ H' → W (.ref C) none σ H'
  | .bad => False
end
/-- what stands around an expression: not within an except suite; exceptions are taken by W -/
structure Ce (X : Cx) (W : WX) : Prop where
  calm : X.calm = true
  tk : Takes X W
  nd : X.N.Nodup
/-- .. around a body -/
structure Cd (X : Cx) (W : WX) : Prop extends Ce X W where
  po : PassesOwn (model X.prog X.w) X.A X.env X.xe
section
variable (X : Cx) (B : Bd) (W : WX)
abbrev DS (st : Stmt) (w : SD) : Prop := PS X st (tS X.K X.mg B W w)
abbrev DSs (st : List Stmt) (w : SD) : Prop := PSs X st (tS X.K X.mg B W w)
structure DG (vs : List Nat) (e : Expr) (g : GD) : Prop where
  run : PG X e (tT X.K X.mg B vs g)
  ag : ∀ d s s', g d s = some s' → Ag vs s s'
structure DGs (vs : List Nat) (es : List Expr) (g : GDs) : Prop where
  run : PGs X es (tTs X.K X.mg B vs g)
  ag : ∀ d s s', g d s = some s' → Ag vs s s'
abbrev DI (tg iter : Expr) (wi : DSt → R (List D)) : Prop := PI X tg iter (tI X.K X.mg B W wi)
end
theorem psImp {X : Cx} {st : Stmt} {t t' : TS} (h : PS X st t) (k : ∀ D σ H, t' D σ H → t D σ H) : PS X st t' := ⟨fun pins s σ H D I q => h.run pins s σ H D I (k D σ H q)⟩
theorem pssImp {X : Cx} {st : List Stmt} {t t' : TS} (h : PSs X st t) (k : ∀ D σ H, t' D σ H → t D σ H) : PSs X st t' := ⟨fun pins s σ H D I q => h.run pins s σ H D I (k D σ H q)⟩
theorem pgImp {X : Cx} {e : Expr} {t t' : TG} (h : PG X e t) (k : ∀ v σ H Q, t' v σ H Q → t v σ H Q) : PG X e t' := ⟨fun pins s σ H v u Q I r q => h.run pins s σ H v u Q I r (k v σ H Q q)⟩
theorem pgsImp {X : Cx} {e : List Expr} {t t' : TGs} (h : PGs X e t) (k : ∀ v σ H Q, t' v σ H Q → t v σ H Q) : PGs X e t' := ⟨fun pins s σ H v u Q I r q => h.run pins s σ H v u Q I r (k v σ H Q q)⟩
theorem piImp {X : Cx} {tg e : Expr} {t t' : TI} (h : PI X tg e t) (k : ∀ σ H Q, t' σ H Q → t σ H Q) : PI X tg e t' := ⟨fun pins s σ H Q I q => h.run pins s σ H Q I (k σ H Q q)⟩
section
variable {X : Cx} {B : Bd} {W : WX} {e a b c tg iter : Expr} {es rest : List Expr} {st : Stmt} {sts us : List Stmt} {w wa wb : ED} {p p' pos : Pos} {u v : SD} {α : Type}
theorem PostS.from {K : PySem.W.Frag} {mg : Str → Option Value} {F F1 : Hp} {r : RS} {D : Ends} (h : PostS K mg B W F r D) (e : Same F F1) : PostS K mg B W F1 r D := by
  cases r with
  | nx s => exact fun F' own' σ' H' e1 S => h F' own' σ' H' (e.trans e1) S
  | bk s => exact fun F' own' σ' H' e1 S => h F' own' σ' H' (e.trans e1) S
  | ct s => exact fun F' own' σ' H' e1 S => h F' own' σ' H' (e.trans e1) S
  | rt o => exact fun F' own' s σ' H' v e1 S q => h F' own' s σ' H' v (e.trans e1) S q
  | exc c s => exact fun C F' own' σ' H' hm e1 S => h C F' own' σ' H' hm (e.trans e1) S
  | bad => exact h
theorem PostS.ends {K : PySem.W.Frag} {mg : Str → Option Value} {F : Hp} {r : RS} {D D' : Ends} (h : PostS K mg B W F r D) (h1 : ∀ s, r ≠ .nx s) (hb : D'.bk = D.bk) (hc : D'.ct = D.ct) (hr : D'.rt = D.rt) : PostS K mg B W F r D' := by
  cases r with
  | nx s => exact absurd rfl (h1 s)
  | bk s => simp only [PostS, hb] at h ⊢; exact h
  | ct s => simp only [PostS, hc] at h ⊢; exact h
  | rt o => simp only [PostS, hr] at h ⊢; exact h
  | exc c s => exact h
  | bad => exact h
/-! blocks -/
def dNx : SD := fun s => .nx s
def dSeq (u v : SD) : SD := fun s => match u s with
  | .nx s' => v s'
  | r => r
theorem dss_nil : DSs X B W [] dNx := pssImp pss_nil fun D σ H ⟨F, own, s, S, q⟩ => q F own σ H (Same.refl _) S
theorem dss_cons (h1 : DS X B W st u) (h2 : DSs X B W sts v) : DSs X B W (st :: sts) (dSeq u v) :=
  pssImp (pss_cons h1 h2) fun D σ H ⟨F, own, s, S, q⟩ => ⟨F, own, s, S, by
    have q : PostS X.K X.mg B W F (match u s with | .nx s' => v s' | r => r) D := q
    generalize u s = r at q ⊢
    cases r with
    | nx s' => exact fun F' own' σ' H' e S' => ⟨F', own', s', S', PostS.from (show PostS X.K X.mg B W F (v s') D from q) e⟩
    | bk s' => exact q
    | ct s' => exact q
    | rt o => exact q
    | exc c s' => exact q
    | bad => exact q⟩
theorem dss_one (h1 : DS X B W st u) : DSs X B W [st] u := pss_one h1
def dBk : SD := fun s => .bk s
def dCt : SD := fun s => .ct s
theorem ds_pass : DS X B W (.Pass pos) dNx := psImp ps_pass fun D σ H ⟨F, own, s, S, q⟩ => q F own σ H (Same.refl _) S
theorem ds_break : DS X B W (.Break pos) dBk := psImp ps_break fun D σ H ⟨F, own, s, S, q⟩ => q F own σ H (Same.refl _) S
theorem ds_continue : DS X B W (.Continue pos) dCt := psImp ps_continue fun D σ H ⟨F, own, s, S, q⟩ => q F own σ H (Same.refl _) S
/-- code that is never come to -/
def dNever : SD := fun _ => .bad
theorem ds_never : DS X B W st dNever := psImp ps_never fun D σ H ⟨F, own, s, S, q⟩ => q
theorem dss_never : DSs X B W sts dNever := pssImp pss_never fun D σ H ⟨F, own, s, S, q⟩ => q
/-- a ghost step: a slot's thing becomes persistent -/
def dFrz (i : Nat) (u : SD) : SD := fun s => match s[i]? with
  | some (some o) => u (s.set i (some (.per o.toD)))
  | _ => .bad
theorem ds_frz (i : Nat) (h : DS X B W st u) : DS X B W st (dFrz i u) :=
  psImp h fun D σ H ⟨F, own, s, S, q⟩ => by
    unfold dFrz at q
    split at q
    · rename_i o hs
      obtain ⟨S', e⟩ := S.frzSlot hs
      exact ⟨_, _, _, S', PostS.from q e⟩
    · exact q.elim
/-! ### from an expression's result to a statement's -/
def R.toS (r : R α) (s : DSt) (k : α → RS) : RS := match r with
  | .ok a => k a
  | .exc c => .exc c s
  | .bad => .bad
theorem PostS.of {β : Type} {K : PySem.W.Frag} {mg : Str → Option Value} {rl : Rl α β} {F : Hp} {s : DSt} {σ : L2.St} {H : Hp} {r : R α} {k : α → RS} {D : Ends} {Q : β → Hp → Prop} (h : PostS K mg B W F (r.toS s k) D)
    (hk : ∀ x F' own' H' v, Sat K mg B F' own' s σ H' → Same F F' → Same H H' → rl F' own' H' x v → PostS K mg B W F' (k x) D → Q v H') : Post K mg B W rl F s σ H r Q := by
  cases r with
  | ok a => exact fun F' own' H' b e1 e2 S q => hk a F' own' H' b S e1 e2 q (PostS.from (show PostS K mg B W F (k a) D from h) e1)
  | exc c => exact fun C F' own' H' hm e1 e2 S => h C F' own' σ H' hm e1 S
  | bad => exact h
/-! name = e -/
def dSet (i : Nat) (w : ED) : SD := fun s => (w s).toS s fun d => .nx (s.set i (some (.per d)))
def dSetO (i : Nat) (w : EO) : SD := fun s => (w s).toS s fun o => .nx (s.set i (some o))
variable {i : Nat} {x : Str}
theorem ds_set (i : Nat) (hB : Fre B) (hN : X.N.Nodup) (he : DE X B W e w) (hi : X.N[i]? = some x := by rfl) (hx : Loc X.env.scope x := by first | exact Or.inl rfl | exact Or.inr rfl) (hs : swapsWith e (some (.Name x p')) pos.line X.env = pure false := by rfl) (hf : X.fn x = true ∨ X.env.scope.names.lookup x = some .local := by first | exact .inl rfl | exact .inr rfl | assumption) :
    DS X B W (.Assign [.Name x p'] e pos) (dSet i w) :=
  psImp (ps_set hN hi hx he hs hf) fun D σ H ⟨F, own, s, S, q⟩ => ⟨F, own, s, S, PostS.of q fun d F' own' H' v S' e1 eH dx q' => q' F' own' _ H' (Same.refl _) (S'.storeD hB dx)⟩
theorem ds_setO {w : EO} (i : Nat) (hB : Fre B) (hN : X.N.Nodup) (he : DO X B W e w) (hi : X.N[i]? = some x := by rfl) (hx : Loc X.env.scope x := by first | exact Or.inl rfl | exact Or.inr rfl) (hs : swapsWith e (some (.Name x p')) pos.line X.env = pure false := by rfl) (hf : X.fn x = true ∨ X.env.scope.names.lookup x = some .local := by first | exact .inl rfl | exact .inr rfl | assumption) :
    DS X B W (.Assign [.Name x p'] e pos) (dSetO i w) :=
  psImp (ps_set hN hi hx he hs hf) fun D σ H ⟨F, own, s, S, q⟩ => ⟨F, own, s, S, PostS.of q fun d F' own' H' v S' e1 eH dx q' => q' F' _ _ H' (Same.refl _) (S'.store hB dx)⟩
/-! e -/
def dDrop (w : DSt → R α) : SD := fun s => (w s).toS s fun _ => .nx s
theorem ds_expr {rl : Rl α V} {w : DSt → R α} (he : PE X e (tG X.K X.mg B W rl w)) (hs : swapsWith e none pos.line X.env = pure false := by rfl) : DS X B W (.Expr e pos) (dDrop w) :=
  psImp (ps_expr he hs) fun D σ H ⟨F, own, s, S, q⟩ => ⟨F, own, s, S, PostS.of q fun d F' own' H' v S' e1 eH dx q' => q' F' own' _ H' (Same.refl _) S'⟩
/-! return -/
def dRet (w : ED) : SD := fun s => (w s).toS s fun d => .rt (.per d)
def dRetO (w : EO) : SD := fun s => (w s).toS s fun o => .rt o
def dRetN : SD := fun _ => .rt (.per .non)
theorem ds_ret (he : DE X B W e w) : DS X B W (.Return (some e) pos) (dRet w) :=
  psImp (ps_ret he) fun D σ H ⟨F, own, s, S, q⟩ => ⟨F, own, s, S, PostS.of q fun d F' own' H' v S' e1 eH dx q' => q' F' own' s σ H' v (Same.refl _) S' (by simp only [Rep]; exact dx)⟩
theorem ds_retO {w : EO} (he : DO X B W e w) : DS X B W (.Return (some e) pos) (dRetO w) :=
  psImp (ps_ret he) fun D σ H ⟨F, own, s, S, q⟩ => ⟨F, own, s, S, PostS.of q fun d F' own' H' v S' e1 eH dx q' => q' F' own' s σ H' v (Same.refl _) S' dx⟩
theorem ds_retN : DS X B W (.Return none pos) dRetN :=
  psImp ps_retN fun D σ H ⟨F, own, s, S, q⟩ => q F own s σ H .non (Same.refl _) S (by simp only [Rep, Dat])
/-- return of a slot's own thing -/
def dMove (i : Nat) : SD := fun s => match s[i]? with
  | some (some o) => .rt o
  | _ => .bad
theorem Sat.moved {K : PySem.W.Frag} {mg : Str → Option Value} {F H : Hp} {own : Own} {s : DSt} {σ : L2.St} (S : Sat K mg B F own s σ H) (i : Nat) : Sat K mg B F (reOwn own (i + 1) 0) (s.set i none) σ H := by
  refine ⟨S.u, S.f, S.f0, S.new, fun j u e => ?_, fun a π e => ?_, by rw [List.length_set]; exact S.len, S.ck⟩
  · by_cases hj : j = i
    · subst hj
      by_cases hl : j < s.length
      · rw [List.getElem?_set_self hl] at e; cases e
      · rw [List.getElem?_eq_none (by simpa using hl)] at e; cases e
    · rw [List.getElem?_set_ne (Ne.symm hj)] at e
      obtain ⟨w, h1, h2⟩ := S.slot j u e
      exact ⟨w, h1, h2.keep u (Same.refl F) fun a l ob w1 w2 => ⟨reOwn_miss w1 (fun z => hj (Nat.succ.inj z)), w2⟩⟩
  · unfold reOwn at e
    split at e
    · cases q : own a with
      | none => rw [q] at e; cases e
      | some π' => exact S.own a π' q
    · exact S.own a π e
theorem ds_move (i : Nat) (he : PE X e (tVar i)) : DS X B W (.Return (some e) pos) (dMove i) :=
  psImp (ps_ret he) fun D σ H ⟨F, own, s, S, q⟩ => by
    unfold dMove at q
    split at q
    · rename_i o hs
      obtain ⟨v, h1, h2⟩ := S.slot i o hs
      exact ⟨v, h1, q F _ _ σ H v (Same.refl _) (S.moved i) (h2.keep o (Same.refl F) fun a l ob w1 w2 => ⟨reOwn_hit w1, w2⟩)⟩
    · exact q.elim
/-! if -/
def dIfS (c : DSt → R Bool) (u v : SD) : SD := fun s => (c s).toS s fun b => if b = true then u s else v s
theorem ds_if {bc : DSt → R Bool} (hc : DT X B W c bc) (ha : DSs X B W sts u) (hb : DSs X B W us v) : DS X B W (.If c sts us pos) (dIfS bc u v) :=
  psImp (ps_if hc ha hb) fun D σ H ⟨F, own, s, S, q⟩ => ⟨F, own, s, S, PostS.of q fun d F' own' H' b S' e1 eH dx q' => by
    cases (show d = b from dx)
    cases d with
    | true => exact iteT ⟨F', own', s, S', q'⟩
    | false => exact iteF ⟨F', own', s, S', q'⟩⟩
/-! raise -/
def dRaise (c : Str) : SD := fun s => .exc c s
theorem ds_raise {C : Addr} {m : Str} {j : Nat} {p2 : Pos} (cd : Cd X W) (q : PySem.W.excIn X.K C He.veBase "ValueError.__new__" = true) (gC : X.mg x = some (.ref C)) (kC : PySem.W.keepIn X.K (.ref C) = true) (h1 : PySem.W.subIn X.K (.ref C) (.type "BaseException") = some true) (h2 : PySem.W.typeIn X.K (.ref C) = some (.type "type"))
    (hg : Gl X x) (hdb : (x == ("__debug__" : Str)) = false := by decide) : DS X B W (.Raise (some (.Call (.Name x p) [.Constant (.str m) j p2] [] p')) none pos) (dRaise x) :=
  psImp (ps_raise cd.calm cd.tk (pmk_own PySem.F.excBase_ValueError q gC kC (raises_own h1 h2) hg hdb)) fun D σ H ⟨F, own, s, S, h⟩ => h C F own σ H gC (Same.refl _) S
/-! targets -/
def gN (i : Nat) : GD := fun d s => some (s.set i (some (.per d)))
theorem dg_name (i : Nat) (hB : Fre B) (hN : X.N.Nodup) (hi : X.N[i]? = some x := by rfl) (hx : Loc X.env.scope x := by first | exact Or.inl rfl | exact Or.inr rfl) (hf : X.fn x = true ∨ X.env.scope.names.lookup x = some .local := by first | exact .inl rfl | exact .inr rfl | assumption) : DG X B [i] (.Name x pos) (gN i) where
  run := pgImp (pg_name hN hi hx hf) fun v σ H Q ⟨F, own, s, d, S, dx, q⟩ => q F own _ H (Same.refl _) (Same.refl _) .set (S.storeD hB dx)
  ag := fun d s s' h => by
    cases h
    exact .set
def gZ : GDs := fun ds s => match ds with
  | [] => some s
  | _ => none
def gC (g : GD) (gs : GDs) : GDs := fun ds s => match ds with
  | d :: ds => (g d s).bind fun s' => gs ds s'
  | [] => none
theorem dgs_nil : DGs X B [] [] gZ where
  run := pgsImp pgs_nil fun vs σ H Q ⟨F, own, s, ds, S, dx, q⟩ => by
    cases ds with
    | nil =>
      simp only [DatL] at dx
      exact ⟨dx, q F own σ H (Same.refl _) (Same.refl _) .refl S⟩
    | cons d ds => exact q.elim
  ag := fun ds s s' h => by
    cases ds with
    | nil => cases h; exact .refl
    | cons d ds => cases h
theorem dgs_cons {vs us : List Nat} {g : GD} {gs : GDs} (h1 : DG X B vs e g) (h2 : DGs X B us es gs) (hs : (assignEach (e :: es) X.env).map (·.2) = assign e X.env :: (assignEach es X.env).map (·.2) := by rfl) : DGs X B (vs ++ us) (e :: es) (gC g gs) where
  run := pgsImp (pgs_cons h1.run h2.run hs) fun xs σ H Q ⟨F, own, s, ds, S, dx, q⟩ => by
    cases ds with
    | nil => exact q.elim
    | cons d ds =>
      simp only [DatL] at dx
      obtain ⟨v, r, rfl, h3, h4⟩ := dx
      refine ⟨v, r, rfl, F, own, s, d, S, h3, ?_⟩
      have q : match (g d s).bind fun s' => gs ds s' with
        | some s' => ∀ F' own' σ' H', Same F F' → Same H H' → Ag (vs ++ us) σ σ' → Sat X.K X.mg B F' own' s' σ' H' → Q σ' H'
        | none => False := q
      cases hg : g d s with
      | none => rw [hg] at q; exact q.elim
      | some s1 =>
        rw [hg] at q
        refine fun F' own' σ' H' e1 eH1 a1 S1 => ⟨F', own', s1, ds, S1, DatL.same e1 _ _ h4, ?_⟩
        have q : match gs ds s1 with
          | some s' => ∀ F' own' σ' H', Same F F' → Same H H' → Ag (vs ++ us) σ σ' → Sat X.K X.mg B F' own' s' σ' H' → Q σ' H'
          | none => False := q
        cases hg2 : gs ds s1 with
        | none => rw [hg2] at q; exact q.elim
        | some s2 =>
          rw [hg2] at q
          exact fun F'' own'' σ'' H'' e2 eH2 a2 S2 => q F'' own'' σ'' H'' (e1.trans e2) (eH1.trans eH2) (a1.trans a2) S2
  ag := fun ds s s' h => by
    cases ds with
    | nil => cases h
    | cons d ds =>
      have h : (g d s).bind (fun s' => gs ds s') = some s' := h
      cases hg : g d s with
      | none => rw [hg] at h; cases h
      | some s1 =>
        rw [hg] at h
        exact (h1.ag _ _ _ hg).trans (h2.ag _ _ _ h)
/-- (a, b, ..) from a tuple or a list of that length -/
def gU (n : Nat) (gs : GDs) : GD := fun d s => match d with
  | .tup ds => if ds.length = n then gs ds s else none
  | .lst ds => if ds.length = n then gs ds s else none
  | _ => none
theorem PG.or {t t' : TG} (h : PG X e t) (h' : PG X e t') : PG X e (fun v σ H Q => t v σ H Q ∨ t' v σ H Q) := ⟨fun pins s σ H v u Q I r q => by
  rcases q with q | q
  · exact h.run pins s σ H v u Q I r q
  · exact h'.run pins s σ H v u Q I r q⟩
theorem dg_tup {k n : Nat} {vs : List Nat} {gs : GDs} (hc : X.calm = true) (h : DGs X B vs es gs) (hn : (assignEach es X.env).length = n := by rfl) (hst : (assignEach es X.env).findIdx? (·.1) = none := by rfl) : DG X B vs (.Tuple es k pos) (gU n gs) where
  run := pgImp (PG.or (pg_tup hc h.run hn hst) (pg_lst hc h.run hn hst)) fun v σ H Q ⟨F, own, s, d, S, dx, q⟩ => by
    cases d with
    | tup ds =>
      simp only [Dat] at dx
      obtain ⟨a, xs, rfl, h2, h3⟩ := dx
      simp only [gU] at q
      by_cases hl : ds.length = n
      · rw [if_pos hl] at q
        exact .inl ⟨a, xs, rfl, sqT_same S.f h2, by rw [h3.length, hl], F, own, s, ds, S, h3, q⟩
      · rw [if_neg hl] at q; exact q.elim
    | lst ds =>
      simp only [Dat] at dx
      obtain ⟨a, xs, rfl, h2, h3⟩ := dx
      simp only [gU] at q
      by_cases hl : ds.length = n
      · rw [if_pos hl] at q
        exact .inr ⟨a, xs, rfl, .of (S.f _ _ h2), by rw [h3.length, hl], F, own, s, ds, S, h3, q⟩
      · rw [if_neg hl] at q; exact q.elim
    | _ => exact q.elim
  ag := fun d s s' e => by
    cases d with
    | tup ds =>
      simp only [gU] at e
      split at e
      · exact h.ag _ _ _ e
      · cases e
    | lst ds =>
      simp only [gU] at e
      split at e
      · exact h.ag _ _ _ e
      · cases e
    | _ => cases e
/-- target = e -/
def dAsg (g : GD) (w : ED) : SD := fun s => (w s).toS s fun d => match g d s with
  | some s' => .nx s'
  | none => .bad
theorem ds_asg {g : GD} {vs : List Nat} (he : DE X B W e w) (hg : DG X B vs tg g) (hs : swapsWithSole [tg] e pos.line X.env = pure false := by rfl) (hw : swappedStores [tg] e X.env = pure none := by rfl) (h1 : (assignEach [tg] X.env).map (·.2) = [assign tg X.env] := by rfl) :
    DS X B W (.Assign [tg] e pos) (dAsg g w) :=
  psImp (ps_asg he hg.run hs hw h1) fun D σ H ⟨F, own, s, S, q⟩ => ⟨F, own, s, S, PostS.of q fun d F' own' H' v S' e1 eH dx q' => by
    refine ⟨F', own', s, d, S', dx, ?_⟩
    cases hg2 : g d s with
    | none => rw [hg2] at q'; exact q'.elim
    | some s1 => rw [hg2] at q'; exact fun F'' own'' σ'' H'' e2 _ _ S2 => q' F'' own'' σ'' H'' e2 S2⟩
/-- a, b = x, y; a, b, c = x, y, z: local names -/
def dPar (is : List Nat) (ws : DSt → R (List D)) : SD := fun s => (ws s).toS s fun ds => if ds.length = is.length then .nx ((is.zip ds).foldl (fun s q => s.set q.1 (some (.per q.2))) s) else .bad
theorem ds_par2 {i j : Nat} {x y : Str} {a b : Expr} {ws : DSt → R (List D)} {px py pt : Pos} {kt k2 pt2} (hB : Fre B) (hc : X.calm = true) (hN : X.N.Nodup) (hi : X.N[i]? = some x) (hj : X.N[j]? = some y) (hij : i ≠ j)
    (hx : X.env.scope.names.lookup x = some .local) (hy : X.env.scope.names.lookup y = some .local) (ha : DA X B W [a, b] ws)
    (hw : swappedStores [.Tuple [.Name x px, .Name y py] kt pt] (.Tuple [a, b] k2 pt2) X.env = pure (some [x, y]) := by rfl)
    (hs : swapsWithSole [.Tuple [.Name x px, .Name y py] kt pt] (.Tuple [a, b] k2 pt2) pos.line X.env = pure false := by rfl) :
    DS X B W (.Assign [.Tuple [.Name x px, .Name y py] kt pt] (.Tuple [a, b] k2 pt2) pos) (dPar [i, j] ws) :=
  psImp (ps_par hc hN hi hj hij hx hy ha hw hs) fun D σ H ⟨F, own, s, S, q⟩ => ⟨F, own, s, S, PostS.of q fun ds F' own' H' vs S' e1 eH dx q' => by
    have dx : DatL X.K X.mg F' ds vs := dx
    match ds, q', dx with
    | [d1, d2], q', dx =>
      simp only [DatL] at dx
      obtain ⟨v1, r1, rfl, h1, v2, r2, rfl, h2, rfl⟩ := dx
      exact ⟨v1, v2, rfl, q' F' own' _ H' (Same.refl _) ((S'.storeD hB h1).storeD hB h2)⟩
    | [], q', _ => exact q'.elim
    | [_], q', _ => exact q'.elim
    | _ :: _ :: _ :: _, q', _ =>
      have q' : PostS X.K X.mg B W F' (if _ = _ then _ else RS.bad) D := q'
      rw [if_neg (by simp)] at q'
      exact q'.elim⟩
theorem ds_par3 {i j l : Nat} {x y z : Str} {a b c : Expr} {ws : DSt → R (List D)} {px py pz pt : Pos} {kt k2 pt2} (hB : Fre B) (hc : X.calm = true) (hN : X.N.Nodup) (hi : X.N[i]? = some x) (hj : X.N[j]? = some y) (hl : X.N[l]? = some z) (hij : i ≠ j) (hil : i ≠ l) (hjl : j ≠ l)
    (hx : X.env.scope.names.lookup x = some .local) (hy : X.env.scope.names.lookup y = some .local) (hz : X.env.scope.names.lookup z = some .local) (ha : DA X B W [a, b, c] ws)
    (hw : swappedStores [.Tuple [.Name x px, .Name y py, .Name z pz] kt pt] (.Tuple [a, b, c] k2 pt2) X.env = pure (some [x, y, z]) := by rfl)
    (hs : swapsWithSole [.Tuple [.Name x px, .Name y py, .Name z pz] kt pt] (.Tuple [a, b, c] k2 pt2) pos.line X.env = pure false := by rfl) :
    DS X B W (.Assign [.Tuple [.Name x px, .Name y py, .Name z pz] kt pt] (.Tuple [a, b, c] k2 pt2) pos) (dPar [i, j, l] ws) :=
  psImp (ps_par3 hc hN hi hj hl hij hil hjl hx hy hz ha hw hs) fun D σ H ⟨F, own, s, S, q⟩ => ⟨F, own, s, S, PostS.of q fun ds F' own' H' vs S' e1 eH dx q' => by
    have dx : DatL X.K X.mg F' ds vs := dx
    match ds, q', dx with
    | [d1, d2, d3], q', dx =>
      simp only [DatL] at dx
      obtain ⟨v1, r1, rfl, h1, v2, r2, rfl, h2, v3, r3, rfl, h3, rfl⟩ := dx
      exact ⟨v1, v2, v3, rfl, q' F' own' _ H' (Same.refl _) (((S'.storeD hB h1).storeD hB h2).storeD hB h3)⟩
    | [], q', _ => exact q'.elim
    | [_], q', _ => exact q'.elim
    | [_, _], q', _ => exact q'.elim
    | _ :: _ :: _ :: _ :: _, q', _ =>
      have q' : PostS X.K X.mg B W F' (if _ = _ then _ else RS.bad) D := q'
      rw [if_neg (by simp)] at q'
      exact q'.elim⟩
/-- name op= e, ints -/
def dAug (i : Nat) (f : Int → Int → Option D) (w : ED) : SD := fun s => match s[i]? with
  | some (some (.per d)) => (w s).toS s fun y => match ii f d y with
    | some z => .nx (s.set i (some (.per z)))
    | none => .bad
  | _ => .bad
theorem ds_aug {op : Operator} {C : Int → Int → Prop} {g : Int → Int → V} {f : Int → Int → Option D} (i : Nat) (hB : Fre B) (ho : OpR X (inplaceOp op) (rI C g)) (hf : ∀ i j z, f i j = some z → C i j ∧ Sca z (g i j)) (hN : X.N.Nodup) (he : DE X B W e w) (hi : X.N[i]? = some x := by rfl) (hx : Loc X.env.scope x := by first | exact Or.inl rfl | exact Or.inr rfl)
    (hfn : X.fn x = true ∨ X.env.scope.names.lookup x = some .local := by first | exact .inl rfl | exact .inr rfl | assumption) : DS X B W (.AugAssign (.Name x p') op e pos) (dAug i f w) :=
  psImp (ps_aug hN hi hx he (ti := rI C g) (fun pins s σ H x y v u Q I r1 r2 h => ho pins s σ H x y v u Q I r1 r2 h) hfn) fun D σ H ⟨F, own, s, S, q⟩ => by
    unfold dAug at q
    split at q
    · rename_i d hs
      obtain ⟨v, h1, h2⟩ := S.slot i _ hs
      simp only [Rep] at h2
      refine ⟨v, h1, F, own, s, S, PostS.of q fun y F' own' H' u S' e1 eH dy q' => ?_⟩
      cases hz : ii f d y with
      | none => rw [hz] at q'; exact q'.elim
      | some z =>
        rw [hz] at q'
        obtain ⟨i1, j1, rfl, rfl, hz2⟩ := ii_some hz
        obtain ⟨c, sc⟩ := hf i1 j1 z hz2
        have ev : v = .int i1 := by simpa [Dat] using h2
        have eu : u = .int j1 := by simpa [rD, Dat] using dy
        exact ⟨i1, j1, ev, eu, c, q' F' own' _ H' (Same.refl _) (S'.storeD hB (sc _ _ _))⟩
    · exact q.elim
theorem iop_add : OpR X (inplaceOp .Add) (rI (fun _ _ => True) fun i j => .int (i + j)) := fun pins s σ H x y v u Q I r1 r2 ⟨i, j, h1, h2, _, q⟩ => ip_add pins s σ H x y v u Q I r1 r2 ⟨i, j, h1, h2, q⟩
theorem iop_sub : OpR X (inplaceOp .Sub) (rI (fun _ _ => True) fun i j => .int (i - j)) := fun pins s σ H x y v u Q I r1 r2 ⟨i, j, h1, h2, _, q⟩ => ip_sub pins s σ H x y v u Q I r1 r2 ⟨i, j, h1, h2, q⟩
theorem iop_fdivG : OpR X (inplaceOp .FloorDiv) (rI (fun _ j => j ≠ 0 ∧ j.natAbs.log2 < 9000) fun i j => .int (i.fdiv j)) := opI fun _ _ _ _ _ _ _ hc q => ifloordiv_int hc.1 q (.inl (PyProof.noPylong_of_log2 hc.2))
theorem addI_ok : ∀ i j z, addI i j = some z → True ∧ Sca z (.int (i + j)) := fun i j z h => by cases h; exact ⟨trivial, sca_int⟩
theorem subI_ok : ∀ i j z, subI i j = some z → True ∧ Sca z (.int (i - j)) := fun i j z h => by cases h; exact ⟨trivial, sca_int⟩
theorem divI_ok : ∀ i j z, divI i j = some z → (j ≠ 0 ∧ j.natAbs.log2 < 9000) ∧ Sca z (.int (i.fdiv j)) := fun i j z h => by
  unfold divI at h
  split at h
  · rename_i hc
    cases h
    exact ⟨hc, sca_int⟩
  · cases h
/-! ### for -/
def forL (g : GD) (b : SD) : List D → SD
  | [], s => .nx s
  | d :: ds, s => match g d s with
    | none => .bad
    | some s1 => match b s1 with
      | .nx s2 => forL g b ds s2
      | .ct s2 => forL g b ds s2
      | .bk s2 => .nx s2
      | .rt o => .rt o
      | .exc c s2 => .exc c s2
      | .bad => .bad
def dFor (wi : DSt → R (List D)) (g : GD) (b : SD) : SD := fun s => (wi s).toS s fun ds => forL g b ds s
theorem ds_for {wi : DSt → R (List D)} {g : GD} {vs : List Nat} (cd : Cd X W) (hi : DI X B W tg iter wi) (hg : DG X B vs tg g) (hb : DSs X B W sts u) (hs : ∀ x, foldedSetIterable iter X.env x = pure x := by intro _; rfl) : DS X B W (.For tg iter sts [] pos) (dFor wi g u) :=
  psImp (ps_for cd.po cd.calm hi hg.run hb hs) fun D σ H ⟨F, own, s, S, q⟩ => ⟨F, own, s, S, by
    have q : PostS X.K X.mg B W F ((wi s).toS s fun ds => forL g u ds s) D := q
    generalize wi s = r at q ⊢
    cases r with
    | exc c => exact fun C F' own' H' hm e1 e2 S' => q C F' own' σ H' hm e1 S'
    | bad => exact q
    | ok ds =>
      intro F1 own1 H1 J e1 eH1 S1 Wk
      have q : PostS X.K X.mg B W F (forL g u ds s) D := q
      refine ⟨fun i m σ H => ∃ F own s, Sat X.K X.mg B F own s σ H ∧ Same F1 F ∧ m = ds.length - i ∧ i ≤ ds.length ∧ PostS X.K X.mg B W F (forL g u (ds.drop i) s) D, ⟨ds.length, F1, own1, s, S1, Same.refl _, rfl, Nat.zero_le _, PostS.from q e1⟩, ?_⟩
      rintro i m σ2 H2 ⟨F2, own2, s2, S2, e2, rfl, hi2, q2⟩
      by_cases hlt : i < ds.length
      · have hd : ds.drop i = ds[i] :: ds.drop (i + 1) := List.drop_eq_getElem_cons hlt
        rw [hd] at q2
        simp only [forL] at q2
        refine .inr ⟨Wk.go i B F2 own2 s2 σ2 H2 e2 S2 hlt, fun σ' H' => ∃ F own s, Sat X.K X.mg B F own s σ' H' ∧ Same F1 F ∧ PostS X.K X.mg B W F (forL g u (ds.drop (i + 1)) s) D,
          fun σ' H' ⟨F3, own3, s3, S3, e3, q3⟩ => ⟨ds.length - (i + 1), by omega, F3, own3, s3, S3, e3, rfl, hlt, q3⟩, fun x H' hy => ?_⟩
        obtain ⟨F3, e3, eH3, S3, dx⟩ := Wk.yld i B F2 own2 s2 σ2 H2 x H' _ e2 S2 (List.getElem?_eq_getElem hlt) hy
        refine ⟨F3, own2, s2, ds[i], S3, dx, ?_⟩
        cases hg2 : g ds[i] s2 with
        | none => rw [hg2] at q2; exact q2.elim
        | some s4 =>
          rw [hg2] at q2
          refine fun F4 own4 σ4 H4 e4 _ _ S4 => ⟨F4, own4, s4, S4, ?_⟩
          simp only at q2
          have e14 : Same F1 F4 := e2.trans (e3.trans e4)
          have e24 : Same F2 F4 := e3.trans e4
          generalize u s4 = r at q2 ⊢
          cases r with
          | nx s5 => exact fun F5 own5 σ5 H5 e5 S5 => ⟨F5, own5, s5, S5, e14.trans e5, PostS.from q2 (e24.trans e5)⟩
          | ct s5 => exact fun F5 own5 σ5 H5 e5 S5 => ⟨F5, own5, s5, S5, e14.trans e5, PostS.from q2 (e24.trans e5)⟩
          | bk s5 => exact fun F5 own5 σ5 H5 e5 S5 => q2 F5 own5 σ5 H5 (e24.trans e5) S5
          | rt o => exact fun F5 own5 s5 σ5 H5 v e5 S5 r5 => q2 F5 own5 s5 σ5 H5 v (e24.trans e5) S5 r5
          | exc c s5 => exact fun C F5 own5 σ5 H5 hm e5 S5 => q2 C F5 own5 σ5 H5 hm (e24.trans e5) S5
          | bad => exact q2
      · have hie : i = ds.length := by omega
        refine .inl ⟨hie ▸ Wk.stop B F2 own2 s2 σ2 H2 e2 S2, ?_⟩
        rw [List.drop_eq_nil_of_le (by omega)] at q2
        exact q2 F2 own2 σ2 H2 (Same.refl _) S2⟩
/-! ### while -/
def whileN : Nat → (DSt → R Bool) → SD → SD
  | 0, _, _, _ => .bad
  | n + 1, c, b, s => (c s).toS s fun t => if t = true then (match b s with
      | .nx s2 => whileN n c b s2
      | .ct s2 => whileN n c b s2
      | .bk s2 => .nx s2
      | .rt o => .rt o
      | .exc c s2 => .exc c s2
      | .bad => .bad) else .nx s
theorem whileN_succ {c : DSt → R Bool} {b : SD} : ∀ (n : Nat) (s : DSt), whileN n c b s ≠ .bad → whileN (n + 1) c b s = whileN n c b s
  | 0, s, h => absurd rfl h
  | n + 1, s, h => by
    rw [whileN] at h ⊢
    conv => rhs; rw [whileN]
    cases hc : c s with
    | exc _ => rfl
    | bad => rfl
    | ok t =>
      rw [hc] at h
      cases t with
      | false => rfl
      | true =>
        simp only [R.toS, if_true] at h ⊢
        cases hb : b s with
        | nx s2 => rw [hb] at h; exact whileN_succ n s2 h
        | ct s2 => rw [hb] at h; exact whileN_succ n s2 h
        | _ => rfl
theorem whileN_le {c : DSt → R Bool} {b : SD} {n : Nat} {s : DSt} (h : whileN n c b s ≠ .bad) : ∀ k, whileN (n + k) c b s = whileN n c b s
  | 0 => rfl
  | k + 1 => by
    have ih := whileN_le h k
    rw [← ih, show n + (k + 1) = (n + k) + 1 from rfl]
    exact whileN_succ _ _ (by rw [ih]; exact h)
theorem whileN_eq {c : DSt → R Bool} {b : SD} {n m : Nat} {s : DSt} (h : whileN n c b s ≠ .bad) (h2 : whileN m c b s ≠ .bad) : whileN n c b s = whileN m c b s := by
  rcases Nat.le_total n m with q | q
  · obtain ⟨k, rfl⟩ := Nat.exists_eq_add_of_le q
    rw [whileN_le h]
  · obtain ⟨k, rfl⟩ := Nat.exists_eq_add_of_le q
    rw [whileN_le h2]
open Classical in
noncomputable def dWhile (c : DSt → R Bool) (b : SD) : SD := fun s => if h : ∃ n, whileN n c b s ≠ .bad then whileN (Classical.choose h) c b s else .bad
theorem dWhile_of {c : DSt → R Bool} {b : SD} {n : Nat} {s : DSt} (h : whileN n c b s ≠ .bad) : dWhile c b s = whileN n c b s := by
  unfold dWhile
  have hx : ∃ n, whileN n c b s ≠ .bad := ⟨n, h⟩
  rw [dif_pos hx]
  exact whileN_eq (Classical.choose_spec hx) h
/-- one turn -/
theorem dWhile_eq {c : DSt → R Bool} {b : SD} (s : DSt) : dWhile c b s = (c s).toS s fun t => if t = true then (match b s with
      | .nx s2 => dWhile c b s2
      | .ct s2 => dWhile c b s2
      | .bk s2 => .nx s2
      | .rt o => .rt o
      | .exc c s2 => .exc c s2
      | .bad => .bad) else .nx s := by
  by_cases h : ∃ n, whileN n c b s ≠ .bad
  · obtain ⟨n, h⟩ := h
    rw [dWhile_of h]
    cases n with
    | zero => exact absurd rfl h
    | succ n =>
      rw [whileN] at h ⊢
      cases hc : c s with
      | exc _ => rfl
      | bad => rfl
      | ok t =>
        rw [hc] at h
        cases t with
        | false => rfl
        | true =>
          simp only [R.toS, if_true] at h ⊢
          cases hb : b s with
          | nx s2 => rw [hb] at h; exact (dWhile_of h).symm
          | ct s2 => rw [hb] at h; exact (dWhile_of h).symm
          | _ => rfl
  · have hall : ∀ n, whileN n c b s = .bad := fun n => Classical.byContradiction fun z => h ⟨n, z⟩
    have hl : dWhile c b s = .bad := by unfold dWhile; rw [dif_neg h]
    rw [hl]
    have h1 := hall 1
    rw [whileN] at h1
    cases hc : c s with
    | exc _ => rw [hc] at h1; cases h1
    | bad => rfl
    | ok t =>
      rw [hc] at h1
      cases t with
      | false => cases h1
      | true =>
        simp only [R.toS, if_true] at h1 ⊢
        cases hb : b s with
        | nx s2 =>
          have : ∀ n, whileN n c b s2 = .bad := fun n => by
            have z := hall (n + 1)
            rw [whileN, hc] at z
            simp only [R.toS, if_true, hb] at z
            exact z
          show RS.bad = dWhile c b s2
          unfold dWhile
          rw [dif_neg (show ¬ ∃ n, whileN n c b s2 ≠ RS.bad from fun ⟨n, z⟩ => z (this n))]
        | ct s2 =>
          have : ∀ n, whileN n c b s2 = .bad := fun n => by
            have z := hall (n + 1)
            rw [whileN, hc] at z
            simp only [R.toS, if_true, hb] at z
            exact z
          show RS.bad = dWhile c b s2
          unfold dWhile
          rw [dif_neg (show ¬ ∃ n, whileN n c b s2 ≠ RS.bad from fun ⟨n, z⟩ => z (this n))]
        | bk s2 => rw [hb] at h1; cases h1
        | rt o => rw [hb] at h1; cases h1
        | exc c s2 => rw [hb] at h1; cases h1
        | bad => rfl
theorem ds_while {bc : DSt → R Bool} (cd : Cd X W) (hc : DT X B W c bc) (hb : DSs X B W sts u) : DS X B W (.While c sts [] pos) (dWhile bc u) :=
  psImp (ps_while cd.po hc hb) fun D σ H ⟨F, own, s, S, q⟩ => by
    have hx : ∃ n, whileN n bc u s ≠ .bad := Classical.byContradiction fun z => by
      unfold dWhile at q
      rw [dif_neg z] at q
      exact q.elim
    obtain ⟨n, hn⟩ := hx
    rw [dWhile_of hn] at q
    refine ⟨fun m σ H => ∃ F own s, Sat X.K X.mg B F own s σ H ∧ PostS X.K X.mg B W F (whileN m bc u s) D, ⟨n, F, own, s, S, q⟩, ?_⟩
    rintro m σ1 H1 ⟨F1, own1, s1, S1, q1⟩
    cases m with
    | zero => exact q1.elim
    | succ m =>
      rw [whileN] at q1
      refine ⟨F1, own1, s1, S1, PostS.of q1 fun t F2 own2 H2 b S2 e2 eH2 dt q2 => ?_⟩
      cases (show t = b from dt)
      cases t with
      | false =>
        rw [if_neg Bool.false_ne_true] at q2
        exact iteF (q2 F2 own2 σ1 H2 (Same.refl _) S2)
      | true =>
        rw [if_pos rfl] at q2
        refine iteT ⟨fun σ' H' => ∃ F own s, Sat X.K X.mg B F own s σ' H' ∧ PostS X.K X.mg B W F (whileN m bc u s) D, fun σ' H' h => ⟨m, Nat.lt_succ_self m, h⟩, F2, own2, s1, S2, ?_⟩
        generalize u s1 = r at q2 ⊢
        cases r with
        | nx s5 => exact fun F5 own5 σ5 H5 e5 S5 => ⟨F5, own5, s5, S5, PostS.from q2 e5⟩
        | ct s5 => exact fun F5 own5 σ5 H5 e5 S5 => ⟨F5, own5, s5, S5, PostS.from q2 e5⟩
        | bk s5 => exact fun F5 own5 σ5 H5 e5 S5 => q2 F5 own5 σ5 H5 e5 S5
        | rt o => exact q2
        | exc c s5 => exact q2
        | bad => exact q2
end
end DL

namespace DL
open PySem PySem.Spec PyProof.Rows L2

/-! ### what a def promises, by data -/
/-- a fresh thing over an old heap -/
structure Fresh (F H F' H' : Hp) (own' : Own) : Prop where
  f : Same F F'
  fh : Same F' H'
  h : Same H H'
  new : ∀ a ob, F' a = some ob → F a = some ob ∨ H a = none
  own : ∀ a π, own' a = some π → H a = none ∧ F' a = none ∧ H' a ≠ none
def spD (K : PySem.W.Frag) (mg : Str → Option Value) (n : Nat) (mir : List D → R O) : Sp := fun vs H Q E => ∃ F ds, vs.length = n ∧ Same F H ∧ DatL K mg F ds vs ∧ match mir ds with
  | .ok o => ∀ F' own' H' v, Fresh F H F' H' own' → Rep K mg F' H' own' [0] o v → Q v H'
  | .exc c => ∀ C H', mg c = some (.ref C) → Same H H' → E (.ref C) none H'
  | .bad => False
def startD (n : Nat) (ds : List D) : DSt := ds.map (fun d => some (.per d)) ++ List.replicate (n - ds.length) none
def runB (wb : SD) (s : DSt) : R O := match wb s with
  | .nx _ => .ok (.per .non)
  | .rt o => .ok o
  | .exc c _ => .exc c
  | _ => .bad
abbrev WE0 (E : XK) : WX := fun cls d _ H => E cls d H
theorem sat_start {K : PySem.W.Frag} {mg : Str → Option Value} {F H : Hp} {N : List Str} {ds : List D} {vs : List V} (e : Same F H) (d : DatL K mg F ds vs) : Sat K mg ⟨H, F, fun _ => True⟩ F (fun _ => none) (startD N.length ds) (L2.start N vs) H := by
  have hl := d.length
  refine ⟨Same.refl _, e, Same.refl _, fun a o h => Or.inl h, fun i o h => ?_, fun a π h => (nomatch h), ?_, trivial⟩
  · unfold startD at h
    by_cases hi : i < ds.length
    · rw [List.getElem?_append_left (by simpa using hi), List.getElem?_map] at h
      cases q : ds[i]? with
      | none => rw [q] at h; cases h
      | some d' =>
        rw [q] at h
        cases h
        obtain ⟨v, h1, h2⟩ := d.get q
        refine ⟨v, ?_, by simp only [Rep]; exact h2⟩
        unfold L2.start
        rw [List.getElem?_append_left (by simpa [hl] using hi), List.getElem?_map, h1]
        rfl
    · rw [List.getElem?_append_right (by simpa using hi), List.getElem?_replicate] at h
      split at h <;> cases h
  · unfold startD L2.start
    simp [hl]
section
variable {P : Program} {w : World} {K : PySem.W.Frag} {mg : Str → Option Value} {base : Heap} {x qual : Str} {params : Arguments} {body : List Stmt} {scope : Scope} {f : Addr} {fd : FuncData} {N ps : List Str} {k : Nat}
theorem cd_of {cdv : Value} {A : Around} {outer : List Env} {s : Shared} {H : Hp} {E : XK} (hN : N.Nodup) : Cd (cxOf (L2.CX P w) P w K mg base N qual scope f cdv A outer s H E) (WE0 E) :=
  ⟨⟨rfl, takes_of rfl rfl rfl rfl, hN⟩, passes_of rfl⟩
/-- THE RULE for a def -/
theorem fn_ok {mir : List D → R O} {wb : SD} (F : FunD K x qual params body scope [] [] f fd) (S : FnScope N ps scope)
    (hbody : ∀ (cdv : Value) (A : Around) (outer : List Env) (s : Shared) (H : Hp) (E : XK) (B : Bd), Fre B → Room k (A.deeper (envOfC qual scope s.heap.objs.size f cdv)) → Cd (cxOf (L2.CX P w) P w K mg base N qual scope f cdv A outer s H E) (WE0 E) →
      DSs (cxOf (L2.CX P w) P w K mg base N qual scope f cdv A outer s H E) B (WE0 E) body wb)
    (hm : ∀ ds, ds.length = ps.length → mir ds = .bad ∨ runB wb (startD N.length ds) = mir ds) : FnOk P w K mg base (L2.CX P w) (k + 1) f fd ps (spD K mg ps.length mir) := by
  refine F.ok S (fun vs H Q E h => ?_) (fun cdv A outer s H vs Q E hr h => ?_)
  · obtain ⟨_, _, h, _⟩ := h
    exact h
  · obtain ⟨F, ds, hl, e, d, q⟩ := h
    refine ⟨_, hbody cdv A outer s H E ⟨H, F, fun _ => True⟩ (fun _ => trivial) hr (cd_of S.nd), F, _, startD N.length ds, sat_start e d, ?_⟩
    have hd : ds.length = ps.length := by rw [← d.length, hl]
    rcases hm ds hd with z | z
    · rw [z] at q; exact q.elim
    · rw [← z] at q
      unfold runB at q
      have fin : ∀ {o : O} {F' : Hp} {own' : Own} {s' : DSt} {σ' : L2.St} {H' : Hp} {v : V}, (∀ F' own' H' v, Fresh F H F' H' own' → Rep K mg F' H' own' [0] o v → Q v H') → Same F F' → Sat K mg ⟨H, F, fun _ => True⟩ F' own' s' σ' H' → Rep K mg F' H' own' [0] o v → Q v H' :=
        fun q e1 S1 r => q _ _ _ _ ⟨e1, S1.f, S1.u, S1.new, S1.own⟩ r
      generalize wb (startD N.length ds) = r at q ⊢
      cases r with
      | nx s' => exact fun F' own' σ' H' e1 S1 => fin q e1 S1 (v := .non) (by simp only [Rep, Dat])
      | rt o => exact fun F' own' s' σ' H' v e1 S1 r => fin q e1 S1 r
      | exc c s' => exact fun C F' own' σ' H' hm e1 S1 => q C H' hm S1.u
      | bk s' => exact q.elim
      | ct s' => exact q.elim
      | bad => exact q.elim
end
/-- a global def with its promise -/
structure GFn (P : Program) (w : World) (K : PySem.W.Frag) (mg : Str → Option Value) (base : Heap) (x : Str) (k : Nat) (mir : List D → R O) : Prop where
  ex : ∃ f fd ps, mg x = some (.ref f) ∧ PySem.W.keepIn K (.ref f) = true ∧ Binds K fd ps [] ∧ FnOk P w K mg base (L2.CX P w) k f fd ps (spD K mg ps.length mir) ∧ ∀ ds, mir ds ≠ .bad → ds.length = ps.length
theorem GFn.mono {P : Program} {w : World} {K : PySem.W.Frag} {mg : Str → Option Value} {base : Heap} {x : Str} {j k : Nat} {mir : List D → R O} (G : GFn P w K mg base x j mir) (h : j ≤ k) : GFn P w K mg base x k mir := by
  obtain ⟨f, fd, ps, h1, h2, h3, h4, h5⟩ := G.ex
  exact ⟨f, fd, ps, h1, h2, h3, h4.mono h, h5⟩
section
variable {X : Cx} {B : Bd} {W : WX} {e a b c : Expr} {es : List Expr} {w wa wb : ED} {p p' pos : Pos} {x m : Str} {k : Nat} {mir : List D → R O}
def dCall (mir : List D → R O) (ws : DSt → R (List D)) : EO := fun s => (ws s).bind mir
/-- behind a call -/
theorem Sat.called {K : PySem.W.Frag} {mg : Str → Option Value} {F H F' H' : Hp} {own own' : Own} {s : DSt} {σ : L2.St} {o : O} {v : V} (S : Sat K mg B F own s σ H) (fr : Fresh F H F' H' own') (r : Rep K mg F' H' own' [0] o v) :
    ∃ own'', Sat K mg B F' own'' s σ H' ∧ Rep K mg F' H' own'' [0] o v := by
  refine ⟨fun a => match own a with | some π => some π | none => if rootIs 0 (own' a) = true then own' a else none, ⟨S.u.trans fr.h, fr.fh, S.f0.trans fr.f, fun a ob e => ?_, fun i o' e => ?_, fun a π e => ?_, S.len, S.ck⟩, ?_⟩
  · rcases fr.new a ob e with h | h
    · exact S.new a ob h
    · exact .inr (S.u.free h)
  · obtain ⟨v', h1, h2⟩ := S.slot i o' e
    refine ⟨v', h1, h2.keep o' fr.f fun a l ob w1 w2 => ⟨?_, fr.h _ _ w2⟩⟩
    simp only [w1]
  · cases q : own a with
    | some π' =>
      simp only [q] at e
      obtain ⟨h1, h2, h3⟩ := S.own a π' q
      refine ⟨h1, ?_, ?_⟩
      · cases z : F' a with
        | none => rfl
        | some ob =>
          rcases fr.new a ob z with h | h
          · rw [h2] at h; cases h
          · exact absurd h h3
      · cases z : H a with
        | none => exact absurd z h3
        | some ob => rw [fr.h _ _ z]; simp
    | none =>
      simp only [q] at e
      split at e
      · obtain ⟨h1, h2, h3⟩ := fr.own a π e
        exact ⟨S.u.free h1, h2, h3⟩
      · cases e
  · refine r.keep o (Same.refl _) fun a l ob w1 w2 => ⟨?_, w2⟩
    have hn : own a = none := by
      cases q : own a with
      | none => rfl
      | some π => exact absurd (fr.own a _ w1).1 (S.own a π q).2.2
    simp only [hn]
    rw [if_pos (by rw [w1]; exact rootIs_of)]
    exact w1
theorem call_core {ws : DSt → R (List D)} {n : Nat} {σ : L2.St} {H : Hp} {Q : VK} (hn : ∀ ds, mir ds ≠ .bad → ds.length = n) (h : tG X.K X.mg B W (rO X.K X.mg) (dCall mir ws) σ H Q) :
    tG X.K X.mg B W (rL X.K X.mg) ws σ H fun vs H1 => spD X.K X.mg n mir vs H1 Q (WE W σ) := by
  obtain ⟨F, own, s, S, q⟩ := h
  refine ⟨F, own, s, S, Post.bind q fun ds F1 own1 H1 vs S1 e1 eH1 dx q1 => ?_⟩
  have hb : mir ds ≠ .bad := fun z => by rw [z] at q1; exact q1
  refine ⟨F1, ds, (DatL.length dx).trans (hn ds hb), S1.f, dx, ?_⟩
  cases hmm : mir ds with
  | bad => exact hb hmm
  | exc c =>
    rw [hmm] at q1
    exact fun C H' hm e => q1 C F1 own1 H' hm (Same.refl _) e (S1.grow e)
  | ok o =>
    rw [hmm] at q1
    intro F' own' H' v fr r
    obtain ⟨own'', S2, r2⟩ := S1.called fr r
    exact q1 F' own'' H' v fr.f fr.h S2 r2
/-- f(e, ..) -/
theorem do_call {ws : DSt → R (List D)} (cd : Ce X W) (G : GFn X.prog X.w X.K X.mg X.base x k mir) (hr : Room k X.A) (hg : Gl X x)  (ha : DA X B W (e :: es) ws) (hdb : (x == ("__debug__" : Str)) = false := by decide) (he : starEach (e :: es) X.env = (false, eval e X.env) :: starEach es X.env := by rfl) (hpl : (backTo pos (starEach es X.env)).any (·.1) = false := by rfl) :
    DO X B W (.Call (.Name x p) (e :: es) [] pos) (dCall mir ws) := by
  obtain ⟨f, fd, ps, h1, h2, h3, h4, h5⟩ := G.ex
  exact peImp (pe_callS h4 hr hg h1 h2 h3 (fun σ => passAt cd.tk σ) ha hdb he hpl) fun σ H Q h => call_core h5 h
end
end DL

namespace DL
open PySem PySem.Spec PyProof.Rows L2
section
variable {X : Cx} {B : Bd} {W : WX} {e a b c tg iter : Expr} {es : List Expr} {w wa wb : ED} {p p' pos : Pos} {α β : Type}
variable {K : PySem.W.Frag} {mg : Str → Option Value}
/-- a walk that lays nothing -/
theorem Wlk.of {F : Hp} {J : It} {ds : List D} {G : Hp → Prop} {Y : Nat → Hp → V → Hp → Prop} (wk : L2.Walk J ds.length G Y) (hG : ∀ H F1, Same F F1 → Same F1 H → G H) (hY : ∀ i H x H' d, Y i H x H' → ds[i]? = some d → H' = H ∧ Dat K mg F d x) : Wlk K mg F J ds where
  go := fun i _ F1 own s σ H e S hi => wk.goes i H hi (hG H F1 e S.f)
  stop := fun _ F1 own s σ H e S => wk.stops H (hG H F1 e S.f)
  yld := fun i _ F1 own s σ H x H' d e S hd hy => by
    have hi : i < ds.length := (List.getElem?_eq_some_iff.mp hd).1
    obtain ⟨h1, h2⟩ := hY i H x H' d (wk.yields i H x H' hi (hG H F1 e S.f) hy) hd
    subst h1
    exact ⟨F1, Same.refl _, Same.refl _, S, Dat.same e _ _ h2⟩
def seqD : D → Option (List D)
  | .lst ds => some ds
  | .tup ds => some ds
  | .scr ns => some (ns.map .int)
  | _ => none
theorem PI.or {t t' : TI} (h : PI X tg e t) (h' : PI X tg e t') : PI X tg e (fun σ H Q => t σ H Q ∨ t' σ H Q) := ⟨fun pins s σ H R I q => by
  rcases q with q | q
  · exact h.run pins s σ H R I q
  · exact h'.run pins s σ H R I q⟩
theorem wlk_list {F : Hp} {a : Addr} {xs : List V} {ds : List D} (h : SqL K F a xs) (d : DatL K mg F ds xs) : Wlk K mg F (Itl K a) ds := by
  have hl := d.length
  refine Wlk.of (G := fun H => SqL K H a xs) (Y := YAt xs) (hl ▸ walk_list) (fun H F1 e1 e2 => e2.seq (e1.seq h)) fun i H x H' d' hy hd => ⟨hy.1, ?_⟩
  obtain ⟨v, q1, q2⟩ := d.get hd
  rw [hy.2] at q1
  cases q1
  exact q2
theorem wlk_tup {F : Hp} {a : Addr} {xs : List V} {ds : List D} (h : SqT K F a xs) (d : DatL K mg F ds xs) : Wlk K mg F (Itt K a) ds := by
  have hl := d.length
  refine Wlk.of (G := fun H => SqT K H a xs) (Y := YAt xs) (hl ▸ walk_tup) (fun H F1 e1 e2 => sqT_same e2 (sqT_same e1 h)) fun i H x H' d' hy hd => ⟨hy.1, ?_⟩
  obtain ⟨v, q1, q2⟩ := d.get hd
  rw [hy.2] at q1
  cases q1
  exact q2
/-- the iterable's reading, by its data -/
theorem tI_of {β' : Type} {rl : Rl α β'} {wa : DSt → R α} {f : α → Option (List D)} {σ : L2.St} {H : Hp} {Ro : It → Hp → Prop} {r : β' → Hp → (It → Hp → Prop) → Prop}
    (k : ∀ F own s σ H x v ds (Ro : It → Hp → Prop), Sat X.K X.mg B F own s σ H → rl F own H x v → f x = some ds → (∀ F' own' H' J, Same F F' → Same H H' → Sat X.K X.mg B F' own' s σ H' → Wlk X.K X.mg F' J ds → Ro J H') → r v H Ro)
    (h : tI X.K X.mg B W (f1 f wa) σ H Ro) : tG X.K X.mg B W rl wa σ H (fun v H1 => r v H1 Ro) := by
  obtain ⟨F, own, s, S, q⟩ := h
  refine ⟨F, own, s, S, ?_⟩
  simp only [f1] at q
  generalize wa s = z at q ⊢
  cases z with
  | exc c => exact q
  | bad => exact q
  | ok x =>
    intro F1 own1 H1 v e1 eH1 S1 dx
    simp only [R.bind] at q
    cases hf : f x with
    | none => rw [hf] at q; exact q.elim
    | some ds =>
      rw [hf] at q
      exact k F1 own1 s σ H1 x v ds Ro S1 dx hf fun F' own' H' J e2 eH2 S2 wk => q F' own' H' J (e1.trans e2) (eH1.trans eH2) S2 wk
/-- over a list, a tuple -/
theorem di_seq (h : DE X B W e w) : DI X B W tg e (f1 seqD w) :=
  piImp (PI.or (pi_list h) (pi_tup h)) fun σ H Ro h => by
    obtain ⟨F, own, s, S, q⟩ := h
    simp only [f1] at q
    cases z : w s with
    | exc c =>
      rw [z] at q
      refine .inl ⟨F, own, s, S, ?_⟩
      rw [z]
      exact q
    | bad => rw [z] at q; exact q.elim
    | ok x =>
      rw [z] at q
      simp only [R.bind] at q
      cases x with
      | lst ds =>
        refine .inl ⟨F, own, s, S, ?_⟩
        rw [z]
        intro F1 own1 H1 v e1 eH1 S1 dx
        have dx : Dat X.K X.mg F1 (.lst ds) v := dx
        simp only [Dat] at dx
        obtain ⟨a, xs, rfl, h2, h3⟩ := dx
        exact ⟨a, rfl, ⟨xs, .of (S1.f _ _ h2)⟩, q F1 own1 H1 _ e1 eH1 S1 (wlk_list (.of h2) h3)⟩
      | scr ns =>
        refine .inl ⟨F, own, s, S, ?_⟩
        rw [z]
        intro F1 own1 H1 v e1 eH1 S1 dx
        have dx : Dat X.K X.mg F1 (.scr ns) v := dx
        simp only [Dat] at dx
        obtain ⟨a, rfl, h2⟩ := dx
        exact ⟨a, rfl, ⟨_, S1.f.seq h2⟩, q F1 own1 H1 _ e1 eH1 S1 (wlk_list h2 (datL_ints ns))⟩
      | tup ds =>
        refine .inr ⟨F, own, s, S, ?_⟩
        rw [z]
        intro F1 own1 H1 v e1 eH1 S1 dx
        have dx : Dat X.K X.mg F1 (.tup ds) v := dx
        simp only [Dat] at dx
        obtain ⟨a, xs, rfl, h2, h3⟩ := dx
        exact ⟨a, rfl, ⟨xs, sqT_same S1.f h2⟩, q F1 own1 H1 _ e1 eH1 S1 (wlk_tup h2 h3)⟩
      | _ => exact q.elim
/-! ranges -/
def rngL (lo hi : Int) : List Int := (List.range (hi - lo).toNat).map fun (k : Nat) => lo + k
def big (i : Int) : Prop := i.natAbs < 4611686018427387904
instance (i : Int) : Decidable (big i) := by unfold big; infer_instance
theorem big_lo {i : Int} (h : big i) : -(2 ^ 62) ≤ i := by unfold big at h; omega
theorem big_hi {i : Int} (h : big i) : i < 2 ^ 62 := by unfold big at h; omega
def rng1 : List D → Option (List D)
  | [.int j] => if big j then some ((rngL 0 j).map .int) else none
  | _ => none
def rng2 : List D → Option (List D)
  | [.int i, .int j] => if big i ∧ big j then some ((rngL i j).map .int) else none
  | _ => none
theorem wlk_range {F : Hp} {lo : Int} {n : Nat} : Wlk K mg F (Itr lo n) (((List.range n).map fun (k : Nat) => lo + k).map D.int) := by
  refine Wlk.of (G := fun _ => True) (Y := YFn fun i => .int (lo + i)) (by simpa using walk_range) (fun _ _ _ _ => trivial) fun i H x H' d hy hd => ⟨hy.1, ?_⟩
  simp only [List.map_map, List.getElem?_map, Option.map_eq_some_iff] at hd
  obtain ⟨k, h1, rfl⟩ := hd
  have hk : k = i := by
    by_cases hi : i < n
    · rw [List.getElem?_range hi] at h1
      exact (Option.some.inj h1).symm
    · rw [List.getElem?_eq_none (by simpa using hi)] at h1
      cases h1
  subst hk
  rw [hy.2]
  exact sca_int _ _ _
theorem rng1_some {x ds : List D} (h : rng1 x = some ds) : ∃ j, x = [.int j] ∧ big j ∧ ds = (rngL 0 j).map .int := by
  match x, h with
  | [.int j], h =>
    simp only [rng1] at h
    split at h
    · rename_i hb
      cases h
      exact ⟨j, rfl, hb, rfl⟩
    · cases h
theorem rng2_some {x ds : List D} (h : rng2 x = some ds) : ∃ i j, x = [.int i, .int j] ∧ (big i ∧ big j) ∧ ds = (rngL i j).map .int := by
  match x, h with
  | [.int i, .int j], h =>
    simp only [rng2] at h
    split at h
    · rename_i hb
      cases h
      exact ⟨i, j, rfl, hb, rfl⟩
    · cases h
theorem di_range1 (hg : Gl X "range") (hm : X.mg "range" = none) {ws : DSt → R (List D)} (ha : DA X B W [a] ws) (na : NS a := by intro _ _; rfl) : DI X B W tg (.Call (.Name "range" p) [a] [] pos) (f1 rng1 ws) :=
  piImp (pi_range1 hg hm ha (na _ _)) fun σ H Ro h => tI_of (rl := rL X.K X.mg) (r := fun vs H Ro => ∃ j : Int, vs = [.int j] ∧ -(2 ^ 62) ≤ j ∧ j < 2 ^ 62 ∧ Ro (Itr 0 j.toNat) H) (fun F own s σ H x v ds Ro S dx hf q => by
    obtain ⟨j, rfl, hb, rfl⟩ := rng1_some hf
    have dx : DatL X.K X.mg F [.int j] v := dx
    simp only [DatL, Dat] at dx
    obtain ⟨v1, r1, rfl, rfl, rfl⟩ := dx
    refine ⟨j, rfl, big_lo hb, big_hi hb, q F own H _ (Same.refl _) (Same.refl _) S ?_⟩
    have := wlk_range (K := X.K) (mg := X.mg) (F := F) (lo := 0) (n := j.toNat)
    simpa [rngL] using this) h
theorem di_range2 (hg : Gl X "range") (hm : X.mg "range" = none) {ws : DSt → R (List D)} (ha : DA X B W [a, b] ws) (na : NS a := by intro _ _; rfl) (nb : NS b := by intro _ _; rfl) : DI X B W tg (.Call (.Name "range" p) [a, b] [] pos) (f1 rng2 ws) :=
  piImp (pi_range2 hg hm ha (by rw [na X.env [b], nb X.env []]; rfl) (nb _ _)) fun σ H Ro h => tI_of (rl := rL X.K X.mg) (r := fun vs H Ro => ∃ i j : Int, vs = [.int i, .int j] ∧ (-(2 ^ 62) ≤ i ∧ i < 2 ^ 62 ∧ -(2 ^ 62) ≤ j ∧ j < 2 ^ 62) ∧ Ro (Itr i (j - i).toNat) H) (fun F own s σ H x v ds Ro S dx hf q => by
    obtain ⟨i, j, rfl, hb, rfl⟩ := rng2_some hf
    have dx : DatL X.K X.mg F [.int i, .int j] v := dx
    simp only [DatL, Dat] at dx
    obtain ⟨v1, r1, rfl, rfl, v2, r2, rfl, rfl, rfl⟩ := dx
    exact ⟨i, j, rfl, ⟨big_lo hb.1, big_hi hb.1, big_lo hb.2, big_hi hb.2⟩, q F own H _ (Same.refl _) (Same.refl _) S wlk_range⟩) h
end
end DL

namespace DL
open PySem PySem.Spec PyProof.Rows L2
abbrev WF : WX := fun _ _ _ _ => False
theorem ce_blk {X : Cx} {W : WX} {s : Shared} {H : Hp} {scope : Scope} {env : Env} {fp : List Addr} (ce : Ce X W) : Ce (X.blk s H scope env fp) WF :=
  ⟨ce.calm, fun u s' ⟨_, _, _, _, _, _, _, _, _, _, _, _, _, _, _, _, w⟩ => w.elim, ce.nd⟩
section
variable {K : PySem.W.Frag} {mg : Str → Option Value} {B : Bd} {F F' : Hp} {H H' : Hp} {own own' : Own} {s s' : DSt} {σ σ' : L2.St}
/-! ### slots forgotten -/
def wipeD (s : DSt) : List Nat → DSt
  | [] => s
  | v :: vs => (wipeD s vs).set v none
theorem wipeD_out {i : Nat} : ∀ {vs : List Nat}, i ∉ vs → (wipeD s vs)[i]? = s[i]?
  | [], _ => rfl
  | v :: vs, h => by
    simp only [List.mem_cons, not_or] at h
    unfold wipeD
    rw [List.getElem?_set_ne (fun e => h.1 e.symm)]
    exact wipeD_out h.2
theorem wipeD_in {i : Nat} {o : O} : ∀ {vs : List Nat}, i ∈ vs → (wipeD s vs)[i]? ≠ some (some o)
  | v :: vs, h => by
    unfold wipeD
    intro e
    by_cases hv : v = i
    · subst hv
      by_cases hl : v < (wipeD s vs).length
      · rw [List.getElem?_set_self hl] at e; cases e
      · rw [List.getElem?_eq_none (by simpa using hl)] at e; cases e
    · rw [List.getElem?_set_ne hv] at e
      rcases List.mem_cons.mp h with z | z
      · exact hv z.symm
      · exact wipeD_in z e
theorem wipeD_length : ∀ (vs : List Nat), (wipeD s vs).length = s.length
  | [] => rfl
  | v :: vs => by unfold wipeD; rw [List.length_set, wipeD_length vs]
theorem wipe_out' {i : Nat} : ∀ {vs : List Nat}, i ∉ vs → (wipe σ vs)[i]? = σ[i]?
  | [], _ => rfl
  | v :: vs, h => by
    simp only [List.mem_cons, not_or] at h
    unfold wipe
    rw [List.getElem?_set_ne (fun e => h.1 e.symm)]
    exact wipe_out' h.2
theorem wipe_in {i : Nat} : ∀ {vs : List Nat}, i ∈ vs → i < σ.length → (wipe σ vs)[i]? = some none
  | v :: vs, h, hl => by
    unfold wipe
    by_cases hv : v = i
    · subst hv
      rw [List.getElem?_set_self (by rw [wipe_length]; exact hl)]
    · rw [List.getElem?_set_ne hv]
      rcases List.mem_cons.mp h with z | z
      · exact absurd z.symm hv
      · exact wipe_in z hl
theorem wipe_ag {us vs : List Nat} (hv : ∀ i ∈ us, i ∈ vs) (a : Ag us (wipe σ vs) σ') : wipe σ' vs = wipe σ vs := by
  have hl : σ'.length = σ.length := a.1.trans (wipe_length _ _)
  apply List.ext_getElem?
  intro i
  by_cases hi : i ∈ vs
  · by_cases h : i < σ.length
    · rw [wipe_in hi h, wipe_in hi (hl ▸ h)]
    · rw [List.getElem?_eq_none (by rw [wipe_length]; omega), List.getElem?_eq_none (by rw [wipe_length]; omega)]
  · rw [wipe_out' hi, a.2 i (fun z => hi (hv i z)), wipe_out' hi]
theorem Sat.clear (S : Sat K mg B F own s σ H) (hB : Fre B) (v : Nat) : Sat K mg B F own (s.set v none) (σ.set v none) H := by
  refine ⟨S.u, S.f, S.f0, S.new, fun i o e => ?_, S.own, by rw [List.length_set, List.length_set]; exact S.len, hB _⟩
  by_cases hi : v = i
  · subst hi
    by_cases hl : v < s.length
    · rw [List.getElem?_set_self hl] at e; cases e
    · rw [List.getElem?_eq_none (by simpa using hl)] at e; cases e
  · rw [List.getElem?_set_ne hi] at e
    obtain ⟨w, h1, h2⟩ := S.slot i o e
    exact ⟨w, by rw [List.getElem?_set_ne hi]; exact h1, h2⟩
theorem Sat.wiped (S : Sat K mg B F own s σ H) (hB : Fre B) : ∀ vs : List Nat, Sat K mg B F own (wipeD s vs) (wipe σ vs) H
  | [] => S
  | v :: vs => (Sat.wiped S hB vs).clear hB v
/-- the slots that a comprehension takes hold no owned thing -/
def perAt (s : DSt) (v : Nat) : Bool := match s[v]? with
  | some (some (.per _)) => true
  | some (some _) => false
  | _ => true
theorem Sat.unwipe {vs : List Nat} (S : Sat K mg B F own s σ H) (S' : Sat K mg B F' own' (wipeD s vs) (wipe σ vs) H') (e : Same F F') (hp : vs.all (perAt s) = true) : Sat K mg B F' own' s σ H' := by
  refine ⟨S'.u, S'.f, S'.f0, S'.new, fun i o q => ?_, S'.own, S.len, S.ck⟩
  by_cases hi : i ∈ vs
  · have z := List.all_eq_true.mp hp i hi
    unfold perAt at z
    rw [q] at z
    cases o with
    | per d =>
      obtain ⟨v, h1, h2⟩ := S.slot i _ q
      simp only [Rep] at h2
      exact ⟨v, h1, by simp only [Rep]; exact h2.same e⟩
    | _ => cases z
  · obtain ⟨v, h1, h2⟩ := S'.slot i o (by rw [wipeD_out hi]; exact q)
    rw [wipe_out' hi] at h1
    exact ⟨v, h1, h2⟩
/-! ### a node D apart from all names -/
def Bd.with (B : Bd) (F : Hp) (p : Addr) (ob : HO) : Bd := ⟨upd B.U p ob, F, B.ck⟩
/-- D counts as what stood before -/
theorem Sat.hold {p : Addr} {ob : HO} (S : Sat K mg B F own s σ H) (hp : H p = some ob) (hF : F p = none) (ho : own p = none) : Sat K mg (B.with F p ob) F own s σ H := by
  refine ⟨fun a o e => ?_, S.f, Same.refl F, fun a o e => .inl e, S.slot, fun a π e => ?_, S.len, S.ck⟩
  · unfold Bd.with upd at e
    simp only at e
    split at e
    · rename_i h; rw [h, hp]; exact e
    · exact S.u _ _ e
  · obtain ⟨h1, h2, h3⟩ := S.own a π e
    refine ⟨?_, h2, h3⟩
    have : a ≠ p := fun z => by rw [z, ho] at e; cases e
    show upd B.U p ob a = none
    rw [upd_ne this]
    exact h1
/-- .. no longer: the ground B again; slots that agree -/
theorem Sat.held {p : Addr} {ob : HO} {vs us : List Nat} {s1 : DSt} {σ1 : L2.St} (S0 : Sat K mg B F own (wipeD s vs) (wipe σ vs) H) (S : Sat K mg (B.with F p ob) F' own' s1 σ1 H') (hU : B.U p = none) (hF : F p = none)
    (hv : ∀ i ∈ us, i ∈ vs) (a : Ag us (wipeD s vs) s1) (b : Ag us (wipe σ vs) σ1) : Sat K mg B F' own' (wipeD s vs) (wipe σ vs) H' ∧ H' p = some ob ∧ F' p = none ∧ own' p = none := by
  have hp : H' p = some ob := S.u p ob (show upd B.U p ob p = some ob from upd_same ..)
  refine ⟨⟨fun a o e => S.u a o ?_, S.f, S0.f0.trans S.f0, fun a o e => ?_, fun i o e => ?_, fun a π e => ?_, ?_, S0.ck⟩, hp, ?_, ?_⟩
  · show upd B.U p ob a = some o
    rw [upd_ne (ne_of_none e hU)]
    exact e
  · rcases S.new a o e with h | h
    · exact S0.new a o h
    · right
      by_cases z : a = p
      · rw [z]; exact hU
      · have h : upd B.U p ob a = none := h
        rw [upd_ne z] at h
        exact h
  · have hi : i ∉ vs := fun z => wipeD_in z e
    have hi2 : i ∉ us := fun z => hi (hv i z)
    rw [← a.2 i hi2] at e
    obtain ⟨v, h1, h2⟩ := S.slot i o e
    rw [b.2 i hi2] at h1
    exact ⟨v, h1, h2⟩
  · obtain ⟨h1, h2, h3⟩ := S.own a π e
    refine ⟨?_, h2, h3⟩
    have h1 : upd B.U p ob a = none := h1
    by_cases z : a = p
    · rw [z]; exact hU
    · rw [upd_ne z] at h1; exact h1
  · exact S0.len
  · cases z : F' p with
    | none => rfl
    | some o =>
      rcases S.new p o z with h | h
      · rw [show (B.with F p ob).F0 p = F p from rfl, hF] at h; cases h
      · rw [show (B.with F p ob).U p = upd B.U p ob p from rfl, upd_same] at h; cases h
  · cases z : own' p with
    | none => rfl
    | some π =>
      obtain ⟨h1, _, _⟩ := S.own p π z
      rw [show (B.with F p ob).U p = upd B.U p ob p from rfl, upd_same] at h1; cases h1
/-- D written -/
theorem Sat.over {p : Addr} {ob : HO} (S : Sat K mg B F own s σ H) (hU : B.U p = none) (hF : F p = none) (ho : own p = none) : Sat K mg B F own s σ (upd H p ob) := by
  have keep : ∀ {G : Hp}, Same G H → G p = none → Same G (upd H p ob) := fun e z a x q => by
    rw [upd_ne (ne_of_none q z)]
    exact e _ _ q
  refine ⟨keep S.u hU, keep S.f hF, S.f0, S.new, fun j u e => ?_, fun a π e => ?_, S.len, S.ck⟩
  · obtain ⟨w, h1, h2⟩ := S.slot j u e
    refine ⟨w, h1, h2.keep u (Same.refl F) fun a l ob' w1 w2 => ⟨w1, ?_⟩⟩
    have ne : a ≠ p := fun z => by rw [z, ho] at w1; cases w1
    rw [upd_ne ne]
    exact w2
  · obtain ⟨h1, h2, h3⟩ := S.own a π e
    refine ⟨h1, h2, ?_⟩
    have ne : a ≠ p := fun z => by rw [z, ho] at e; cases e
    rw [upd_ne ne]; exact h3
/-- D becomes a node of the path π -/
theorem Sat.adopt {p : Addr} {π : List Nat} (S : Sat K mg B F own s σ H) (hU : B.U p = none) (hF : F p = none) (ho : own p = none) (hH : H p ≠ none) : Sat K mg B F (ownAt own p π) s σ H := by
  refine ⟨S.u, S.f, S.f0, S.new, fun i o e => ?_, fun a π e => ?_, S.len, S.ck⟩
  · obtain ⟨v, h1, h2⟩ := S.slot i o e
    refine ⟨v, h1, h2.keep o (Same.refl F) fun a l ob w1 w2 => ⟨?_, w2⟩⟩
    have ne : a ≠ p := fun z => by rw [z, ho] at w1; cases w1
    rw [ownAt_ne ne]
    exact w1
  · by_cases z : a = p
    · subst z; exact ⟨hU, hF, hH⟩
    · rw [ownAt_ne z] at e
      exact S.own a _ e
end
/-! ### the comprehension -/
def compL (g : GD) (t : DSt → R Bool) (e : ED) (s : DSt) : List D → R (List D)
  | [] => .ok []
  | d :: ds => match g d s with
    | none => .bad
    | some s1 => match t s1 with
      | .ok true => match e s1 with
        | .ok x => (compL g t e s ds).map (x :: ·)
        | _ => .bad
      | .ok false => compL g t e s ds
      | _ => .bad
def dComp (wi : DSt → R (List D)) (g : GD) (t : DSt → R Bool) (e : ED) (vs : List Nat) : EO := fun s =>
  if vs.all (perAt s) = true then (wi s).bind fun ds => if line ds.length = true then (compL g t e (wipeD s vs) ds).map O.l else .bad else .bad
section
variable (X : Cx) (B : Bd) (W : WX)
abbrev DTs (es : List Expr) (w : DSt → R Bool) : Prop := PTs X es (tG X.K X.mg B W rB w)
end
section
variable {X : Cx} {B : Bd} {W : WX} {elt tg iter c : Expr} {ifs : List Expr} {scope : Scope} {own : List (Str × Nat)} {pos p p' : Pos} {wi : DSt → R (List D)} {g : GD} {t : DSt → R Bool} {we : ED} {vs : List Nat} {x : Str} {i : Nat}
def dAll : DSt → R Bool := fun _ => .ok true
theorem dts_nil : DTs X B W [] dAll := ⟨fun pins s σ H Q I ⟨F, own, sd, S, q⟩ => pts_nil.run pins s σ H Q I (q F own H true (Same.refl _) (Same.refl _) S rfl)⟩
theorem dts_one (h : DT X B W c t) : DTs X B W [c] t := pts_one h
abbrev Blk (X : Cx) (scope : Scope) (T : Cx → Prop) : Prop := ∀ (s : Shared) (H : Hp) (C : Addr) (cl : List (Str × Addr)) (fp : List Addr), T (X.blk s H scope (compEnvC scope cl C X.env) fp)
theorem comp_core {σ : L2.St} {H : Hp} {Q : VK} {us : List Nat} (hB : Fre B) (hv : ∀ i ∈ us, i ∈ vs) (ag : ∀ d s s', g d s = some s' → Ag us s s') (h : tG X.K X.mg B W (rO X.K X.mg) (dComp wi g t we vs) σ H Q) :
    tLc (tI X.K X.mg B W wi) (fun v σ H Q => ∃ B, Fre B ∧ tT X.K X.mg B us g v σ H Q) (fun σ H Q => ∃ B, Fre B ∧ tG X.K X.mg B WF rB t σ H Q) (fun σ H Q => ∃ B, Fre B ∧ tG X.K X.mg B WF (rD X.K X.mg) we σ H Q) vs σ H Q := by
  obtain ⟨F, own0, s, S, q⟩ := h
  refine ⟨F, own0, s, S, ?_⟩
  unfold dComp at q
  by_cases hper : vs.all (perAt s) = true
  case neg => rw [if_neg hper] at q; exact q.elim
  rw [if_pos hper] at q
  generalize wi s = r at q ⊢
  cases r with
  | exc c => exact q
  | bad => exact q.elim
  | ok ds =>
    intro F1 own1 H1 J e1 eH1 S1 Wk D hD
    have q : Post X.K X.mg B W (rO X.K X.mg) F s σ H (if line ds.length = true then (compL g t we (wipeD s vs) ds).map O.l else .bad) Q := q
    by_cases hl : line ds.length = true
    case neg => rw [if_neg hl] at q; exact q.elim
    rw [if_pos hl] at q
    cases hout : compL g t we (wipeD s vs) ds with
    | bad => rw [hout] at q; exact q.elim
    | exc c =>
      exact absurd hout (by
        clear hout q
        have : ∀ ds, compL g t we (wipeD s vs) ds ≠ .exc c := by
          intro ds
          induction ds with
          | nil => exact fun h => nomatch h
          | cons d ds ih =>
            unfold compL
            split
            · exact fun h => nomatch h
            · split
              · split
                · intro h
                  cases z : compL g t we (wipeD s vs) ds with
                  | exc c' => rw [z] at h ih; cases h; exact ih rfl
                  | ok _ => rw [z] at h; cases h
                  | bad => rw [z] at h; cases h
                · exact fun h => nomatch h
              · exact ih
              · exact fun h => nomatch h
        exact this ds)
    | ok out =>
    rw [hout] at q
    have q : ∀ F' own' H' b, Same F F' → Same H H' → Sat X.K X.mg B F' own' s σ H' → Rep X.K X.mg F' H' own' [0] (.l out) b → Q b H' := q
    have hU : B.U D = none := S1.u.free hD
    have hF1 : F1 D = none := S1.f.free hD
    have ho1 : own1 D = none := by
      cases z : own1 D with
      | none => rfl
      | some π => exact absurd hD (S1.own D π z).2.2
    refine ⟨fun i m H' => ∃ F' own' acc xs, Sat X.K X.mg B F' own' (wipeD s vs) (wipe σ vs) H' ∧ Same F1 F' ∧ Same H1 H' ∧ H' D = some (.lst xs) ∧ DatL X.K X.mg F' acc xs ∧ own' D = none ∧ F' D = none ∧ m = ds.length - i ∧ i ≤ ds.length ∧ acc.length ≤ i ∧
        (compL g t we (wipeD s vs) (ds.drop i)).map (acc ++ ·) = .ok out, ⟨ds.length, F1, own1, [], [], (S1.wiped hB vs).grow (same_upd hD), Same.refl _, same_upd hD, upd_same .., .nil, ho1, hF1, rfl, Nat.zero_le _, Nat.le_refl _, by rw [List.drop_zero, hout]; rfl⟩, ?_⟩
    rintro i m H2 ⟨F2, own2, acc, xs, S2, e2, eH2, hDH, dx, ho2, hF2, rfl, hi, hacc, hres⟩
    by_cases hlt : i < ds.length
    · right
      refine ⟨Wk.go i B F2 own2 _ _ H2 e2 S2 hlt, fun H' => ∃ F' own' acc xs, Sat X.K X.mg B F' own' (wipeD s vs) (wipe σ vs) H' ∧ Same F1 F' ∧ Same H1 H' ∧ H' D = some (.lst xs) ∧ DatL X.K X.mg F' acc xs ∧ own' D = none ∧ F' D = none ∧ acc.length ≤ i + 1 ∧
        (compL g t we (wipeD s vs) (ds.drop (i + 1))).map (acc ++ ·) = .ok out, fun H' ⟨F', own', acc', xs', h1, h2, h3, h4, h5, h6, h7, h8, h9⟩ => ⟨ds.length - (i + 1), by omega, F', own', acc', xs', h1, h2, h3, h4, h5, h6, h7, rfl, hlt, h8, h9⟩, fun x H' hy => ?_⟩
      have S2' := S2.hold hDH hF2 ho2
      obtain ⟨F3, e3, eH3, S3, dx3⟩ := Wk.yld i _ F2 own2 _ _ H2 x H' _ e2 S2' (List.getElem?_eq_getElem hlt) hy
      refine ⟨B.with F2 D (.lst xs), hB, F3, own2, wipeD s vs, ds[i], S3, dx3, ?_⟩
      have hd : ds.drop i = ds[i] :: ds.drop (i + 1) := List.drop_eq_getElem_cons hlt
      rw [hd] at hres
      unfold compL at hres
      cases hg : g ds[i] (wipeD s vs) with
      | none => rw [hg] at hres; cases hres
      | some s1 =>
      rw [hg] at hres
      have a1 : Ag us (wipeD s vs) s1 := ag _ _ _ hg
      intro F4 own4 σ4 H4 e4 eH4 b4 S4
      refine ⟨wipe_ag hv b4, B.with F2 D (.lst xs), hB, F4, own4, s1, S4, ?_⟩
      have back : ∀ {F' : Hp} {own' : Own} {H' : Hp}, Sat X.K X.mg (B.with F2 D (.lst xs)) F' own' s1 σ4 H' → _ := fun {F' own' H'} Z => S2.held Z hU hF2 hv a1 b4
      simp only at hres
      cases ht : t s1 with
      | exc c => rw [ht] at hres; cases hres
      | bad => rw [ht] at hres; cases hres
      | ok b =>
      rw [ht] at hres
      intro F5 own5 H5 b' e5 eH5 S5 hb
      cases (show b = b' from hb)
      cases b with
      | false =>
        rw [if_neg Bool.false_ne_true]
        obtain ⟨z1, z2, z3, z4⟩ := back S5
        have e25 : Same F2 F5 := e3.trans (e4.trans e5)
        exact ⟨F5, own5, acc, xs, z1, e2.trans e25, eH2.trans (eH3.trans (eH4.trans eH5)), z2, DatL.same e25 _ _ dx, z4, z3, Nat.le_succ_of_le hacc, hres⟩
      | true =>
        rw [if_pos rfl]
        refine ⟨B.with F2 D (.lst xs), hB, F5, own5, s1, S5, ?_⟩
        simp only at hres
        cases he : we s1 with
        | exc c => rw [he] at hres; cases hres
        | bad => rw [he] at hres; cases hres
        | ok y =>
        rw [he] at hres
        intro F6 own6 H6 v e6 eH6 S6 dv
        obtain ⟨z1, z2, z3, z4⟩ := back S6
        have e26 : Same F2 F6 := e3.trans (e4.trans (e5.trans e6))
        refine ⟨xs, z2, ?_, F6, own6, acc ++ [y], xs ++ [v], z1.over hU z3 z4, e2.trans e26, fun a o e => ?_, upd_same .., (DatL.same e26 _ _ dx).append (.one dv), z4, z3, by simp; omega, ?_⟩
        · have z := line_ok hl
          rw [dx.length]
          omega
        · have ne : a ≠ D := fun z => by rw [z, hD] at e; cases e
          rw [upd_ne ne]
          exact eH2.trans (eH3.trans (eH4.trans (eH5.trans eH6))) _ _ e
        · simp only at hres
          revert hres
          generalize compL g t we (wipeD s vs) (ds.drop (i + 1)) = r
          intro hres
          cases r with
          | ok l => simpa [R.map] using hres
          | exc c => cases hres
          | bad => cases hres
    · left
      have hie : i = ds.length := by omega
      subst hie
      refine ⟨Wk.stop B F2 own2 _ _ H2 e2 S2, ?_⟩
      rw [List.drop_eq_nil_of_le (Nat.le_refl _)] at hres
      simp only [compL, R.map, List.append_nil] at hres
      cases hres
      have S3 := S1.unwipe S2 e2 hper
      exact q F2 (ownAt own2 D [0]) H2 (.ref D) (e1.trans e2) (eH1.trans eH2) (S3.adopt hU hF2 ho2 (by rw [hDH]; simp)) (by
        simp only [Rep]
        exact ⟨D, xs, rfl, ownAt_same, hDH, dx⟩)
/-- [e for tg in iter if ..] -/
theorem do_comp (hB : Fre B) (ce : Ce X W) (hi : DI X B W tg iter wi) (ok : BlkOk X.N X.env.scope scope own) (hg : ∀ B, Fre B → Blk X scope fun X' => DG X' B vs tg g) (ht : ∀ B, Fre B → Blk X scope fun X' => DTs X' B WF ifs t) (he : ∀ B, Fre B → Blk X scope fun X' => DE X' B WF elt we)
    (hv : ∀ i ∈ vs, i ∈ own.map (·.2) := by decide) (hs : ∀ x, foldedSetIterable iter X.env x = pure x := by intro _; rfl) : DO X B W (.ListComp elt [⟨tg, iter, ifs, 0⟩] scope pos) (dComp wi g t we (own.map (·.2))) :=
  peImp (pe_lc ce.calm ce.nd hi ok (fun s H C cl fp => ⟨fun pins s' σ H' v u Q I r ⟨B, hB', q⟩ => (hg B hB' s H C cl fp).run.run pins s' σ H' v u Q I r q⟩) (fun s H C cl fp => ⟨fun pins s' σ H' Q I ⟨B, hB', q⟩ => (ht B hB' s H C cl fp).run pins s' σ H' Q I q⟩) (fun s H C cl fp => ⟨fun pins s' σ H' Q I ⟨B, hB', q⟩ => (he B hB' s H C cl fp).run pins s' σ H' Q I q⟩) hs)
    fun σ H Q h => comp_core hB hv (hg B hB X.s_0 X.H_0 0 [] []).ag h
/-- y = [e for tg in iter if ..] on one line -/
theorem ds_setComp {y : Str} {py spos : Pos} (i : Nat) (hB : Fre B) (ce : Ce X W) (hy : X.N[i]? = some y) (hyl : X.env.scope.names.lookup y = some .local) (hi : DI X B W tg iter wi) (ok : BlkOk X.N X.env.scope scope own) (hg : ∀ B, Fre B → Blk X scope fun X' => DG X' B vs tg g) (ht : ∀ B, Fre B → Blk X scope fun X' => DTs X' B WF ifs t) (he : ∀ B, Fre B → Blk X scope fun X' => DE X' B WF elt we)
    (hsw : swapsWith (.ListComp elt [⟨tg, iter, ifs, 0⟩] scope pos) (some (.Name y py)) spos.line X.env = pure true)
    (hv : ∀ i ∈ vs, i ∈ own.map (·.2) := by decide) (hs : ∀ x, foldedSetIterable iter X.env x = pure x := by intro _; rfl) : DS X B W (.Assign [.Name y py] (.ListComp elt [⟨tg, iter, ifs, 0⟩] scope pos) spos) (dSetO i (dComp wi g t we (own.map (·.2)))) :=
  psImp (ps_setLc ce.calm ce.nd hy hyl hsw hi ok (fun s H C cl fp => ⟨fun pins s' σ H' v u Q I r ⟨B, hB', q⟩ => (hg B hB' s H C cl fp).run.run pins s' σ H' v u Q I r q⟩) (fun s H C cl fp => ⟨fun pins s' σ H' Q I ⟨B, hB', q⟩ => (ht B hB' s H C cl fp).run pins s' σ H' Q I q⟩) (fun s H C cl fp => ⟨fun pins s' σ H' Q I ⟨B, hB', q⟩ => (he B hB' s H C cl fp).run pins s' σ H' Q I q⟩) hs)
    fun D σ H ⟨F, own, s, S, q⟩ => comp_core hB hv (hg B hB X.s_0 X.H_0 0 [] []).ag ⟨F, own, s, S, PostS.of q fun d F' own' H' v S' e1 eH dx q' => q' F' _ _ H' (Same.refl _) (S'.store hB dx)⟩
end
end DL

namespace DL
open PySem PySem.Spec PyProof.Rows L2
section
variable {K : PySem.W.Frag} {mg : Str → Option Value} {B : Bd} {F H : Hp} {own : Own} {s : DSt} {σ : L2.St}
/-- the list of a slot -/
theorem Sat.lstAt (S : Sat K mg B F own s σ H) {i : Nat} {ds : List D} (h : s[i]? = some (some (.l ds))) : ∃ a xs, σ[i]? = some (some (.ref a)) ∧ own a = some [i + 1] ∧ H a = some (.lst xs) ∧ DatL K mg F ds xs := by
  obtain ⟨v, h1, h2⟩ := S.slot i _ h
  simp only [Rep] at h2
  obtain ⟨a, xs, rfl, q2, q3, q4⟩ := h2
  exact ⟨a, xs, h1, q2, q3, q4⟩
theorem Sat.lstSet (S : Sat K mg B F own s σ H) {i : Nat} {ds : List D} {a : Addr} {xs : List V} (h1 : σ[i]? = some (some (.ref a))) (h2 : own a = some [i + 1]) (d : DatL K mg F ds xs) : Sat K mg B F own (s.set i (some (.l ds))) σ (upd H a (.lst xs)) :=
  S.write (l := []) h2 h1 (by
    simp only [Rep]
    exact ⟨a, xs, rfl, h2, upd_same .., d⟩)
end
section
variable {X : Cx} {B : Bd} {W : WX} {e o a b c ix : Expr} {w wa wb wi : ED} {p p' ap cp pos : Pos} {x : Str}
/-- xs.append(e), xs.extend(e): the slot i's list -/
def dMod (i : Nat) (f : List D → D → Option (List D)) (w : ED) : SD := fun s => match s[i]? with
  | some (some (.l ds)) => (w s).toS s fun d => match f ds d with
    | some ds' => .nx (s.set i (some (.l ds')))
    | none => .bad
  | _ => .bad
def appL (ds : List D) (d : D) : Option (List D) := if line (ds.length + 1) = true then some (ds ++ [d]) else none
def extL (ds : List D) (d : D) : Option (List D) := match d with
  | .lst es => if line (ds.length + es.length) = true then some (ds ++ es) else none
  | _ => none
theorem ds_mod {id : String} {m : Str} {r : V → List V → Hp → VK → Prop} {ra : Rl D V} {f : List D → D → Option (List D)} (i : Nat) (ho : PE X o (tVar i)) (he : PE X e (tG X.K X.mg B W ra w)) (pa : PlainAttrs "list") (slot : Slot "list" m id) (hty : typeOf (.builtin id) = pure (.type "method_descriptor")) (hm : MtM X id r)
    (k : ∀ F own s σ H a xs ds d v ds' (Q : VK), Sat X.K X.mg B F own s σ H → H a = some (.lst xs) → DatL X.K X.mg F ds xs → ra F own H d v → f ds d = some ds' → (∀ xs' u, DatL X.K X.mg F ds' xs' → Q u (upd H a (.lst xs'))) → r (.ref a) [v] H Q)
    (hbase : attributeBase o m X.env (eval o X.env) = eval o X.env)
    (hfew : ((backTo cp (starEach [e] X.env)).all (fun x => !x.1) && (backToKw cp (keywordEach [] X.env)).all (fun x => x.1.isSome)
      && decide (([e] : List Expr).length + ([] : List Keyword).length + (if ([] : List Keyword).isEmpty then 0 else 1) < 30)) = true)
    (hline : (ap.endLine == cp.line) = true) (hs1 : starEach [e] X.env = (false, eval e X.env) :: starEach [] X.env)
    (hs : swapsWith (.Call (.Attribute o m ap) [e] [] cp) none pos.line X.env = pure false) :
    DS X B W (.Expr (.Call (.Attribute o m ap) [e] [] cp) pos) (dMod i f w) :=
  psImp (ps_expr (pe_bm pa slot hty hm ho (pa_cons he pa_nil hs1) hbase hfew hline hs1 rfl) hs) fun D σ H ⟨F, own, s, S, q⟩ => by
    unfold dMod at q
    split at q
    · rename_i ds hi
      obtain ⟨a, xs, h1, h2, h3, h4⟩ := S.lstAt hi
      refine ⟨.ref a, h1, .inl ⟨rfl, xs, .of h3⟩, F, own, s, S, PostS.of q fun d F' own' H' v S' e1 eH dx q' => ?_⟩
      obtain ⟨a', xs', h1', h2', h3', h4'⟩ := S'.lstAt hi
      rw [h1] at h1'
      cases h1'
      cases hf : f ds d with
      | none => rw [hf] at q'; exact q'.elim
      | some ds' =>
        rw [hf] at q'
        exact k F' own' s σ H' a xs' ds d v ds' _ S' h3' h4' dx hf fun ys u dy => q' F' own' σ _ (Same.refl _) (S'.lstSet h1 h2' dy)
    · exact q.elim
theorem ds_append (i : Nat) (ho : PE X o (tVar i)) (he : DE X B W e w)
    (hbase : attributeBase o "append" X.env (eval o X.env) = eval o X.env := by rfl)
    (hfew : ((backTo cp (starEach [e] X.env)).all (fun x => !x.1) && (backToKw cp (keywordEach [] X.env)).all (fun x => x.1.isSome)
      && decide (([e] : List Expr).length + ([] : List Keyword).length + (if ([] : List Keyword).isEmpty then 0 else 1) < 30)) = true := by rfl)
    (hline : (ap.endLine == cp.line) = true := by rfl) (hs1 : starEach [e] X.env = (false, eval e X.env) :: starEach [] X.env := by rfl)
    (hs : swapsWith (.Call (.Attribute o "append" ap) [e] [] cp) none pos.line X.env = pure false := by rfl) :
    DS X B W (.Expr (.Call (.Attribute o "append" ap) [e] [] cp) pos) (dMod i appL w) :=
  ds_mod i ho he PySem.F.plainAttrs_list PySem.F.slot_list_append PySem.F.type_list_append mt_append (fun F own s σ H a xs ds d v ds' Q S h1 h2 dx hf q => by
    unfold appL at hf
    split at hf
    · rename_i hl
      cases hf
      exact ⟨a, xs, v, rfl, rfl, h1, by rw [h2.length]; have := line_ok hl; omega, q _ _ (h2.append (.one dx))⟩
    · cases hf) hbase hfew hline hs1 hs
theorem ds_extend (i : Nat) (ho : PE X o (tVar i)) (he : DP X B W e w)
    (hbase : attributeBase o "extend" X.env (eval o X.env) = eval o X.env := by rfl)
    (hfew : ((backTo cp (starEach [e] X.env)).all (fun x => !x.1) && (backToKw cp (keywordEach [] X.env)).all (fun x => x.1.isSome)
      && decide (([e] : List Expr).length + ([] : List Keyword).length + (if ([] : List Keyword).isEmpty then 0 else 1) < 30)) = true := by rfl)
    (hline : (ap.endLine == cp.line) = true := by rfl) (hs1 : starEach [e] X.env = (false, eval e X.env) :: starEach [] X.env := by rfl)
    (hs : swapsWith (.Call (.Attribute o "extend" ap) [e] [] cp) none pos.line X.env = pure false := by rfl) :
    DS X B W (.Expr (.Call (.Attribute o "extend" ap) [e] [] cp) pos) (dMod i extL w) :=
  ds_mod i ho he PySem.F.plainAttrs_list PySem.F.slot_list_extend PySem.F.type_list_extend mt_extend (fun F own s σ H a xs ds d v ds' Q S h1 h2 dx hf q => by
    cases d with
    | lst es =>
      simp only [extL] at hf
      split at hf
      · rename_i hl
        cases hf
        obtain ⟨b, ys, rfl, k2, k3⟩ := dx
        exact ⟨a, b, xs, ys, rfl, rfl, h1, k2, by rw [h2.length, k3.length]; exact line_ok hl, q _ _ (h2.append k3)⟩
      · cases hf
    | _ => cases hf) hbase hfew hline hs1 hs
/-- xs.pop(), the value dropped or stored -/
def dPop (i : Nat) (k : D → DSt → RS) : SD := fun s => match s[i]? with
  | some (some (.l ds)) => match ds.getLast? with
    | some d => k d (s.set i (some (.l ds.dropLast)))
    | none => .bad
  | _ => .bad
theorem DatL.dropLast {K : PySem.W.Frag} {mg : Str → Option Value} {F : Hp} {ds : List D} {xs : List V} (h : DatL K mg F ds xs) : DatL K mg F ds.dropLast xs.dropLast := by
  rw [List.dropLast_eq_take, List.dropLast_eq_take, h.length]
  exact h.take _
theorem pop_core {i : Nat} {k : D → DSt → RS} {D : Ends} {σ : L2.St} {H : Hp} {F : Hp} {own : Own} {s : DSt} {Q : VK} (S : Sat X.K X.mg B F own s σ H) (q : PostS X.K X.mg B W F (dPop i k s) D)
    (hk : ∀ d F' own' s' H' v, Sat X.K X.mg B F' own' s' σ H' → Dat X.K X.mg F' d v → PostS X.K X.mg B W F' (k d s') D → Q v H') : tBM0 X.K "list" rPop (tVar i) σ H Q := by
  unfold dPop at q
  split at q
  · rename_i ds hi
    obtain ⟨a, xs, h1, h2, h3, h4⟩ := S.lstAt hi
    refine ⟨.ref a, h1, .inl ⟨rfl, xs, .of h3⟩, ?_⟩
    split at q
    · rename_i d hd
      have hx : ds[ds.length - 1]? = some d := by rw [← List.getLast?_eq_getElem?]; exact hd
      obtain ⟨v, hv, dv⟩ := h4.get hx
      refine ⟨a, xs, v, rfl, rfl, h3, by rw [h4.length]; exact hv, hk d F own _ _ v (S.lstSet h1 h2 h4.dropLast) dv q⟩
    · exact q.elim
  · exact q.elim
theorem ds_pop (i : Nat) (ho : PE X o (tVar i)) (hbase : attributeBase o "pop" X.env (eval o X.env) = eval o X.env := by rfl) (hline : (ap.endLine == cp.line) = true := by rfl)
    (hs : swapsWith (.Call (.Attribute o "pop" ap) [] [] cp) none pos.line X.env = pure false := by rfl) :
    DS X B W (.Expr (.Call (.Attribute o "pop" ap) [] [] cp) pos) (dPop i fun _ s => .nx s) :=
  psImp (ps_expr (pe_bm0 PySem.F.plainAttrs_list PySem.F.slot_list_pop PySem.F.type_list_pop mt_pop ho hbase hline) hs) fun D σ H ⟨F, own, s, S, q⟩ =>
    pop_core S q fun d F' own' s' H' v S' dx q' => q' F' own' σ H' (Same.refl _) S'
theorem ds_setPop (i j : Nat) (hB : Fre B) (hN : X.N.Nodup) (ho : PE X o (tVar i)) (hj : X.N[j]? = some x := by rfl) (hx : Loc X.env.scope x := by first | exact Or.inl rfl | exact Or.inr rfl) (hbase : attributeBase o "pop" X.env (eval o X.env) = eval o X.env := by rfl) (hline : (ap.endLine == cp.line) = true := by rfl)
    (hs : swapsWith (.Call (.Attribute o "pop" ap) [] [] cp) (some (.Name x p')) pos.line X.env = pure false := by rfl) (hf : X.fn x = true ∨ X.env.scope.names.lookup x = some .local := by first | exact .inl rfl | exact .inr rfl | assumption) :
    DS X B W (.Assign [.Name x p'] (.Call (.Attribute o "pop" ap) [] [] cp) pos) (dPop i fun d s => .nx (s.set j (some (.per d)))) :=
  psImp (ps_set hN hj hx (pe_bm0 PySem.F.plainAttrs_list PySem.F.slot_list_pop PySem.F.type_list_pop mt_pop ho hbase hline) hs hf) fun D σ H ⟨F, own, s, S, q⟩ =>
    pop_core S q fun d F' own' s' H' v S' dx q' => q' F' own' _ H' (Same.refl _) (S'.storeD hB dx)
/-! xs[i] = e -/
def ixL (n : Nat) (k : Int) : Option Nat := if 0 ≤ k then (if k < n then some k.toNat else none) else if 0 ≤ k + n then some (k + n).toNat else none
def dSetIx (i : Nat) (wi we : ED) : SD := fun s => (we s).toS s fun d => match s[i]? with
  | some (some (.l ds)) => (wi s).toS s fun k => match k with
    | .int k => match ixN ds.length k with
      | some j => .nx (s.set i (some (.l (ds.set j d))))
      | none => .bad
    | _ => .bad
  | _ => .bad
theorem ds_setIx (i : Nat) (ho : PE X o (tVar i)) (hi : DE X B W ix wi) (he : DE X B W e w) (hs : swapsWithSole [.Subscript o ix p'] e pos.line X.env = pure false := by rfl) (hw : swappedStores [.Subscript o ix p'] e X.env = pure none := by rfl) (h1 : (assignEach [.Subscript o ix p'] X.env).map (·.2) = [assign (.Subscript o ix p') X.env] := by rfl)
    (ha : ∀ v, assign (.Subscript o ix p') X.env v = (do
      let ov ← holding [v] (eval o X.env)
      let iv ← holding [v, ov] (eval ix X.env)
      standAt p'
      holding [v, ov, iv] (setItem ov iv v)
      release [v, ov, iv] []) := by intro _; rfl) :
    DS X B W (.Assign [.Subscript o ix p'] e pos) (dSetIx i wi w) :=
  psImp (ps_asg he (pg_sub ho hi set_list ha) hs hw h1) fun D σ H ⟨F, own, s, S, q⟩ => ⟨F, own, s, S, PostS.of q fun d F1 own1 H1 v S1 e1 eH1 dx q1 => by
    split at q1
    · rename_i ds hsl
      obtain ⟨a, xs, h1, h2, h3, h4⟩ := S1.lstAt hsl
      refine ⟨.ref a, h1, F1, own1, s, S1, PostS.of q1 fun k F2 own2 H2 u S2 e2 eH2 dk q2 => ?_⟩
      cases k with
      | int k =>
        have eu : u = .int k := by simpa [rD, Dat] using dk
        obtain ⟨a', xs', h1', h2', h3', h4'⟩ := S2.lstAt hsl
        rw [h1] at h1'
        cases h1'
        simp only at q2
        split at q2
        · rename_i j hj
          exact ⟨a, xs', k, j, rfl, eu, h3', by rw [h4'.length]; exact hj, q2 F2 own2 σ _ (Same.refl _) (S2.lstSet h1 h2' (DatL.set (Dat.same e2 _ _ dx) j h4'))⟩
        · exact q2.elim
      | _ => exact q2.elim
    · exact q1.elim⟩
/-! str(n) -/
def strI : D → Option D
  | .int i => if i.natAbs.log2 < 1920 then some (.str (toString i)) else none
  | _ => none
theorem de_strI (hg : Gl X "str") (hm : X.mg "str" = none) (ha : DE X B W a wa) (na : NS a := by intro _ _; rfl) : DE X B W (.Call (.Name "str" p) [a] [] pos) (f1 strI wa) :=
  ty1 call_str_int hg hm boot_str (by decide) (by decide) ha (fun F own s σ H x v z Q S dx hz q => by
    cases x with
    | int i =>
      simp only [strI] at hz
      split at hz
      · rename_i hl
        cases hz
        have ev : v = .int i := by simpa [rD, Dat] using dx
        exact ⟨i, by rw [ev], hl, q.done S (sca_str _ _ _)⟩
      · cases hz
    | _ => cases hz) na
end
end DL

namespace DL
open PySem PySem.Spec PyProof.Rows L2
/-- the suite's ground: slot i holds the exception -/
def Bd.err (B : Bd) (i : Nat) (a : Addr) : Bd := ⟨B.U, B.F0, fun σ => σ[i]? = some (some (.ref a))⟩
theorem Sat.toErr {K : PySem.W.Frag} {mg : Str → Option Value} {B : Bd} {F H : Hp} {own : Own} {s : DSt} {σ : L2.St} (S : Sat K mg B F own s σ H) (i : Nat) (a : Addr) (hi : i < s.length) : Sat K mg (B.err i a) F own (s.set i none) (σ.set i (some (.ref a))) H := by
  refine ⟨S.u, S.f, S.f0, S.new, fun j o e => ?_, S.own, by rw [List.length_set, List.length_set]; exact S.len, ?_⟩
  · by_cases hj : i = j
    · subst hj
      rw [List.getElem?_set_self hi] at e; cases e
    · rw [List.getElem?_set_ne hj] at e
      obtain ⟨w, h1, h2⟩ := S.slot j o e
      exact ⟨w, by rw [List.getElem?_set_ne hj]; exact h1, h2⟩
  · show (σ.set i (some (.ref a)))[i]? = _
    rw [List.getElem?_set_self (S.len ▸ hi)]
section
variable {X : Cx} {B : Bd} {W : WX} {body suite : List Stmt} {b₀ : Stmt} {x n : Str} {np pos pos' p p' : Pos} {u : SD} {cs : List Str} {cv : Value} {tch : Str → Bool} {h : Str → SD}
/-- try .. except x as n (slot i): cs the classes that may come, tch those that are caught; the suite returns -/
def dTryAs (u : SD) (cs : List Str) (tch : Str → Bool) (i : Nat) (h : Str → SD) : SD := fun s => match u s with
  | .exc c s' => if c ∈ cs ∧ i < s'.length then (if tch c = true then (match h c (s'.set i none) with | .rt o => .rt o | _ => .bad) else .exc c s') else .bad
  | r => r
theorem ds_tryAs (i : Nat) (hB : Fre B) (cd : Cd X W) (hs : X.stack = X.env :: X.outer) (hf : X.env.frame = some X.env.locals) (hi : X.N[i]? = some n) (hln : X.env.kindOf n = some .local) (hc : Names X x cv)
    (hE : ∀ c ∈ cs, ∀ C, X.mg c = some (.ref C) → PySem.W.exmOne X.K (.ref C) cv = some (tch c))
    (hb : ∀ (W : WX) (pn : List (Addr × Obj)) (xe : Value → Shared → Prop), Cd (X.tr pn xe) W → DSs (X.tr pn xe) B W body u)
    (hsu : ∀ c ∈ cs, tch c = true → ∀ (C a : Addr) (oe : Obj) (pn : List (Addr × Obj)), X.mg c = some (.ref C) → Zc (.ref C) none oe → (∃ vs, oe.data = .fields vs) → DSs (X.suite a ((a, oe) :: pn)) (B.err i a) WF (b₀ :: suite) (h c)) :
    DS X B W (.Try body [.ExceptHandler (some (.Name x np)) (some n) (b₀ :: suite) pos'] [] [] pos) (dTryAs u cs tch i h) :=
  psImp (ps_try_as (tb := fun W => tS X.K X.mg B W u) (ts := fun a cls d D σ H => ∃ c C, c ∈ cs ∧ tch c = true ∧ cls = .ref C ∧ d = none ∧ X.mg c = some (.ref C) ∧ tS X.K X.mg (B.err i a) WF (h c) D σ H) hs hf cd.nd hi hln hc cd.tk (fun W' pn xe tk po => hb W' pn xe ⟨⟨cd.calm, tk, cd.nd⟩, po⟩) fun a oe cls d pn hz hv => ⟨fun pins s σ H D I ⟨c, C, hc, ht, e1, e2, hm, q⟩ => by
    subst e1 e2
    exact (hsu c hc ht C a oe pn hm hz hv).run pins s σ H D I q⟩) fun D σ H ⟨F, own, s, S, q⟩ => ⟨F, own, s, S, by
    have q : PostS X.K X.mg B W F (match u s with
      | .exc c s' => if c ∈ cs ∧ i < s'.length then (if tch c = true then (match h c (s'.set i none) with | .rt o => RS.rt o | _ => .bad) else .exc c s') else .bad
      | r => r) D := q
    generalize u s = r at q ⊢
    cases r with
    | nx s' => exact q
    | bk s' => exact q
    | ct s' => exact q
    | rt o => exact q
    | bad => exact q
    | exc c s' =>
      simp only at q
      split at q
      · rename_i hcs
        intro C F' own' σ' H' hm e1 S1
        refine ⟨tch c, hE c hcs.1 C hm, fun ht a ha => ?_, fun ht => ?_⟩
        · rw [if_pos ht] at q
          refine ⟨c, C, hcs.1, ht, rfl, rfl, hm, F', own', _, S1.toErr i a hcs.2, ?_⟩
          generalize h c (s'.set i none) = r at q ⊢
          cases r with
          | rt o => exact fun F2 own2 s2 σ2 H2 v e2 S2 q2 => q F2 own2 s2 σ2 H2 v (e1.trans e2) ⟨S2.u, S2.f, S2.f0, S2.new, S2.slot, S2.own, S2.len, hB _⟩ q2
          | _ => exact q.elim
        · rw [if_neg (by rw [ht]; exact Bool.false_ne_true)] at q
          exact q C F' own' σ' H' hm e1 S1
      · exact q.elim⟩
/-- try .. except x, without a name -/
def dTryOn (u : SD) (cs : List Str) (tch : Str → Bool) (h : Str → SD) : SD := fun s => match u s with
  | .exc c s' => if c ∈ cs then (if tch c = true then (match h c s' with | .rt o => .rt o | _ => .bad) else .exc c s') else .bad
  | r => r
theorem ds_tryOn (cd : Cd X W) (hs : X.stack = X.env :: X.outer) (hf : X.env.frame = some X.env.locals) (hc : Names X x cv)
    (hE : ∀ c ∈ cs, ∀ C, X.mg c = some (.ref C) → PySem.W.exmOne X.K (.ref C) cv = some (tch c))
    (hb : ∀ (W : WX) (pn : List (Addr × Obj)) (xe : Value → Shared → Prop), Cd (X.tr pn xe) W → DSs (X.tr pn xe) B W body u)
    (hsu : ∀ c ∈ cs, tch c = true → ∀ (C a : Addr) (oe : Obj) (pn : List (Addr × Obj)), X.mg c = some (.ref C) → Zc (.ref C) none oe → (∃ vs, oe.data = .fields vs) → DSs (X.suite a ((a, oe) :: pn)) B WF (b₀ :: suite) (h c)) :
    DS X B W (.Try body [.ExceptHandler (some (.Name x np)) none (b₀ :: suite) pos'] [] [] pos) (dTryOn u cs tch h) :=
  psImp (ps_try_only (tb := fun W => tS X.K X.mg B W u) (ts := fun a cls d D σ H => ∃ c C, c ∈ cs ∧ tch c = true ∧ cls = .ref C ∧ d = none ∧ X.mg c = some (.ref C) ∧ tS X.K X.mg B WF (h c) D σ H) hs hf hc cd.tk (fun W' pn xe tk po => hb W' pn xe ⟨⟨cd.calm, tk, cd.nd⟩, po⟩) fun a oe cls d pn hz hv => ⟨fun pins s σ H D I ⟨c, C, hc, ht, e1, e2, hm, q⟩ => by
    subst e1 e2
    exact (hsu c hc ht C a oe pn hm hz hv).run pins s σ H D I q⟩) fun D σ H ⟨F, own, s, S, q⟩ => ⟨F, own, s, S, by
    have q : PostS X.K X.mg B W F (match u s with
      | .exc c s' => if c ∈ cs then (if tch c = true then (match h c s' with | .rt o => RS.rt o | _ => .bad) else .exc c s') else .bad
      | r => r) D := q
    generalize u s = r at q ⊢
    cases r with
    | nx s' => exact q
    | bk s' => exact q
    | ct s' => exact q
    | rt o => exact q
    | bad => exact q
    | exc c s' =>
      simp only at q
      split at q
      · rename_i hcs
        intro C F' own' σ' H' hm e1 S1
        refine ⟨tch c, hE c hcs C hm, fun ht a ha => ?_, fun ht => ?_⟩
        · rw [if_pos ht] at q
          refine ⟨c, C, hcs, ht, rfl, rfl, hm, F', own', _, S1, ?_⟩
          generalize h c s' = r at q ⊢
          cases r with
          | rt o => exact fun F2 own2 s2 σ2 H2 v e2 S2 q2 => q F2 own2 s2 σ2 H2 v (e1.trans e2) S2 q2
          | _ => exact q.elim
        · rw [if_neg (by rw [ht]; exact Bool.false_ne_true)] at q
          exact q C F' own' σ' H' hm e1 S1
      · exact q.elim⟩
/-- isinstance(e, c) in the suite -/
theorem de_isE {a C : Addr} {oe : Obj} {pn : List (Addr × Obj)} {c : V} {b : Bool} {en ec : Expr} (i : Nat) (EC : ExcC X.K C) (hz : Zc (.ref C) none oe) (hv : ∃ vs, oe.data = .fields vs) (hg : Gl (X.suite a ((a, oe) :: pn)) "isinstance") (hm : X.mg "isinstance" = none)
    (he : PE (X.suite a ((a, oe) :: pn)) en (tVar i)) (hx : PE (X.suite a ((a, oe) :: pn)) ec (tC c)) (hcv : ∀ u, RelV c u → u = cv) (hk : PySem.W.kitOne X.K (.ref C) cv = some b) (ne : NS en := by intro _ _; rfl) (nc : NS ec := by intro _ _; rfl) :
    DE (X.suite a ((a, oe) :: pn)) (B.err i a) W (.Call (.Name "isinstance" p) [en, ec] [] pos) (dC (.bl b)) :=
  peImp (pe_callB (call_isE EC hz hv) hg hm boot_isinstance (pa_cons he (pa_cons hx pa_nil (nc _ _)) (ne _ _)) (by decide) (by decide) (ne _ _) (nc.pl _ _)) fun σ H Q ⟨F, own, s, S, q⟩ =>
    ⟨.ref a, S.ck, c, cv, b, rfl, hcv, hk, q F own H _ (Same.refl _) (Same.refl _) S (sca_bl _ _ _)⟩
end
end DL

namespace DL
open PySem PySem.Spec PyProof.Rows L2
/-! ### what the text's end of the top says: names, constants, exception classes -/
structure HD where
  gl : List Str            -- defs and classes
  fr : List Str            -- built-ins that are not hidden
  bi : List (Str × String) -- built-in functions brought by an import
  cn : List (Str × Int)    -- constants
  ex : List Str            -- own exception classes
  sub : Str → Str → Bool   -- which is beneath which
def dcO (a b : Option (Option Value)) : Bool := decide (a = b)
def excB (K : PySem.W.Frag) (x : Str) : Bool := (He.Fa.exc x).ok K && (dcO (PySem.W.findIn K (.ref (He.ga K x)) "__getattribute__") (some (some (.builtin "BaseException.__getattribute__"))) && (dcO (PySem.W.findIn K (.ref (He.ga K x)) "__getattr__") (some none) &&
  (PySem.W.hasDictIn K (He.ga K x) && (dcO (PySem.W.findIn K (.ref (He.ga K x)) "__class__") (some (some (.builtin "object.__class__"))) && (dcO (PySem.W.specialIn K (.builtin "object.__class__") "__get__") (some (some (.builtin "getset_descriptor.__get__"))) &&
  (decide (PySem.W.takesIn K (.builtin "object.__class__") = some true) && (decide (PySem.W.mroIn K (He.ga K x) (.type "object") = some true) && decide (PySem.W.kitOne K (.ref (He.ga K x)) (.type "ValueError") = some true))))))))
def HD.ok (h : HD) (K : PySem.W.Frag) : Bool :=
  (h.gl.all fun x => (He.Fa.glo x).ok K) && ((h.fr.all fun x => (He.Fa.free x).ok K) && ((h.bi.all fun p => dcO (PySem.W.nsIn K mainGlobals p.1) (some (some (.builtin p.2)))) && ((h.cn.all fun p => (He.Fa.int p.1 p.2).ok K) && ((h.ex.all fun x => excB K x) &&
    (h.ex.all fun x => h.ex.all fun y => decide (PySem.W.exmOne K (.ref (He.ga K x)) (.ref (He.ga K y)) = some (h.sub x y)) && decide (PySem.W.kitOne K (.ref (He.ga K x)) (.ref (He.ga K y)) = some (h.sub x y)))))))
/-! the Hook -/
def obsX (hd : HD) (fn : List He.DefD) (K : PySem.W.Frag) : He.AlD := (hd.ok K && fn.all fun d => d.ok K, fn.map fun d => He.fnW K d.at_)
def SaysX (hd : HD) (fn : List He.DefD) (K : PySem.W.Frag) : Prop := obsX hd fn K = He.valD fn
def obsXG (n : Nat) (hd : HD) (fn : List He.DefD) (g : Addr → Option Obj) : He.AlD := obsX hd fn (He.frG g (He.asD g n))
def hookX (n : Nat) (hd : HD) (fn : List He.DefD) : PySem.W.Hook where
  α := He.AlD
  obs := fun s => obsXG n hd fn s.heap.get?
  val := fun _ => He.valD fn
  says := fun _ h => ∃ K : PySem.W.Frag, K.In h ∧ SaysX hd fn K
  of := fun _ _ e => ⟨_, He.frG_in, e⟩
  keeps := fun _ _ _ ⟨K, hK, c⟩ k => ⟨K, PySem.W.Frag.In.keeps hK k, c⟩
theorem obsXG_eq {n : Nat} {hd : HD} {fn : List He.DefD} {g : Addr → Option Obj} {s : Shared} (h : ∀ a, g a = s.heap.get? a) : obsXG n hd fn g = (hookX n hd fn).obs s := by
  have e : g = s.heap.get? := funext h
  rw [e] <;> rfl
/-- what a walk leans on -/
structure Tp (hd : HD) (fn : List He.DefD) (K : PySem.W.Frag) (mg : Str → Option Value) : Prop where
  ex : ∃ h : Heap, K.In h ∧ h.Ns mainGlobals mg
  c : SaysX hd fn K
section
variable {hd : HD} {fn : List He.DefD} {K : PySem.W.Frag} {mg : Str → Option Value}
theorem Tp.ok (T : Tp hd fn K mg) : hd.ok K = true := (He.ba (show (hd.ok K && fn.all fun d => d.ok K) = true from congrArg (fun z : He.AlD => z.1) T.c)).1
theorem Tp.def_ (T : Tp hd fn K mg) (i : Nat) {d : He.DefD} (h : fn[i]? = some d := by rfl) : ∃ fd, FunD K d.name d.qual d.params d.body d.scope (d.dvs K) (d.kws K) (He.fAd K d.at_) fd := by
  have c2 := (He.ba (show (hd.ok K && fn.all fun d => d.ok K) = true from congrArg (fun z : He.AlD => z.1) T.c)).2
  have e : fn.map (fun d => He.fnW K d.at_) = fn.map He.DefD.val := congrArg (fun z : He.AlD => z.2) T.c
  have e2 : (fn.map fun d => He.fnW K d.at_)[i]? = (fn.map He.DefD.val)[i]? := by rw [e]
  rw [List.getElem?_map, List.getElem?_map, h] at e2
  exact He.DefD.funD (Option.some.inj e2) (List.all_eq_true.mp c2 d (List.mem_of_getElem? h))
theorem Tp.glo (T : Tp hd fn K mg) (i : Nat) {x : Str} (h : hd.gl[i]? = some x := by rfl) : mg x = some (.ref (He.ga K x)) := by
  obtain ⟨h', X, G⟩ := T.ex
  exact He.glo_ok X G (List.all_eq_true.mp (He.ba T.ok).1 x (List.mem_of_getElem? h))
theorem Tp.free (T : Tp hd fn K mg) (i : Nat) {x : Str} (h : hd.fr[i]? = some x := by rfl) : mg x = none := by
  obtain ⟨h', X, G⟩ := T.ex
  exact He.free_ok X G (List.all_eq_true.mp (He.ba (He.ba T.ok).2).1 x (List.mem_of_getElem? h))
theorem Tp.bi (T : Tp hd fn K mg) (i : Nat) {x : Str} {z : String} (h : hd.bi[i]? = some (x, z) := by rfl) : mg x = some (.builtin z) := by
  obtain ⟨h', X, G⟩ := T.ex
  exact PySem.W.mg_of X G (of_decide_eq_true (List.all_eq_true.mp (He.ba (He.ba (He.ba T.ok).2).2).1 _ (List.mem_of_getElem? h)))
theorem Tp.int (T : Tp hd fn K mg) (i : Nat) {x : Str} {z : Int} (h : hd.cn[i]? = some (x, z) := by rfl) : ∃ t, mg x = some (.int z t) := by
  obtain ⟨h', X, G⟩ := T.ex
  exact He.int_ok X G (List.all_eq_true.mp (He.ba (He.ba (He.ba (He.ba T.ok).2).2).2).1 _ (List.mem_of_getElem? h))
theorem Tp.excB (T : Tp hd fn K mg) {x : Str} (h : x ∈ hd.ex) : DL.excB K x = true := List.all_eq_true.mp (He.ba (He.ba (He.ba (He.ba (He.ba T.ok).2).2).2).2).1 x h
theorem Tp.sub (T : Tp hd fn K mg) {x y : Str} (h : x ∈ hd.ex) (h2 : y ∈ hd.ex) : PySem.W.exmOne K (.ref (He.ga K x)) (.ref (He.ga K y)) = some (hd.sub x y) ∧ PySem.W.kitOne K (.ref (He.ga K x)) (.ref (He.ga K y)) = some (hd.sub x y) := by
  have z := List.all_eq_true.mp (List.all_eq_true.mp (He.ba (He.ba (He.ba (He.ba (He.ba T.ok).2).2).2).2).2 x h) y h2
  obtain ⟨z1, z2⟩ := He.ba z
  exact ⟨of_decide_eq_true z1, of_decide_eq_true z2⟩
theorem Tp.exc (T : Tp hd fn K mg) {x : Str} (h : x ∈ hd.ex) : PySem.W.excIn K (He.ga K x) He.veBase "ValueError.__new__" = true ∧ PySem.W.keepIn K (.ref (He.ga K x)) = true ∧ PySem.W.subIn K (.ref (He.ga K x)) (.type "BaseException") = some true ∧ PySem.W.typeIn K (.ref (He.ga K x)) = some (.type "type") :=
  He.exc_ok (He.ba (T.excB h)).1
theorem Tp.excC (T : Tp hd fn K mg) {x : Str} (h : x ∈ hd.ex) : ExcC K (He.ga K x) := by
  have z := T.excB h
  obtain ⟨z1, z⟩ := He.ba z
  obtain ⟨z2, z⟩ := He.ba z
  obtain ⟨z3, z⟩ := He.ba z
  obtain ⟨z4, z⟩ := He.ba z
  obtain ⟨z5, z⟩ := He.ba z
  obtain ⟨z6, z⟩ := He.ba z
  obtain ⟨z7, z⟩ := He.ba z
  obtain ⟨z8, z⟩ := He.ba z
  exact ⟨of_decide_eq_true z2, of_decide_eq_true z3, (T.exc h).2.2.1, z4, of_decide_eq_true z5, of_decide_eq_true z6, of_decide_eq_true z7, of_decide_eq_true z8⟩
theorem Tp.excVE (T : Tp hd fn K mg) {x : Str} (h : x ∈ hd.ex) : PySem.W.kitOne K (.ref (He.ga K x)) (.type "ValueError") = some true := by
  have z := T.excB h
  obtain ⟨z1, z⟩ := He.ba z
  obtain ⟨z2, z⟩ := He.ba z
  obtain ⟨z3, z⟩ := He.ba z
  obtain ⟨z4, z⟩ := He.ba z
  obtain ⟨z5, z⟩ := He.ba z
  obtain ⟨z6, z⟩ := He.ba z
  obtain ⟨z7, z⟩ := He.ba z
  obtain ⟨z8, z⟩ := He.ba z
  exact of_decide_eq_true z
end
/-! ### a def's mirror by its body's denotation -/
def auto (n m : Nat) (wb : SD) (ds : List D) : R O := if ds.length = n then runB wb (startD m ds) else .bad
theorem gfn {P : Program} {w : World} {K : PySem.W.Frag} {mg : Str → Option Value} {base : Heap} {hd : HD} {fn : List He.DefD} {d : He.DefD} {N ps : List Str} {k : Nat} {wb : SD} (T : Tp hd fn K mg) (i j : Nat) {x : Str} (hi : fn[i]? = some d) (hj : hd.gl[j]? = some x) (hat : d.at_ = (x, none)) (hdf : d.dfl = []) (hkw : d.kwd = []) (S : FnScope N ps d.scope)
    (hb : ∀ (kV doc pm : Value) (an : Option Addr) (cdv ct : Value) (us : List Value), us.length = ps.length → bindArgs (PySem.W.fnOf d.name d.qual d.params d.body d.scope .none kV doc pm an cdv ct) ⟨us, []⟩ = pure (ps.zip us))
    (hbody : ∀ (f : Addr) (cdv : Value) (A : Around) (outer : List Env) (s : Shared) (H : Hp) (E : XK) (B : Bd), Fre B → Room k (A.deeper (envOfC d.qual d.scope s.heap.objs.size f cdv)) → Cd (cxOf (L2.CX P w) P w K mg base N d.qual d.scope f cdv A outer s H E) (WE0 E) →
      DSs (cxOf (L2.CX P w) P w K mg base N d.qual d.scope f cdv A outer s H E) B (WE0 E) d.body wb) : GFn P w K mg base x (k + 1) (auto ps.length N.length wb) := by
  obtain ⟨fd, F⟩ := T.def_ i hi
  have e1 : d.dvs K = [] := by unfold He.DefD.dvs; rw [hdf]; rfl
  have e2 : d.kws K = [] := by unfold He.DefD.kws; rw [hkw]; rfl
  rw [e1, e2, hat] at F
  refine ⟨_, fd, ps, T.glo j hj, F.kp, F.bindsN hb, fn_ok F S (fun cdv A outer s H E B hB hr cd => hbody _ cdv A outer s H E B hB hr cd) (fun ds hl => .inr ?_), fun ds h => ?_⟩
  · unfold auto
    rw [if_pos hl]
  · unfold auto at h
    split at h
    · assumption
    · exact absurd rfl h
/-- the law's end -/
theorem law_end {l : PySem.W.OpenLaw} {q : Program} {loose : List Str} {XP : (Str → Option Value) → Heap → Prop} {d : DefRec} {hd : HD} {fn : List He.DefD} {dd : He.DefD} {N : List Str} {k i j : Nat} {wb : SD} {x : Str}
    (hn : l.most = some 63) (hdf : d.params.defaults = []) (hr : Room (k + 1) callerA) (hname : d.name = x) (hi : fn[i]? = some dd) (hj : hd.gl[j]? = some x) (hat : dd.at_ = (x, none)) (hdf2 : dd.dfl = []) (hkw : dd.kwd = []) (S : FnScope N ["script"] dd.scope)
    (hb : ∀ (kV doc pm : Value) (an : Option Addr) (cdv ct : Value) (us : List Value), us.length = 1 → bindArgs (PySem.W.fnOf dd.name dd.qual dd.params dd.body dd.scope .none kV doc pm an cdv ct) ⟨us, []⟩ = pure ((["script"] : List Str).zip us))
    (hbody : ∀ (w : World) (K : PySem.W.Frag) (mg : Str → Option Value) (base : Heap), Tp hd fn K mg → ∀ (f : Addr) (cdv : Value) (A : Around) (outer : List Env) (s : Shared) (H : Hp) (E : XK) (B : Bd), Fre B → Room k (A.deeper (envOfC dd.qual dd.scope s.heap.objs.size f cdv)) → Cd (cxOf (L2.CX l.prog w) l.prog w K mg base N dd.qual dd.scope f cdv A outer s H E) (WE0 E) →
      DSs (cxOf (L2.CX l.prog w) l.prog w K mg base N dd.qual dd.scope f cdv A outer s H E) B (WE0 E) dd.body wb)
    (law : ∀ ns : List Int, ns.length ≤ 63 → (∀ z ∈ ns, Builtin.Int.intBits z ≤ 1048576) → runB wb (startD N.length [.scr ns]) = .ok (.per (.bl true))) :
    PySem.W.WalkO q loose XP (fun w h => ∃ K : PySem.W.Frag, K.In h ∧ SaysX hd fn K) l.row.toRowW d [] (fun f vs => PySem.call f vs) := by
  refine Att.attach_callB hn hdf fun w s₀ s₁ mg mb fa o pm cd doc a vs ns G Y ho hd' hcd hmg hobj hints hlen hbits hg => ?_
  obtain ⟨K, KX, c⟩ := Y
  have T : Tp hd fn K mg := ⟨⟨_, KX, G.T.g⟩, c⟩
  obtain ⟨fd, F⟩ := T.def_ i hi
  have e1 : dd.dvs K = [] := by unfold He.DefD.dvs; rw [hdf2]; rfl
  have e2 : dd.kws K = [] := by unfold He.DefD.kws; rw [hkw]; rfl
  rw [e1, e2, hat] at F
  rw [hname] at hmg
  have e := hmg.symm.trans (T.glo j hj)
  cases e
  refine law_call (sp := spD K mg 1 fun ds => match ds with | [.scr ns] => if ns.length ≤ 63 ∧ (∀ z ∈ ns, Builtin.Int.intBits z ≤ 1048576) then .ok (.per (.bl true)) else .bad | _ => .bad) KX G.T.g G.T.b G.T.builtins G.T.nolimit hg hobj hints (Nat.le_trans hlen (by decide)) hr (fun base _ _ => fn_ok F S (fun cdv A outer s H E B hB hr cd => hbody w K mg base T _ cdv A outer s H E B hB hr cd) fun ds hl => ?_) (fun s u => FunD.bindsA (ps := ["script"]) F hb s [u] rfl) (fun H hO hS => ?_) fun H e s' => ?_
  · match ds, hl with
    | [.scr ns], _ =>
      by_cases hc : ns.length ≤ 63 ∧ (∀ z ∈ ns, Builtin.Int.intBits z ≤ 1048576)
      · right
        rw [law ns hc.1 hc.2]
        simp only
        rw [if_pos hc]
      · left
        simp only
        rw [if_neg hc]
    | [.non], _ => exact .inl rfl
    | [.bl _], _ => exact .inl rfl
    | [.int _], _ => exact .inl rfl
    | [.str _], _ => exact .inl rfl
    | [.lst _], _ => exact .inl rfl
    | [.tup _], _ => exact .inl rfl
    | [.dT _], _ => exact .inl rfl
    | [.dK _], _ => exact .inl rfl
    | [.obj _ _], _ => exact .inl rfl
  · refine ⟨H, [.scr ns], rfl, Same.refl _, .one (by simp only [Dat]; exact ⟨a, rfl, hS⟩), ?_⟩
    simp only
    rw [if_pos ⟨hlen, hbits⟩]
    intro F' own' H' v _ r
    simpa only [Rep, Dat] using r
  · rintro ⟨_, _, _, _, _, _, _, _, _, _, _, _, z⟩
    exact z
end DL

namespace DL
open PySem PySem.Spec PyProof.Rows L2
section
variable {X : Cx} {B : Bd} {W : WX} {e a b c : Expr} {w wa wb : ED} {p p' pos : Pos} {x : Str}
theorem PE.or {t t' : TE} (h : PE X e t) (h' : PE X e t') : PE X e (fun σ H Q => t σ H Q ∨ t' σ H Q) := ⟨fun pins s σ H Q I q => by
  rcases q with q | q
  · exact h.run pins s σ H Q I q
  · exact h'.run pins s σ H Q I q⟩
/-- two readings of one expression, told apart by the data -/
theorem de_or2 {w1 w2 w : ED} (h1 : DE X B W e w1) (h2 : DE X B W e w2) (h : ∀ s, w s = .bad ∨ w s = w1 s ∨ w s = w2 s) : DE X B W e w :=
  peImp (PE.or h1 h2) fun σ H Q ⟨F, own, s, S, q⟩ => by
    rcases h s with z | z | z
    · rw [z] at q; exact q.elim
    · rw [z] at q; exact .inl ⟨F, own, s, S, q⟩
    · rw [z] at q; exact .inr ⟨F, own, s, S, q⟩
theorem d2_or {f f1 f2 : D → D → Option D} (h : ∀ x y, f x y = none ∨ f x y = f1 x y ∨ f x y = f2 x y) (s : DSt) : d2 f wa wb s = .bad ∨ d2 f wa wb s = d2 f1 wa wb s ∨ d2 f wa wb s = d2 f2 wa wb s := by
  unfold d2
  cases wa s with
  | exc c => exact .inr (.inl rfl)
  | bad => exact .inl rfl
  | ok x =>
    simp only [R.bind]
    cases wb s with
    | exc c => exact .inr (.inl rfl)
    | bad => exact .inl rfl
    | ok y =>
      simp only [R.bind]
      rcases h x y with z | z | z
      · exact .inl (by rw [z]; rfl)
      · exact .inr (.inl (by rw [z]))
      · exact .inr (.inr (by rw [z]))
theorem f2_d2 {f : D → D → Option D} : f2 f wa wb = d2 f wa wb := rfl
theorem f2_map {f : D → D → Option O} : (fun s => (f2 f wa wb s).map O.toD) = d2 (fun x y => (f x y).map O.toD) wa wb := by
  funext s
  unfold f2 d2
  cases wa s with
  | exc c => rfl
  | bad => rfl
  | ok x =>
    simp only [R.bind]
    cases wb s with
    | exc c => rfl
    | bad => rfl
    | ok y =>
      simp only [R.bind]
      cases f x y <;> rfl
/-- an owned result as a datum -/
def dDe (w : EO) : ED := fun s => (w s).map O.toD
/-- + of ints, of tuples, of lists (a new list, persistent) -/
def addD : D → D → Option D
  | .int i, .int j => some (.int (i + j))
  | .tup xs, .tup ys => catT (.tup xs) (.tup ys)
  | .lst xs, .lst ys => (catL (.lst xs) (.lst ys)).map O.toD
  | _, _ => none
theorem de_addA (ha : DE X B W a wa) (hb : DE X B W b wb) : DE X B W (.BinOp a .Add b pos) (d2 addD wa wb) :=
  de_or2 (de_or2 (de_add ha hb) (de_catT ha hb) (d2_or (f := fun x y => match x, y with | .lst _, .lst _ => none | x, y => addD x y) fun x y => by
    cases x <;> cases y <;> first | exact .inl rfl | exact .inr (.inl rfl) | exact .inr (.inr rfl))) (f2_map (f := catL) (wa := wa) (wb := wb) ▸ (do_cat ha.dp hb.dp).de) (d2_or fun x y => by
    cases x <;> cases y <;> first | exact .inl rfl | exact .inr (.inl rfl) | exact .inr (.inr rfl))
/-- * of ints, of a list and an int -/
def mulD : D → D → Option D
  | .int i, .int j => mulI i j
  | .lst xs, .int j => (repL (.lst xs) (.int j)).map O.toD
  | _, _ => none
theorem de_mulA (ha : DE X B W a wa) (hb : DE X B W b wb) : DE X B W (.BinOp a .Mult b pos) (d2 mulD wa wb) :=
  de_or2 (de_mul ha hb) (f2_map (f := repL) (wa := wa) (wb := wb) ▸ (do_rep ha.dp hb).de) (d2_or fun x y => by
    cases x <;> cases y <;> first | exact .inl rfl | exact .inr (.inl rfl) | exact .inr (.inr rfl))
/-- xs[lo:hi] of a list (a new one, persistent), of a tuple -/
def slD (x : D) (lo hi : Option Int) : Option D := match x with
  | .tup _ => slT x lo hi
  | _ => (slL x lo hi).map O.toD
theorem de_slA {lo hi : Option Expr} {wl wh : DSt → R (Option Int)} {p2 : Pos} (he : DP X B W e w) (hl : DN X B W lo wl) (hh : DN X B W hi wh) : DE X B W (.Subscript e (.Slice lo hi none p2) pos) (f3 slD w wl wh) :=
  de_or2 (do_slL he hl hh).de (de_slT he hl hh) fun s => by
    unfold f3
    cases w s with
    | exc c => exact .inr (.inl rfl)
    | bad => exact .inl rfl
    | ok x =>
      simp only [R.bind]
      cases wl s with
      | exc c => exact .inr (.inl rfl)
      | bad => exact .inl rfl
      | ok y =>
        simp only [R.bind]
        cases wh s with
        | exc c => exact .inr (.inl rfl)
        | bad => exact .inl rfl
        | ok t =>
          simp only [R.bind]
          cases x <;> first | exact .inr (.inr rfl) | (right; left; unfold slD; simp only; cases slL _ y t <;> rfl)
/-- a module's constant -/
theorem de_cst {i : Int} (hg : Gl X x) (hm : ∃ t, X.mg x = some (.int i t)) (hd : (x == ("__debug__" : Str)) = false := by decide) : DE X B W (.Name x pos) (dC (.int i)) := by
  obtain ⟨t, hm⟩ := hm
  exact peImp (pe_glob (v := .int i) hg hm ⟨t, rfl⟩ hd) fun σ H Q ⟨F, own, s, S, q⟩ => q F own H _ (Same.refl _) (Same.refl _) S (sca_int _ _ _)
end
theorem cv_ty (n : String) : ∀ u, RelV (.ty n) u → u = .type n := fun u h => h
theorem cv_ref (a : Addr) : ∀ u, RelV (.ref a) u → u = .ref a := fun u h => h
theorem boot_ValueError : bootBuiltins "ValueError" = some (.type "ValueError") := by decide +kernel
section
variable {hd : HD} {fn : List He.DefD} {K : PySem.W.Frag} {mg : Str → Option Value}
theorem Tp.glex (T : Tp hd fn K mg) (all : ∀ c ∈ hd.ex, c ∈ hd.gl) {c : Str} (h : c ∈ hd.ex) : mg c = some (.ref (He.ga K c)) := by
  obtain ⟨i, e⟩ := List.mem_iff_getElem?.mp (all c h)
  exact T.glo i e
theorem exm_of (T : Tp hd fn K mg) (all : ∀ c ∈ hd.ex, c ∈ hd.gl) {y : Str} (hy : y ∈ hd.ex) : ∀ c ∈ hd.ex, ∀ C, mg c = some (.ref C) → PySem.W.exmOne K (.ref C) (.ref (He.ga K y)) = some (hd.sub c y) := fun c hc C hm => by
  cases hm.symm.trans (T.glex all hc)
  exact (T.sub hc hy).1
end
end DL

namespace DL
open PySem PySem.Spec PyProof.Rows L2
section
variable {X : Cx} {B : Bd} {W : WX} {e a b c tg iter : Expr} {es : List Expr} {w wa wb : ED} {p p' pos : Pos} {α β : Type} {K : PySem.W.Frag} {mg : Str → Option Value}
/-! ### xs[::-1] of a list -/
def revO : D → Option O
  | .lst ds => some (.l ds.reverse)
  | .scr ns => some (.l (ns.reverse.map .int))
  | _ => none
theorem do_rev {k : Nat} {p1 p2 p3 : Pos} (he : DP X B W e w) : DO X B W (.Subscript e (.Slice none none (some (.UnaryOp .USub (.Constant (.int 1) k p1) p2)) p3) pos) (f1 revO w) :=
  peImp (pe_revL he) fun σ H Q h => t1 (ra := rP X.K X.mg) (ro := rO X.K X.mg) (r := fun (x : V) H1 (Q : VK) => ∃ a xs, x = .ref a ∧ SqL X.K H1 a xs ∧ ∀ p, H1 p = none → Q (.ref p) (upd H1 p (.lst xs.reverse))) (fun F own s σ H x v z Q S dx hz q => by
    cases x with
    | lst ds =>
      cases hz
      obtain ⟨p, xs, h1, h2, h3⟩ := dx
      exact ⟨p, xs, h1, .of h2, fun p hp => q.layO S hp (rep_l h3.reverse)⟩
    | scr ns =>
      cases hz
      have dx : Dat X.K X.mg F (.scr ns) v := dx
      simp only [Dat] at dx
      obtain ⟨p, h1, h2⟩ := dx
      refine ⟨p, _, h1, S.f.seq h2, fun p hp => q.layO S hp (rep_l ?_)⟩
      rw [← List.map_reverse]
      exact datL_ints _
    | _ => cases hz) h
/-! ### is True, is False: of bools -/
def isBB : D → D → Option D
  | .bl x, .bl y => some (.bl (decide (x = y)))
  | _, _ => none
def isntBB : D → D → Option D
  | .bl x, .bl y => some (.bl (!decide (x = y)))
  | _, _ => none
theorem isBB_some {x y z : D} (h : isBB x y = some z) : ∃ i j, x = .bl i ∧ y = .bl j ∧ z = .bl (decide (i = j)) := by
  cases x with
  | bl i =>
    cases y with
    | bl j => cases h; exact ⟨i, j, rfl, rfl, rfl⟩
    | _ => cases h
  | _ => cases h
theorem isntBB_some {x y z : D} (h : isntBB x y = some z) : ∃ i j, x = .bl i ∧ y = .bl j ∧ z = .bl (!decide (i = j)) := by
  cases x with
  | bl i =>
    cases y with
    | bl j => cases h; exact ⟨i, j, rfl, rfl, rfl⟩
    | _ => cases h
  | _ => cases h
theorem de_isB (ha : DE X B W a wa) (hb : DE X B W b wb) (hm : behindInMarks .Is b = false := by rfl) : DE X B W (.Compare a [.Is] [b] pos) (d2 isBB wa wb) :=
  peImp (pe_cmpR op_is_bl ha hb hm) fun σ H Q h => t2_sca keepD (fun F own H x y v u z e dx dy hz => by
    obtain ⟨i, j, rfl, rfl, rfl⟩ := isBB_some hz
    exact ⟨_, sca_bl, fun Q q => ⟨i, j, by simpa [rD, Dat] using dx, by simpa [rD, Dat] using dy, q⟩⟩) h
theorem de_isntB (ha : DE X B W a wa) (hb : DE X B W b wb) (hm : behindInMarks .IsNot b = false := by rfl) : DE X B W (.Compare a [.IsNot] [b] pos) (d2 isntBB wa wb) :=
  peImp (pe_cmpR op_isnot_bl ha hb hm) fun σ H Q h => t2_sca keepD (fun F own H x y v u z e dx dy hz => by
    obtain ⟨i, j, rfl, rfl, rfl⟩ := isntBB_some hz
    exact ⟨_, sca_bl, fun Q q => ⟨i, j, by simpa [rD, Dat] using dx, by simpa [rD, Dat] using dy, q⟩⟩) h
theorem dt_isB (ha : DE X B W a wa) (hb : DE X B W b wb) (hm : behindInMarks .Is b = false := by rfl) : DT X B W (.Compare a [.Is] [b] pos) (asB (d2 isBB wa wb)) :=
  ptImp (pt_cmpR op_is_bl ha hb hm) fun σ H Q h => asB_core h |> fun h => t2_sca keepD (fun F own H x y v u z e dx dy hz => by
    obtain ⟨i, j, rfl, rfl, rfl⟩ := isBB_some hz
    exact ⟨_, sca_bl, fun Q q => ⟨i, j, by simpa [rD, Dat] using dx, by simpa [rD, Dat] using dy, q⟩⟩) h
theorem dt_isntB (ha : DE X B W a wa) (hb : DE X B W b wb) (hm : behindInMarks .IsNot b = false := by rfl) : DT X B W (.Compare a [.IsNot] [b] pos) (asB (d2 isntBB wa wb)) :=
  ptImp (pt_cmpR op_isnot_bl ha hb hm) fun σ H Q h => asB_core h |> fun h => t2_sca keepD (fun F own H x y v u z e dx dy hz => by
    obtain ⟨i, j, rfl, rfl, rfl⟩ := isntBB_some hz
    exact ⟨_, sca_bl, fun Q q => ⟨i, j, by simpa [rD, Dat] using dx, by simpa [rD, Dat] using dy, q⟩⟩) h
/-! ### range(i, j, c) -/
def rng3L (i j c : Int) : List Int := (List.range (Builtin.Range.rangeSize i j c).toNat).map fun (k : Nat) => i + k * c
def rng3C (i j c : Int) : Bool := decide (c ≠ 0) && (decide (c.natAbs < 1073741824) && Builtin.Range.small i j c)
def rng3 : List D → Option (List D)
  | [.int i, .int j, .int c] => if rng3C i j c = true then some ((rng3L i j c).map .int) else none
  | _ => none
theorem rng3_some {x ds : List D} (h : rng3 x = some ds) : ∃ i j c, x = [.int i, .int j, .int c] ∧ rng3C i j c = true ∧ ds = (rng3L i j c).map .int := by
  match x, h with
  | [.int i, .int j, .int c], h =>
    simp only [rng3] at h
    split at h
    · rename_i hb
      cases h
      exact ⟨i, j, c, rfl, hb, rfl⟩
    · cases h
theorem rangeSize_nn (i j c : Int) (hc : c ≠ 0) : 0 ≤ Builtin.Range.rangeSize i j c := by
  unfold Builtin.Range.rangeSize
  split
  · split
    · have := Int.ediv_nonneg (a := j - i - 1) (b := c) (by omega) (by omega)
      omega
    · exact Int.le_refl _
  · split
    · have := Int.ediv_nonneg (a := i - j - 1) (b := -c) (by omega) (by omega)
      omega
    · exact Int.le_refl _
theorem wlk_rangeC {F : Hp} {lo c : Int} {n : Nat} : Wlk K mg F (Itc lo c n) (((List.range n).map fun (k : Nat) => lo + k * c).map D.int) := by
  refine Wlk.of (G := fun _ => True) (Y := YFn fun i => .int (lo + (i : Nat) * c)) (by simpa using walk_rangeC) (fun _ _ _ _ => trivial) fun i H x H' d hy hd => ⟨hy.1, ?_⟩
  simp only [List.map_map, List.getElem?_map, Option.map_eq_some_iff] at hd
  obtain ⟨k, h1, rfl⟩ := hd
  have hk : k = i := by
    by_cases hi : i < n
    · rw [List.getElem?_range hi] at h1
      exact (Option.some.inj h1).symm
    · rw [List.getElem?_eq_none (by simpa using hi)] at h1
      cases h1
  subst hk
  rw [hy.2]
  exact sca_int _ _ _
theorem di_range3 (hg : Gl X "range") (hm : X.mg "range" = none) {ws : DSt → R (List D)} (ha : DA X B W [a, b, c] ws) (na : NS a := by intro _ _; rfl) (nb : NS b := by intro _ _; rfl) (nc : NS c := by intro _ _; rfl) : DI X B W tg (.Call (.Name "range" p) [a, b, c] [] pos) (f1 rng3 ws) :=
  piImp (pi_range3 hg hm ha (na X.env [b, c]) (nb.pl2 nc _ _)) fun σ H Ro h => tI_of (rl := rL X.K X.mg) (r := fun vs H Ro => ∃ (i j c : Int) (n : Nat), vs = [.int i, .int j, .int c] ∧ RgC i j c n ∧ Ro (Itc i c n) H) (fun F own s σ H x v ds Ro S dx hf q => by
    obtain ⟨i, j, c, rfl, hb, rfl⟩ := rng3_some hf
    have dx : DatL X.K X.mg F [.int i, .int j, .int c] v := dx
    simp only [DatL, Dat] at dx
    obtain ⟨v1, r1, rfl, rfl, v2, r2, rfl, rfl, v3, r3, rfl, rfl, rfl⟩ := dx
    unfold rng3C at hb
    simp only [Bool.and_eq_true, decide_eq_true_eq] at hb
    exact ⟨i, j, c, _, rfl, ⟨hb.1, hb.2.1, hb.2.2, (Int.toNat_of_nonneg (rangeSize_nn i j c hb.1)).symm⟩, q F own H _ (Same.refl _) (Same.refl _) S wlk_rangeC⟩) h
/-! ### reversed -/
def revS : D → Option (List D)
  | .lst ds => some ds.reverse
  | .tup ds => some ds.reverse
  | .scr ns => some (ns.reverse.map .int)
  | _ => none
theorem get_rev {γ : Type} {xs : List γ} {i : Nat} (hi : i < xs.length) : xs.reverse[i]? = xs[xs.length - 1 - i]? := by rw [List.getElem?_reverse hi]
theorem wlk_revL {F : Hp} {a : Addr} {xs : List V} {ds : List D} (h : SqL K F a xs) (d : DatL K mg F ds xs) : Wlk K mg F (Itv K a xs.length) ds.reverse := by
  have hl := d.length
  refine Wlk.of (G := fun H => SqL K H a xs) (Y := fun i H x H' => H' = H ∧ xs[xs.length - 1 - i]? = some x) (by rw [List.length_reverse, ← hl]; exact walk_rev) (fun H F1 e1 e2 => e2.seq (e1.seq h)) fun i H x H' d' hy hd => ⟨hy.1, ?_⟩
  have hi : i < xs.reverse.length := by
    have z := (List.getElem?_eq_some_iff.mp hd).1
    simpa [hl] using z
  obtain ⟨v, q1, q2⟩ := d.reverse.get hd
  rw [get_rev (by simpa using hi)] at q1
  rw [hy.2] at q1
  cases q1
  exact q2
theorem wlk_revT {F : Hp} {a : Addr} {xs : List V} {ds : List D} (h : SqT K F a xs) (d : DatL K mg F ds xs) : Wlk K mg F (RT.ItvT K a xs.length) ds.reverse := by
  have hl := d.length
  refine Wlk.of (G := fun H => SqT K H a xs) (Y := fun i H x H' => H' = H ∧ xs[xs.length - 1 - i]? = some x) ⟨fun i _ hi q => ⟨by simpa [hl] using hi, xs, xs[xs.length - 1 - i]'(by simp at hi; omega), q, by rw [List.getElem?_eq_getElem]⟩, fun _ _ => by rw [List.length_reverse, ← hl]; exact Nat.le_refl _, fun _ _ _ _ _ q y => ⟨y.1, y.2 xs q⟩⟩ (fun H F1 e1 e2 => sqT_same e2 (sqT_same e1 h)) fun i H x H' d' hy hd => ⟨hy.1, ?_⟩
  have hi : i < xs.reverse.length := by
    have z := (List.getElem?_eq_some_iff.mp hd).1
    simpa [hl] using z
  obtain ⟨v, q1, q2⟩ := d.reverse.get hd
  rw [get_rev (by simpa using hi)] at q1
  rw [hy.2] at q1
  cases q1
  exact q2
theorem di_rev (hg : Gl X "reversed") (hm : X.mg "reversed" = none) (ha : DE X B W a wa) (na : NS a := by intro _ _; rfl) : DI X B W tg (.Call (.Name "reversed" p) [a] [] pos) (f1 revS wa) :=
  piImp (RT.pi_revA hg hm ha (na _ _)) fun σ H Ro h => tI_of (rl := rD X.K X.mg) (r := fun v H Ro => ∃ (a : Addr) (xs : List V), v = .ref a ∧ ((SqL X.K H a xs ∧ Ro (Itv X.K a xs.length) H) ∨ (SqT X.K H a xs ∧ Ro (RT.ItvT X.K a xs.length) H))) (fun F own s σ H x v ds Ro S dx hf q => by
    cases x with
    | lst es =>
      cases hf
      have dx : Dat X.K X.mg F (.lst es) v := dx
      simp only [Dat] at dx
      obtain ⟨a, xs, rfl, h2, h3⟩ := dx
      exact ⟨a, xs, rfl, .inl ⟨.of (S.f _ _ h2), q F own H _ (Same.refl _) (Same.refl _) S (wlk_revL (.of h2) h3)⟩⟩
    | scr ns =>
      cases hf
      have dx : Dat X.K X.mg F (.scr ns) v := dx
      simp only [Dat] at dx
      obtain ⟨a, rfl, h2⟩ := dx
      exact ⟨a, _, rfl, .inl ⟨S.f.seq h2, q F own H _ (Same.refl _) (Same.refl _) S (by
        have z := wlk_revL (mg := X.mg) h2 (datL_ints ns)
        rw [← List.map_reverse] at z
        exact z)⟩⟩
    | tup es =>
      cases hf
      have dx : Dat X.K X.mg F (.tup es) v := dx
      simp only [Dat] at dx
      obtain ⟨a, xs, rfl, h2, h3⟩ := dx
      exact ⟨a, xs, rfl, .inr ⟨sqT_same S.f h2, q F own H _ (Same.refl _) (Same.refl _) S (wlk_revT h2 h3)⟩⟩
    | _ => cases hf) h
/-! ### enumerate, zip -/
theorem Wlk.pair {F : Hp} {J : It} {ds : List D} {G : Hp → Prop} {fx fy : Nat → Option V} (wk : L2.Walk J ds.length G (YPair fx fy)) (hG : ∀ H F1, Same F F1 → Same F1 H → G H)
    (hd : ∀ i d, ds[i]? = some d → ∃ dx dy, d = .tup [dx, dy] ∧ ∀ x y, fx i = some x → fy i = some y → Dat K mg F dx x ∧ Dat K mg F dy y) : Wlk K mg F J ds where
  go := fun i _ F1 own s σ H e S hi => wk.goes i H hi (hG H F1 e S.f)
  stop := fun _ F1 own s σ H e S => wk.stops H (hG H F1 e S.f)
  yld := fun i _ F1 own s σ H x H' d e S hdi hy => by
    have hi : i < ds.length := (List.getElem?_eq_some_iff.mp hdi).1
    obtain ⟨T, x1, x2, rfl, hT, rfl, h1, h2⟩ := wk.yields i H x H' hi (hG H F1 e S.f) hy
    obtain ⟨dx, dy, rfl, q⟩ := hd i d hdi
    obtain ⟨q1, q2⟩ := q x1 x2 h1 h2
    obtain ⟨S2, e2, e3⟩ := S.lay (ob := .tup [x1, x2]) hT
    refine ⟨_, e2, e3, S2, ?_⟩
    simp only [Dat]
    exact ⟨T, [x1, x2], rfl, .of upd_same, .cons (Dat.same (e.trans e2) _ _ q1) (.one (Dat.same (e.trans e2) _ _ q2))⟩
def enumL (ds : List D) : List D := (ds.zipIdx).map fun q => .tup [.int (q.2 : Nat), q.1]
def enumD : D → Option (List D)
  | .lst ds => some (enumL ds)
  | .scr ns => some (enumL (ns.map .int))
  | _ => none
theorem enumL_get {ds : List D} {i : Nat} {d : D} (h : (enumL ds)[i]? = some d) : ∃ x, ds[i]? = some x ∧ d = .tup [.int (i : Nat), x] := by
  unfold enumL at h
  rw [List.getElem?_map, List.getElem?_zipIdx] at h
  cases q : ds[i]? with
  | none => rw [q] at h; cases h
  | some x =>
    rw [q] at h
    simp only [Option.map_some, Nat.zero_add] at h
    cases h
    exact ⟨x, rfl, rfl⟩
theorem wlk_enum {F : Hp} {a : Addr} {xs : List V} {ds : List D} (h : SqL K F a xs) (d : DatL K mg F ds xs) : Wlk K mg F (Ite K a) (enumL ds) := by
  have hl : (enumL ds).length = xs.length := by rw [d.length]; unfold enumL; simp
  refine Wlk.pair (G := fun H => SqL K H a xs) (fx := fun i => some (.int (i : Nat))) (fy := fun i => xs[i]?) (hl ▸ walk_enum) (fun H F1 e1 e2 => e2.seq (e1.seq h)) fun i d' hd => ?_
  obtain ⟨x, q1, rfl⟩ := enumL_get hd
  refine ⟨_, _, rfl, fun u v hu hv => ?_⟩
  cases hu
  obtain ⟨w, q2, q3⟩ := d.get q1
  rw [q2] at hv
  cases hv
  exact ⟨sca_int _ _ _, q3⟩
theorem di_enum {elts : List Expr} {kk : Nat} {tpos : Pos} (hg : Gl X "enumerate") (hm : X.mg "enumerate" = none) (ha : DE X B W a wa) (na : NS a := by intro _ _; rfl) : DI X B W (.Tuple elts kk tpos) (.Call (.Name "enumerate" p) [a] [] pos) (f1 enumD wa) :=
  piImp (pi_enum hg hm (pa_cons ha pa_nil (na _ _)) (na _ _)) fun σ H Ro h => tI_of (rl := rD X.K X.mg) (r := fun v H Ro => ∃ a xs, [v] = [V.ref a] ∧ SqL X.K H a xs ∧ Ro (Ite X.K a) H) (fun F own s σ H x v ds Ro S dx hf q => by
    cases x with
    | lst es =>
      cases hf
      have dx : Dat X.K X.mg F (.lst es) v := dx
      simp only [Dat] at dx
      obtain ⟨a, xs, rfl, h2, h3⟩ := dx
      exact ⟨a, xs, rfl, .of (S.f _ _ h2), q F own H _ (Same.refl _) (Same.refl _) S (wlk_enum (.of h2) h3)⟩
    | scr ns =>
      cases hf
      have dx : Dat X.K X.mg F (.scr ns) v := dx
      simp only [Dat] at dx
      obtain ⟨a, rfl, h2⟩ := dx
      exact ⟨a, _, rfl, S.f.seq h2, q F own H _ (Same.refl _) (Same.refl _) S (wlk_enum h2 (datL_ints ns))⟩
    | _ => cases hf) h
def zipL (xs ys : List D) : List D := (xs.zip ys).map fun q => .tup [q.1, q.2]
def zipD : D → D → Option (List D)
  | .lst xs, .lst ys => some (zipL xs ys)
  | .tup xs, .tup ys => some (zipL xs ys)
  | _, _ => none
theorem zipL_get {xs ys : List D} {i : Nat} {d : D} (h : (zipL xs ys)[i]? = some d) : ∃ x y, xs[i]? = some x ∧ ys[i]? = some y ∧ d = .tup [x, y] := by
  unfold zipL at h
  rw [List.getElem?_map, Option.map_eq_some_iff] at h
  obtain ⟨⟨x, y⟩, h1, rfl⟩ := h
  rw [List.getElem?_zip_eq_some] at h1
  exact ⟨x, y, h1.1, h1.2, rfl⟩
theorem wlk_zipL {F : Hp} {a b : Addr} {xs ys : List V} {ds es : List D} (h : SqL K F a xs) (h' : SqL K F b ys) (d : DatL K mg F ds xs) (d' : DatL K mg F es ys) : Wlk K mg F (Itz K a b) (zipL ds es) := by
  have hl : (zipL ds es).length = min xs.length ys.length := by rw [d.length, d'.length]; unfold zipL; simp
  refine Wlk.pair (G := fun H => SqL K H a xs ∧ SqL K H b ys) (fx := fun i => xs[i]?) (fy := fun i => ys[i]?) (walk_zip hl) (fun H F1 e1 e2 => ⟨e2.seq (e1.seq h), e2.seq (e1.seq h')⟩) fun i d2 hd => ?_
  obtain ⟨x, y, q1, q2, rfl⟩ := zipL_get hd
  refine ⟨_, _, rfl, fun u v hu hv => ?_⟩
  obtain ⟨w1, k1, k2⟩ := d.get q1
  obtain ⟨w2, k3, k4⟩ := d'.get q2
  rw [k1] at hu
  rw [k3] at hv
  cases hu
  cases hv
  exact ⟨k2, k4⟩
theorem walk_zipT {a b : Addr} {xs ys : List V} {n : Nat} (hn : n = min xs.length ys.length) : L2.Walk (RZ.ItzT K a b) n (fun H => SqT K H a xs ∧ SqT K H b ys) (YPair (fun i => xs[i]?) (fun i => ys[i]?)) := by
  subst hn
  refine ⟨fun i _ hi q => ?_, fun _ q => ⟨xs, ys, q.1, q.2, by omega⟩, fun i H v H' _ q y => ?_⟩
  · have h1 : i < xs.length := by omega
    have h2 : i < ys.length := by omega
    exact ⟨xs, ys, xs[i], ys[i], q.1, q.2, by simp [h1], by simp [h2]⟩
  · obtain ⟨T, x, y, h1, h2, h3, h4, h5⟩ := y
    exact ⟨T, x, y, h1, h2, h3, h4 xs q.1, h5 ys q.2⟩
theorem wlk_zipT {F : Hp} {a b : Addr} {xs ys : List V} {ds es : List D} (h : SqT K F a xs) (h' : SqT K F b ys) (d : DatL K mg F ds xs) (d' : DatL K mg F es ys) : Wlk K mg F (RZ.ItzT K a b) (zipL ds es) := by
  have hl : (zipL ds es).length = min xs.length ys.length := by rw [d.length, d'.length]; unfold zipL; simp
  refine Wlk.pair (G := fun H => SqT K H a xs ∧ SqT K H b ys) (fx := fun i => xs[i]?) (fy := fun i => ys[i]?) (walk_zipT hl) (fun H F1 e1 e2 => ⟨sqT_same e2 (sqT_same e1 h), sqT_same e2 (sqT_same e1 h')⟩) fun i d2 hd => ?_
  obtain ⟨x, y, q1, q2, rfl⟩ := zipL_get hd
  refine ⟨_, _, rfl, fun u v hu hv => ?_⟩
  obtain ⟨w1, k1, k2⟩ := d.get q1
  obtain ⟨w2, k3, k4⟩ := d'.get q2
  rw [k1] at hu
  rw [k3] at hv
  cases hu
  cases hv
  exact ⟨k2, k4⟩
def zip2 (ds : List D) : Option (List D) := match ds with
  | [x, y] => zipD x y
  | _ => none
theorem zip2_some {ds L : List D} (h : zip2 ds = some L) : (∃ xs ys, ds = [.lst xs, .lst ys] ∧ L = zipL xs ys) ∨ ∃ xs ys, ds = [.tup xs, .tup ys] ∧ L = zipL xs ys := by
  match ds, h with
  | [x, y], h =>
    have h : zipD x y = some L := h
    cases x with
    | lst xs =>
      cases y with
      | lst ys => cases h; exact .inl ⟨xs, ys, rfl, rfl⟩
      | _ => cases h
    | tup xs =>
      cases y with
      | tup ys => cases h; exact .inr ⟨xs, ys, rfl, rfl⟩
      | _ => cases h
    | _ => cases y <;> cases h
theorem di_zip {elts : List Expr} {kk : Nat} {tpos : Pos} {ws : DSt → R (List D)} (hg : Gl X "zip") (hm : X.mg "zip" = none) (ha : DA X B W [a, b] ws) (na : NS a := by intro _ _; rfl) (nb : NS b := by intro _ _; rfl) : DI X B W (.Tuple elts kk tpos) (.Call (.Name "zip" p) [a, b] [] pos) (f1 zip2 ws) :=
  piImp (RZ.pi_zipA hg hm ha (na _ _) (nb.pl _ _)) fun σ H Ro h => tI_of (rl := rL X.K X.mg) (r := fun vs H Ro => ∃ a b xs ys, vs = [.ref a, .ref b] ∧ ((SqL X.K H a xs ∧ SqL X.K H b ys ∧ Ro (Itz X.K a b) H) ∨ (SqT X.K H a xs ∧ SqT X.K H b ys ∧ Ro (RZ.ItzT X.K a b) H))) (fun F own s σ H x v ds Ro S dx hf q => by
    rcases zip2_some hf with ⟨xs, ys, rfl, rfl⟩ | ⟨xs, ys, rfl, rfl⟩
    · have dx : DatL X.K X.mg F [.lst xs, .lst ys] v := dx
      simp only [DatL, Dat] at dx
      obtain ⟨v1, r1, rfl, ⟨a1, u1, rfl, k1, k2⟩, v2, r2, rfl, ⟨a2, u2, rfl, k3, k4⟩, rfl⟩ := dx
      exact ⟨a1, a2, u1, u2, rfl, .inl ⟨.of (S.f _ _ k1), .of (S.f _ _ k3), q F own H _ (Same.refl _) (Same.refl _) S (wlk_zipL (.of k1) (.of k3) k2 k4)⟩⟩
    · have dx : DatL X.K X.mg F [.tup xs, .tup ys] v := dx
      simp only [DatL, Dat] at dx
      obtain ⟨v1, r1, rfl, ⟨a1, u1, rfl, k1, k2⟩, v2, r2, rfl, ⟨a2, u2, rfl, k3, k4⟩, rfl⟩ := dx
      exact ⟨a1, a2, u1, u2, rfl, .inr ⟨sqT_same S.f k1, sqT_same S.f k3, q F own H _ (Same.refl _) (Same.refl _) S (wlk_zipT k1 k3 k2 k4)⟩⟩) h
/-! ### in, not in: of a list -/
def inD (x y : D) : Option D := match y with
  | .lst ys => if shp 60 x = true ∧ shp 60 (.lst ys) = true then some (.bl (ys.any fun z => eqv z x)) else none
  | _ => none
def ninD (x y : D) : Option D := match y with
  | .lst ys => if shp 60 x = true ∧ shp 60 (.lst ys) = true then some (.bl (!ys.any fun z => eqv z x)) else none
  | _ => none
theorem any_toP {x : D} {ys : List D} (hx : shp 60 x = true) (hy : ∀ y ∈ ys, shp 59 y = true) : (D.toPs ys).any (fun z => PyData.eqv z x.toP) = ys.any fun z => eqv z x := by
  rw [toPs_map, List.any_map]
  induction ys with
  | nil => rfl
  | cons y ys ih =>
    rw [List.any_cons, List.any_cons, ih fun z hz => hy z (List.mem_cons_of_mem _ hz)]
    congr 1
    exact eqv_toP y x ⟨59, hy y List.mem_cons_self⟩ ⟨60, hx⟩
theorem in_core {F H : Hp} {own : Own} {x y z : D} {v u : V} (dx : rQ X.K X.mg F own H x v) (dy : rQ X.K X.mg F own H y u) (hz : inD x y = some z) : ∃ w, Sca z w ∧ ∀ Q : VK, Q w H → rInD X.K v u H Q := by
  cases y with
  | lst ys =>
    simp only [inD] at hz
    split at hz
    · rename_i h
      cases hz
      have hy : ∀ y ∈ ys, shp 59 y = true := by have := h.2; simpa only [shp, List.all_eq_true] using this
      refine ⟨.bl _, sca_bl, fun Q q => ⟨x.toP, D.toPs ys, dp_of 60 x v h.1 dx, ?_, shp_shaped h.1, ?_, by rw [any_toP h.1 hy]; exact q⟩⟩
      · have z := dp_of 60 (.lst ys) u h.2 dy
        simpa only [D.toP] using z
      · have z := shp_shaped h.2
        simpa only [D.toP] using z
    · cases hz
  | _ => cases hz
theorem nin_core {F H : Hp} {own : Own} {x y z : D} {v u : V} (dx : rQ X.K X.mg F own H x v) (dy : rQ X.K X.mg F own H y u) (hz : ninD x y = some z) : ∃ w, Sca z w ∧ ∀ Q : VK, Q w H → rNotInD X.K v u H Q := by
  cases y with
  | lst ys =>
    simp only [ninD] at hz
    split at hz
    · rename_i h
      cases hz
      have hy : ∀ y ∈ ys, shp 59 y = true := by have := h.2; simpa only [shp, List.all_eq_true] using this
      refine ⟨.bl _, sca_bl, fun Q q => ⟨x.toP, D.toPs ys, dp_of 60 x v h.1 dx, ?_, shp_shaped h.1, ?_, by rw [any_toP h.1 hy]; exact q⟩⟩
      · have z := dp_of 60 (.lst ys) u h.2 dy
        simpa only [D.toP] using z
      · have z := shp_shaped h.2
        simpa only [D.toP] using z
    · cases hz
  | _ => cases hz
theorem room65 {k : Nat} (hr : Room k X.A) : X.A.units + 65 < cLine := by have := hr.un; omega
theorem de_in {k : Nat} (hr : Room k X.A) (ha : DQ X B W a wa) (hb : DQ X B W b wb) (hm : behindInMarks .In b = false := by rfl) : DE X B W (.Compare a [.In] [b] pos) (d2 inD wa wb) :=
  peImp (pe_cmpR (op_inD (room65 hr)) ha hb hm) fun σ H Q h => t2_sca keepQ (fun F own H x y v u z e dx dy hz => in_core dx dy hz) h
theorem de_nin {k : Nat} (hr : Room k X.A) (ha : DQ X B W a wa) (hb : DQ X B W b wb) (hm : behindInMarks .NotIn b = false := by rfl) : DE X B W (.Compare a [.NotIn] [b] pos) (d2 ninD wa wb) :=
  peImp (pe_cmpR (op_notInD (room65 hr)) ha hb hm) fun σ H Q h => t2_sca keepQ (fun F own H x y v u z e dx dy hz => nin_core dx dy hz) h
theorem dt_in {k : Nat} (hr : Room k X.A) (ha : DQ X B W a wa) (hb : DQ X B W b wb) (hm : behindInMarks .In b = false := by rfl) : DT X B W (.Compare a [.In] [b] pos) (asB (d2 inD wa wb)) :=
  ptImp (pt_cmpR (op_inD (room65 hr)) ha hb hm) fun σ H Q h => tTest_of keepQ (fun F own H x y v u z e dx dy hz => in_core dx dy hz) h
theorem dt_nin {k : Nat} (hr : Room k X.A) (ha : DQ X B W a wa) (hb : DQ X B W b wb) (hm : behindInMarks .NotIn b = false := by rfl) : DT X B W (.Compare a [.NotIn] [b] pos) (asB (d2 ninD wa wb)) :=
  ptImp (pt_cmpR (op_notInD (room65 hr)) ha hb hm) fun σ H Q h => tTest_of keepQ (fun F own H x y v u z e dx dy hz => nin_core dx dy hz) h
end
end DL

namespace DL
open PySem PySem.Spec PyProof.Rows L2
/-! ### sorted(xs), xs a list of data that are alike -/
def rSortedD (K : PySem.W.Frag) : List V → Hp → VK → Prop := fun vs H Q => ∃ (a : Addr) (xs : List V) (pds : List PyData), vs = [V.ref a] ∧ SqL K H a xs ∧ DpAll K H xs pds ∧ PySem.W.AllAlike pds ∧ PySem.W.Sortable pds ∧ (∀ d ∈ pds, d.depth ≤ 60) ∧
  ∀ p, H p = none → Q (.ref p) (upd H p (.lst (((pds.zip xs).mergeSort (PySem.W.dataLe false Prod.fst)).map Prod.snd)))
theorem each_zip {X : Cx} {pins : List (Addr × Obj)} {σ : L2.St} {H : Hp} {s : Shared} (I : Inv X pins σ H s) : ∀ (pds : List PyData) (xs : List V) (its : List Value), DpAll X.K H xs pds → Vals xs its →
    PySem.W.EachIs (fun u (b : PyData × V) => RelV b.2 u) its (pds.zip xs) ∧ PySem.W.EachIs (fun u (b : PyData × V) => ∃ as, Reads s.heap u b.1 as) its (pds.zip xs)
  | [], _, _, h, r => by
    cases h
    cases r
    exact ⟨.nil, .nil⟩
  | d :: pds, _, _, h, r => by
    cases h with
    | cons h1 h2 =>
      cases r with
      | cons r1 r2 =>
        obtain ⟨q1, q2⟩ := each_zip I pds _ _ h2 r2
        exact ⟨.cons r1 q1, .cons (Dp.reads I d _ _ h1 r1) q2⟩
theorem each_vals : ∀ {out : List Value} {bs : List (PyData × V)}, PySem.W.EachIs (fun u (b : PyData × V) => RelV b.2 u) out bs → Vals (bs.map Prod.snd) out
  | _, _, .nil => .nil
  | _, _, .cons h r => .cons h (each_vals r)
theorem dpAll_len {K : PySem.W.Frag} {H : Hp} : ∀ {xs : List V} {pds : List PyData}, DpAll K H xs pds → xs.length = pds.length
  | _, _, .nil => rfl
  | _, _, .cons _ r => by simp [dpAll_len r]
section
variable {X : Cx}
theorem cr_sortedD {k : Nat} (hr : Room k X.A) : CallR X (.builtin "sorted") (rSortedD X.K) := by
  intro pins s σ H vs us Q I r h
  obtain ⟨a, xs, pds, rfl, hs, hd, hal, hk, hdep, q⟩ := h
  obtain ⟨its, rv, hl, hz⟩ := I.list hs
  obtain ⟨u, rfl, ru⟩ := vals1 r
  obtain rfl : u = Value.ref a := ru
  obtain ⟨e1, e2⟩ := each_zip I pds xs its hd rv
  have hlen := dpAll_len hd
  have hzip : (pds.zip xs).map Prod.fst = pds := List.map_fst_zip (by omega)
  refine PySem.W.sorted_data (enc := Prod.fst) hl.isList e1 e2 (by rw [hzip]; exact hal) (by rw [hzip]; exact hk) (by rw [List.length_zip]; omega) (fun b hb => ?_) fun out hlo ho => ?_
  · have := hdep b.1 (hzip ▸ List.mem_map_of_mem hb)
    have := hr.units
    omega
  · have hv := each_vals ho
    have hp : H (s.heap.objs.size + 1) = none := I.hok.fresh (Nat.le_succ _)
    obtain ⟨n, hn⟩ := sortedAll_at s.heap its out.toArray
    have I' : Inv X pins σ (upd H (s.heap.objs.size + 1) (.lst (((pds.zip xs).mergeSort (PySem.W.dataLe false Prod.fst)).map Prod.snd))) { s with heap := sortedAll s.heap its out.toArray } :=
      I.laid (t' := s.toks) (fun b o e => sortedAll_old e) (Nat.le_succ _) ⟨by rw [List.length_map, List.length_mergeSort, List.length_zip]; omega, out, n, hv, hn⟩
    exact ⟨.ref (s.heap.objs.size + 1), _, I', rfl, q _ hp⟩
/-! the rule -/
def leD (x y : D) : Bool := PySem.W.dataLe false D.toP x y
def AlikeD (ds : List D) : Prop := (∀ d ∈ ds, ∀ e ∈ ds, PySem.W.alike d.toP e.toP = true) ∧ ((∀ d ∈ ds, ∃ x r, d = .tup (x :: r)) ∨ ∀ d ∈ ds, ∃ i, d = .int i) ∧ ∀ d ∈ ds, shp 60 d = true
open Classical in
noncomputable def sortD : D → Option O
  | .lst ds => if AlikeD ds then some (.l (ds.mergeSort leD)) else none
  | .scr ns => some (.l ((ns.map D.int).mergeSort leD))
  | _ => none
theorem alike_ints (ns : List Int) : AlikeD (ns.map D.int) := by
  refine ⟨fun d hd e he => ?_, .inr fun d hd => ?_, fun d hd => ?_⟩
  · obtain ⟨i, _, rfl⟩ := List.mem_map.mp hd
    obtain ⟨j, _, rfl⟩ := List.mem_map.mp he
    simp only [D.toP, PySem.W.alike]
  · obtain ⟨i, _, rfl⟩ := List.mem_map.mp hd
    exact ⟨i, rfl⟩
  · obtain ⟨i, _, rfl⟩ := List.mem_map.mp hd
    rfl
theorem datL_zip {K : PySem.W.Frag} {mg : Str → Option Value} {F : Hp} : ∀ {ds : List D} {xs : List V}, DatL K mg F ds xs → ∀ b ∈ (ds.zip xs), Dat K mg F b.1 b.2
  | [], xs, h, b, hb => by simp at hb
  | d :: ds, xs, h, b, hb => by
    simp only [DatL] at h
    obtain ⟨v, r, rfl, h2, h3⟩ := h
    rw [List.zip_cons_cons, List.mem_cons] at hb
    rcases hb with rfl | hb
    · exact h2
    · exact datL_zip h3 b hb
theorem datL_of {K : PySem.W.Frag} {mg : Str → Option Value} {F : Hp} : ∀ (l : List (D × V)), (∀ b ∈ l, Dat K mg F b.1 b.2) → DatL K mg F (l.map Prod.fst) (l.map Prod.snd)
  | [], _ => .nil
  | b :: l, h => .cons (h b List.mem_cons_self) (datL_of l fun c hc => h c (List.mem_cons_of_mem _ hc))
theorem dpAll_of {K : PySem.W.Frag} {mg : Str → Option Value} {H : Hp} : ∀ {ds : List D} {xs : List V}, (∀ d ∈ ds, shp 60 d = true) → DatL K mg H ds xs → DpAll K H xs (ds.map D.toP)
  | [], xs, _, h => by simp only [DatL] at h; subst h; exact .nil
  | d :: ds, xs, hs, h => by
    simp only [DatL] at h
    obtain ⟨v, r, rfl, h2, h3⟩ := h
    exact .cons (dp_of 60 d v (hs d List.mem_cons_self) h2) (dpAll_of (fun e he => hs e (List.mem_cons_of_mem _ he)) h3)
theorem sort_core {K : PySem.W.Frag} {mg : Str → Option Value} {F : Hp} {ds : List D} {xs : List V} (h : DatL K mg F ds xs) : DatL K mg F (ds.mergeSort leD) ((((ds.map D.toP).zip xs).mergeSort (PySem.W.dataLe false Prod.fst)).map Prod.snd) := by
  have hl := h.length
  have e1 : (ds.map D.toP).zip xs = (ds.zip xs).map fun b => (b.1.toP, b.2) := by
    rw [List.zip_map_left]
    rfl
  have e2 : ((ds.zip xs).map fun b => (b.1.toP, b.2)).mergeSort (PySem.W.dataLe false Prod.fst) = ((ds.zip xs).mergeSort fun b c => leD b.1 c.1).map fun b => (b.1.toP, b.2) :=
    (List.map_mergeSort (f := fun b : D × V => (b.1.toP, b.2)) (r := fun b c => leD b.1 c.1) (s := PySem.W.dataLe false Prod.fst) (fun a _ b _ => rfl)).symm
  have e3 : ds.mergeSort leD = ((ds.zip xs).mergeSort fun b c => leD b.1 c.1).map Prod.fst := by
    rw [List.map_mergeSort (s := leD) (fun a _ b _ => rfl), List.map_fst_zip (by omega)]
  rw [e1, e2, e3, List.map_map]
  exact datL_of _ fun b hb => datL_zip h b (List.mem_mergeSort.mp hb)
variable {B : Bd} {W : WX} {a : Expr} {wa : ED} {p pos : Pos}
theorem do_sortedD {k : Nat} (hr : Room k X.A) (hg : Gl X "sorted") (hm : X.mg "sorted" = none) (ha : DE X B W a wa) (na : NS a := by intro _ _; rfl) : DO X B W (.Call (.Name "sorted" p) [a] [] pos) (f1 sortD wa) :=
  b1 (γ' := V) (cr_sortedD hr) hg hm PyProof.Rows.boot_sorted (by decide) (by decide) ha (fun F own s σ H x v z Q S dx hz q => by
    have key : ∀ (c : Addr) (ds : List D) (xs : List V), v = .ref c → SqL X.K H c xs → DatL X.K X.mg F ds xs → AlikeD ds → Post X.K X.mg B W (rO X.K X.mg) F s σ H (.ok (.l (ds.mergeSort leD))) Q → rSortedD X.K [v] H Q := by
      intro c ds xs ev hs hd ⟨h1, h2, h3⟩ q
      subst ev
      refine ⟨c, xs, ds.map D.toP, rfl, hs, dpAll_of h3 (DatL.same S.f _ _ hd), fun d hd' e he => ?_, ?_, fun d hd' => ?_, fun p hp => q.layO S hp (rep_l (sort_core hd))⟩
      · obtain ⟨x, hx, rfl⟩ := List.mem_map.mp hd'
        obtain ⟨y, hy, rfl⟩ := List.mem_map.mp he
        exact h1 x hx y hy
      · rcases h2 with h2 | h2
        · refine .inl fun d hd' => ?_
          obtain ⟨x, hx, rfl⟩ := List.mem_map.mp hd'
          obtain ⟨y, r, rfl⟩ := h2 x hx
          exact ⟨y.toP, D.toPs r, by simp only [D.toP, D.toPs]⟩
        · refine .inr fun d hd' => ?_
          obtain ⟨x, hx, rfl⟩ := List.mem_map.mp hd'
          obtain ⟨i, rfl⟩ := h2 x hx
          have e1 : (D.int i).toP = .int i := by simp only [D.toP]
          rw [e1]
          exact ⟨fun e => (nomatch e), fun xs e => (nomatch e)⟩
      · obtain ⟨x, hx, rfl⟩ := List.mem_map.mp hd'
        exact (shp_lay 60 x (h3 x hx)).2
    cases x with
    | lst ds =>
      have dx : Dat X.K X.mg F (.lst ds) v := dx
      simp only [Dat] at dx
      obtain ⟨c, xs, rfl, h2, h3⟩ := dx
      simp only [sortD] at hz
      split at hz
      · rename_i hal
        cases hz
        exact key c ds xs rfl (.of (S.f _ _ h2)) h3 hal q
      · cases hz
    | scr ns =>
      have dx : Dat X.K X.mg F (.scr ns) v := dx
      simp only [Dat] at dx
      obtain ⟨c, rfl, h2⟩ := dx
      cases hz
      exact key c _ _ rfl (S.f.seq h2) (datL_ints ns) (alike_ints ns) q
    | _ => cases hz) na
end
end DL

namespace DL
open PySem PySem.Spec PyProof.Rows L2
variable {α β γ δ ε : Type}
theorem bind_ok (a : α) (f : α → R β) : (R.ok a).bind f = f a := rfl
theorem bind_exc (c : Str) (f : α → R β) : (R.exc c).bind f = .exc c := rfl
theorem bind_bad (f : α → R β) : (R.bad).bind f = .bad := rfl
theorem map_ok (a : α) (f : α → β) : (R.ok a).map f = .ok (f a) := rfl
theorem map_exc (c : Str) (f : α → β) : (R.exc c).map f = .exc c := rfl
theorem map_bad (f : α → β) : (R.bad).map f = .bad := rfl
theorem of_some (a : α) : R.of (some a) = .ok a := rfl
theorem of_none : R.of (none : Option α) = .bad := rfl
theorem toS_ok (a : α) (s : DSt) (k : α → RS) : (R.ok a).toS s k = k a := rfl
theorem toS_exc (c : Str) (s : DSt) (k : α → RS) : (R.exc c : R α).toS s k = .exc c s := rfl
theorem toS_bad (s : DSt) (k : α → RS) : (R.bad : R α).toS s k = .bad := rfl
def slO (o : Option (Option O)) : Option O := match o with
  | some (some o) => some o
  | _ => none
theorem dC_ap (d : D) (s : DSt) : dC d s = .ok d := rfl
/-- a slot read: o : Option (Option O) -/
def rdV : Option (Option O) → R D
  | some (some (.per d)) => .ok d
  | _ => .bad
def rdP : Option (Option O) → R D
  | some (some o) => R.of o.top
  | _ => .bad
def rdS : Option (Option O) → R D
  | some (some o) => .ok o.toD
  | _ => .bad
theorem rdV_per (d : D) : rdV (some (some (.per d))) = .ok d := rfl
theorem rdP_per (d : D) : rdP (some (some (.per d))) = .ok d := rfl
theorem rdP_l (d : List D) : rdP (some (some (.l d))) = .ok (.lst d) := rfl
theorem rdS_per (d : D) : rdS (some (some (.per d))) = .ok d := rfl
theorem rdS_l (d : List D) : rdS (some (some (.l d))) = .ok (.lst d) := rfl
theorem dVar_ap (i : Nat) (s : DSt) : dVar i s = rdV s[i]? := rfl
theorem dPeek_ap (i : Nat) (s : DSt) : dPeek i s = rdP s[i]? := rfl
theorem dSee_ap (i : Nat) (s : DSt) : dSee i s = rdS s[i]? := rfl
theorem toD_per (d : D) : O.toD (.per d) = d := by simp only [O.toD]
theorem toD_l (d : List D) : O.toD (.l d) = .lst d := by simp only [O.toD]
theorem d2_ap (f : D → D → Option D) (wa wb : ED) (s : DSt) : d2 f wa wb s = ((wa s).bind fun x => (wb s).bind fun y => R.of (f x y)) := rfl
theorem d1_ap (f : D → Option D) (wa : ED) (s : DSt) : d1 f wa s = ((wa s).bind fun x => R.of (f x)) := rfl
def toB : D → R Bool
  | .bl b => .ok b
  | _ => .bad
theorem toB_bl (b : Bool) : toB (.bl b) = .ok b := rfl
theorem asB_ap (w : ED) (s : DSt) : asB w s = (w s).bind toB := by
  unfold asB
  congr 1
theorem f1_ap (f : α → Option γ) (wa : DSt → R α) (s : DSt) : f1 f wa s = ((wa s).bind fun x => R.of (f x)) := rfl
theorem f2_ap (f : α → δ → Option γ) (wa : DSt → R α) (wb : DSt → R δ) (s : DSt) : f2 f wa wb s = ((wa s).bind fun x => (wb s).bind fun y => R.of (f x y)) := rfl
theorem f3_ap (f : α → δ → ε → Option γ) (wa : DSt → R α) (wb : DSt → R δ) (wc : DSt → R ε) (s : DSt) : f3 f wa wb wc s = ((wa s).bind fun x => (wb s).bind fun y => (wc s).bind fun z => R.of (f x y z)) := rfl
theorem dNil_ap (s : DSt) : dNil s = .ok [] := rfl
theorem dCons_ap (w : ED) (ws : DSt → R (List D)) (s : DSt) : dCons w ws s = ((w s).bind fun x => (ws s).bind fun xs => .ok (x :: xs)) := rfl
theorem dNo_ap (s : DSt) : dNo s = .ok none := rfl
theorem dYes_ap (w : ED) (s : DSt) : dYes w s = ((w s).bind fun x => R.of (asI x)) := rfl
theorem asI_int (i : Int) : asI (.int i) = some (some i) := rfl
/-- and, or -/
def andK (x : D) (k : R D) : R D := match x with
  | .bl true => k
  | .bl false => .ok (.bl false)
  | _ => .bad
def orK (x : D) (k : R D) : R D := match x with
  | .bl true => .ok (.bl true)
  | .bl false => k
  | _ => .bad
theorem andK_t (k : R D) : andK (.bl true) k = k := rfl
theorem andK_f (k : R D) : andK (.bl false) k = .ok (.bl false) := rfl
theorem orK_t (k : R D) : orK (.bl true) k = .ok (.bl true) := rfl
theorem orK_f (k : R D) : orK (.bl false) k = k := rfl
theorem andK_bl (a b : Bool) : andK (.bl a) (.ok (.bl b)) = .ok (.bl (a && b)) := by cases a <;> rfl
theorem orK_bl (a b : Bool) : orK (.bl a) (.ok (.bl b)) = .ok (.bl (a || b)) := by cases a <;> rfl
theorem dAnd_ap (wa wb : ED) (s : DSt) : dAnd wa wb s = ((wa s).bind fun x => andK x (wb s)) := rfl
theorem dOr_ap (wa wb : ED) (s : DSt) : dOr wa wb s = ((wa s).bind fun x => orK x (wb s)) := rfl
theorem bAnd_ap (wa wb : DSt → R Bool) (s : DSt) : bAnd wa wb s = ((wa s).bind fun x => if x = true then wb s else .ok false) := rfl
theorem bOr_ap (wa wb : DSt → R Bool) (s : DSt) : bOr wa wb s = ((wa s).bind fun x => if x = true then .ok true else wb s) := rfl
theorem bNot_ap (wa : DSt → R Bool) (s : DSt) : bNot wa s = (wa s).map (! ·) := rfl
theorem dIf_ap (wc : DSt → R Bool) (wa wb : DSt → R α) (s : DSt) : dIf wc wa wb s = ((wc s).bind fun x => if x = true then wa s else wb s) := rfl
theorem dDe_ap (w : EO) (s : DSt) : dDe w s = (w s).map O.toD := rfl
theorem dNx_ap (s : DSt) : dNx s = .nx s := rfl
/-- what follows -/
def RS.then_ (r : RS) (v : SD) : RS := match r with
  | .nx s' => v s'
  | r => r
theorem dSeq_ap (u v : SD) (s : DSt) : dSeq u v s = (u s).then_ v := by
  unfold dSeq RS.then_
  cases u s <;> rfl
theorem then_nx (s : DSt) (v : SD) : (RS.nx s).then_ v = v s := rfl
theorem then_rt (o : O) (v : SD) : (RS.rt o).then_ v = .rt o := rfl
theorem then_bk (s : DSt) (v : SD) : (RS.bk s).then_ v = .bk s := rfl
theorem then_ct (s : DSt) (v : SD) : (RS.ct s).then_ v = .ct s := rfl
theorem then_exc (c : Str) (s : DSt) (v : SD) : (RS.exc c s).then_ v = .exc c s := rfl
theorem then_bad (v : SD) : (RS.bad).then_ v = .bad := rfl
theorem then_ite (c : Prop) [Decidable c] (a b : RS) (v : SD) : (if c then a else b).then_ v = if c then a.then_ v else b.then_ v := by split <;> rfl
theorem dBk_ap (s : DSt) : dBk s = .bk s := rfl
theorem dCt_ap (s : DSt) : dCt s = .ct s := rfl
theorem dNever_ap (s : DSt) : dNever s = .bad := rfl
def frzK (o : Option (Option O)) (k : O → RS) : RS := match o with
  | some (some o) => k o
  | _ => .bad
theorem frzK_some (o : O) (k : O → RS) : frzK (some (some o)) k = k o := rfl
theorem dFrz_ap (i : Nat) (u : SD) (s : DSt) : dFrz i u s = frzK s[i]? fun o => u (s.set i (some (.per o.toD))) := rfl
theorem dSet_ap (i : Nat) (w : ED) (s : DSt) : dSet i w s = ((w s).toS s fun d => .nx (s.set i (some (.per d)))) := rfl
theorem dSetO_ap (i : Nat) (w : EO) (s : DSt) : dSetO i w s = ((w s).toS s fun o => .nx (s.set i (some o))) := rfl
theorem dDrop_ap (w : DSt → R α) (s : DSt) : dDrop w s = ((w s).toS s fun _ => .nx s) := rfl
theorem dRet_ap (w : ED) (s : DSt) : dRet w s = ((w s).toS s fun d => .rt (.per d)) := rfl
theorem dRetO_ap (w : EO) (s : DSt) : dRetO w s = ((w s).toS s fun o => .rt o) := rfl
theorem dRetN_ap (s : DSt) : dRetN s = .rt (.per .non) := rfl
theorem dMove_ap (i : Nat) (s : DSt) : dMove i s = frzK s[i]? fun o => .rt o := rfl
theorem dIfS_ap (c : DSt → R Bool) (u v : SD) (s : DSt) : dIfS c u v s = ((c s).toS s fun b => if b = true then u s else v s) := rfl
theorem dRaise_ap (c : Str) (s : DSt) : dRaise c s = .exc c s := rfl
def asgK (o : Option DSt) : RS := match o with
  | some s => .nx s
  | none => .bad
theorem asgK_some (s : DSt) : asgK (some s) = .nx s := rfl
theorem dAsg_ap (g : GD) (w : ED) (s : DSt) : dAsg g w s = ((w s).toS s fun d => asgK (g d s)) := rfl
theorem gN_ap (i : Nat) (d : D) (s : DSt) : gN i d s = some (s.set i (some (.per d))) := rfl
theorem gZ_ap (s : DSt) : gZ [] s = some s := rfl
theorem gC_ap (g : GD) (gs : GDs) (d : D) (ds : List D) (s : DSt) : gC g gs (d :: ds) s = (g d s).bind fun s' => gs ds s' := rfl
theorem gU_tup (n : Nat) (gs : GDs) (ds : List D) (s : DSt) : gU n gs (.tup ds) s = if ds.length = n then gs ds s else none := rfl
theorem gU_lst (n : Nat) (gs : GDs) (ds : List D) (s : DSt) : gU n gs (.lst ds) s = if ds.length = n then gs ds s else none := rfl
theorem dPar_ap (is : List Nat) (ws : DSt → R (List D)) (s : DSt) : dPar is ws s = ((ws s).toS s fun ds => if ds.length = is.length then .nx ((is.zip ds).foldl (fun s q => s.set q.1 (some (.per q.2))) s) else .bad) := rfl
theorem dPar2_ap (i j : Nat) (wa wb : ED) (s : DSt) : dPar [i, j] (dCons wa (dCons wb dNil)) s = ((wa s).toS s fun x => (wb s).toS s fun y => .nx ((s.set i (some (.per x))).set j (some (.per y)))) := by
  simp only [dPar_ap, dCons_ap, dNil_ap]
  cases wa s <;> simp only [R.bind, R.toS]
  cases wb s <;> simp [R.bind, R.toS]
theorem dPar3_ap (i j l : Nat) (wa wb wc : ED) (s : DSt) : dPar [i, j, l] (dCons wa (dCons wb (dCons wc dNil))) s = ((wa s).toS s fun x => (wb s).toS s fun y => (wc s).toS s fun z => .nx (((s.set i (some (.per x))).set j (some (.per y))).set l (some (.per z)))) := by
  simp only [dPar_ap, dCons_ap, dNil_ap]
  cases wa s <;> simp only [R.bind, R.toS]
  cases wb s <;> simp only [R.bind, R.toS]
  cases wc s <;> simp [R.bind, R.toS]
def augK (o : Option (Option O)) (k : D → RS) : RS := match o with
  | some (some (.per d)) => k d
  | _ => .bad
theorem augK_per (d : D) (k : D → RS) : augK (some (some (.per d))) k = k d := rfl
def optK (o : Option D) (k : D → RS) : RS := match o with
  | some z => k z
  | none => .bad
theorem optK_some (d : D) (k : D → RS) : optK (some d) k = k d := rfl
theorem dAug_ap (i : Nat) (f : Int → Int → Option D) (w : ED) (s : DSt) : dAug i f w s = augK s[i]? fun d => (w s).toS s fun y => optK (ii f d y) fun z => .nx (s.set i (some (.per z))) := rfl
theorem dFor_ap (wi : DSt → R (List D)) (g : GD) (b : SD) (s : DSt) : dFor wi g b s = ((wi s).toS s fun ds => forL g b ds s) := rfl
theorem dCall_ap (mir : List D → R O) (ws : DSt → R (List D)) (s : DSt) : dCall mir ws s = (ws s).bind mir := rfl
theorem dAll_ap (s : DSt) : dAll s = .ok true := rfl
def modK (o : Option (Option O)) (k : List D → RS) : RS := match o with
  | some (some (.l ds)) => k ds
  | _ => .bad
theorem modK_l (ds : List D) (k : List D → RS) : modK (some (some (.l ds))) k = k ds := rfl
def optL (o : Option (List D)) (k : List D → RS) : RS := match o with
  | some z => k z
  | none => .bad
theorem optL_some (d : List D) (k : List D → RS) : optL (some d) k = k d := rfl
theorem dMod_ap (i : Nat) (f : List D → D → Option (List D)) (w : ED) (s : DSt) : dMod i f w s = modK s[i]? fun ds => (w s).toS s fun d => optL (f ds d) fun ds' => .nx (s.set i (some (.l ds'))) := rfl
theorem dPop_ap (i : Nat) (k : D → DSt → RS) (s : DSt) : dPop i k s = modK s[i]? fun ds => optK ds.getLast? fun d => k d (s.set i (some (.l ds.dropLast))) := rfl
/-- except -/
def RS.catch_ (r : RS) (cs : List Str) (tch : Str → Bool) (h : Str → DSt → RS) : RS := match r with
  | .exc c s' => if c ∈ cs then (if tch c = true then (match h c s' with | .rt o => .rt o | _ => .bad) else .exc c s') else .bad
  | r => r
theorem dTryOn_ap (u : SD) (cs : List Str) (tch : Str → Bool) (h : Str → SD) (s : DSt) : dTryOn u cs tch h s = (u s).catch_ cs tch h := by
  unfold dTryOn RS.catch_
  cases u s <;> rfl
def keepRt (r : RS) : RS := match r with
  | .rt o => .rt o
  | _ => .bad
theorem keepRt_rt (o : O) : keepRt (.rt o) = .rt o := rfl
theorem catch_nx (s : DSt) (cs : List Str) (tch : Str → Bool) (h : Str → DSt → RS) : (RS.nx s).catch_ cs tch h = .nx s := rfl
theorem catch_rt (s : O) (cs : List Str) (tch : Str → Bool) (h : Str → DSt → RS) : (RS.rt s).catch_ cs tch h = .rt s := rfl
theorem catch_exc {c : Str} {s : DSt} {cs : List Str} {tch : Str → Bool} {h : Str → DSt → RS} (hc : c ∈ cs) (ht : tch c = true) : (RS.exc c s).catch_ cs tch h = keepRt (h c s) := by
  unfold RS.catch_ keepRt
  simp only
  rw [if_pos hc, if_pos ht]
def RS.catchAs (r : RS) (cs : List Str) (tch : Str → Bool) (i : Nat) (h : Str → DSt → RS) : RS := match r with
  | .exc c s' => if c ∈ cs ∧ i < s'.length then (if tch c = true then (match h c (s'.set i none) with | .rt o => .rt o | _ => .bad) else .exc c s') else .bad
  | r => r
theorem dTryAs_ap (u : SD) (cs : List Str) (tch : Str → Bool) (i : Nat) (h : Str → SD) (s : DSt) : dTryAs u cs tch i h s = (u s).catchAs cs tch i h := by
  unfold dTryAs RS.catchAs
  cases u s <;> rfl
theorem catchAs_nx (s : DSt) (cs : List Str) (tch : Str → Bool) (i : Nat) (h : Str → DSt → RS) : (RS.nx s).catchAs cs tch i h = .nx s := rfl
theorem catchAs_rt (s : O) (cs : List Str) (tch : Str → Bool) (i : Nat) (h : Str → DSt → RS) : (RS.rt s).catchAs cs tch i h = .rt s := rfl
theorem catchAs_exc {c : Str} {s : DSt} {cs : List Str} {tch : Str → Bool} {i : Nat} {h : Str → DSt → RS} (hc : c ∈ cs) (hi : decide (i < s.length) = true) (ht : tch c = true) : (RS.exc c s).catchAs cs tch i h = keepRt (h c (s.set i none)) := by
  unfold RS.catchAs keepRt
  simp only
  rw [if_pos ⟨hc, of_decide_eq_true hi⟩, if_pos ht]
def RS.run (r : RS) : R O := match r with
  | .nx _ => .ok (.per .non)
  | .rt o => .ok o
  | .exc c _ => .exc c
  | _ => .bad
theorem runB_ap (wb : SD) (s : DSt) : runB wb s = (wb s).run := by
  unfold runB RS.run
  cases wb s <;> rfl
theorem run_nx (s : DSt) : (RS.nx s).run = .ok (.per .non) := rfl
theorem run_rt (o : O) : (RS.rt o).run = .ok o := rfl
theorem run_exc (c : Str) (s : DSt) : (RS.exc c s).run = .exc c := rfl
theorem auto_ap {n m : Nat} {wb : SD} {ds : List D} (h : ds.length = n) : auto n m wb ds = (wb (startD m ds)).run := by
  unfold auto
  rw [if_pos h, runB_ap]
/-- comprehensions -/
def stepK (t : R Bool) (e : R D) (r : R (List D)) : R (List D) := match t with
  | .ok true => (match e with
    | .ok x => r.map (x :: ·)
    | _ => .bad)
  | .ok false => r
  | _ => .bad
theorem stepK_t (x : D) (r : R (List D)) : stepK (.ok true) (.ok x) r = r.map (x :: ·) := rfl
theorem stepK_f (e : R D) (r : R (List D)) : stepK (.ok false) e r = r := rfl
def gK (o : Option DSt) (k : DSt → R (List D)) : R (List D) := match o with
  | some s => k s
  | none => .bad
theorem gK_some (s : DSt) (k : DSt → R (List D)) : gK (some s) k = k s := rfl
theorem compL_cons (g : GD) (t : DSt → R Bool) (e : ED) (s : DSt) (d : D) (ds : List D) : compL g t e s (d :: ds) = gK (g d s) fun s1 => stepK (t s1) (e s1) (compL g t e s ds) := by
  unfold gK stepK
  conv => lhs; unfold compL
  cases g d s with
  | none => rfl
  | some s1 =>
    first
      | rfl
      | (simp only; done)
      | (simp only
         rcases t s1 with b | c | _
         · cases b
           · rfl
           · simp only; cases e s1 <;> rfl
         · rfl
         · rfl)
theorem compL_nil (g : GD) (t : DSt → R Bool) (e : ED) (s : DSt) : compL g t e s [] = .ok [] := rfl
def perK (o : Option (Option O)) : Bool := match o with
  | some (some (.per _)) => true
  | some (some _) => false
  | _ => true
theorem perAt_ap (s : DSt) (v : Nat) : perAt s v = perK s[v]? := rfl
theorem perK_per (d : D) : perK (some (some (.per d))) = true := rfl
theorem perK_none : perK (some none) = true := rfl
theorem wipeD_cons (s : DSt) (v : Nat) (vs : List Nat) : wipeD s (v :: vs) = (wipeD s vs).set v none := rfl
theorem wipeD_nil (s : DSt) : wipeD s [] = s := rfl
theorem dComp_ap (wi : DSt → R (List D)) (g : GD) (t : DSt → R Bool) (e : ED) (vs : List Nat) (s : DSt) : dComp wi g t e vs s = if vs.all (perAt s) = true then ((wi s).bind fun ds => if line ds.length = true then (compL g t e (wipeD s vs) ds).map O.l else .bad) else .bad := rfl
/-- the comprehension's list: f the elements, p the test -/
theorem compL_map {α : Type} (g : GD) (t : DSt → R Bool) (e : ED) (s : DSt) (inj : α → D) (p : α → Bool) (f : α → D) : ∀ (xs : List α), (∀ x ∈ xs, ∃ s1, g (inj x) s = some s1 ∧ t s1 = .ok (p x) ∧ (p x = true → e s1 = .ok (f x))) →
    compL g t e s (xs.map inj) = .ok ((xs.filter p).map f)
  | [], _ => rfl
  | x :: xs, h => by
    obtain ⟨s1, h1, h2, h3⟩ := h x List.mem_cons_self
    rw [List.map_cons, compL_cons, h1, gK_some, h2, compL_map g t e s inj p f xs fun y hy => h y (List.mem_cons_of_mem _ hy)]
    cases hp : p x with
    | true =>
      rw [hp] at h3
      rw [h3 rfl, stepK_t, map_ok, List.filter_cons_of_pos hp]
      rfl
    | false =>
      rw [stepK_f, List.filter_cons_of_neg (by rw [hp]; exact Bool.false_ne_true)]
/-- loops -/
def RS.loop (r : RS) (k : SD) : RS := match r with
  | .nx s => k s
  | .ct s => k s
  | .bk s => .nx s
  | .rt o => .rt o
  | .exc c s => .exc c s
  | .bad => .bad
theorem loop_nx (s : DSt) (k : SD) : (RS.nx s).loop k = k s := rfl
theorem loop_ct (s : DSt) (k : SD) : (RS.ct s).loop k = k s := rfl
theorem loop_bk (s : DSt) (k : SD) : (RS.bk s).loop k = .nx s := rfl
theorem loop_rt (o : O) (k : SD) : (RS.rt o).loop k = .rt o := rfl
theorem loop_exc (c : Str) (s : DSt) (k : SD) : (RS.exc c s).loop k = .exc c s := rfl
theorem loop_ite (c : Prop) [Decidable c] (a b : RS) (v : SD) : (if c then a else b).loop v = if c then a.loop v else b.loop v := by split <;> rfl
def asgS (o : Option DSt) (k : SD) : RS := match o with
  | some s => k s
  | none => .bad
theorem asgS_some (s : DSt) (k : SD) : asgS (some s) k = k s := rfl
theorem forL_nil (g : GD) (b : SD) (s : DSt) : forL g b [] s = .nx s := rfl
theorem forL_cons (g : GD) (b : SD) (d : D) (ds : List D) (s : DSt) : forL g b (d :: ds) s = asgS (g d s) fun s1 => (b s1).loop (forL g b ds) := by
  unfold asgS RS.loop
  conv => lhs; unfold forL
  cases g d s with
  | none => rfl
  | some s1 =>
    first
      | rfl
      | (simp only; done)
      | (simp only
         cases b s1 <;> rfl)
/-- a loop that keeps P -/
theorem forL_inv {α : Type} (g : GD) (b : SD) (inj : α → D) (P : List α → DSt → Prop) (Q : RS → Prop) : ∀ (xs : List α) (s : DSt), P xs s → (∀ s, P [] s → Q (.nx s)) →
    (∀ x xs s, P (x :: xs) s → ∃ s1, g (inj x) s = some s1 ∧ ((∃ s2, (b s1 = .nx s2 ∨ b s1 = .ct s2) ∧ P xs s2) ∨ (∃ s2, b s1 = .bk s2 ∧ Q (.nx s2)) ∨ (∃ o, b s1 = .rt o ∧ Q (.rt o)) ∨ ∃ c s2, b s1 = .exc c s2 ∧ Q (.exc c s2))) → Q (forL g b (xs.map inj) s)
  | [], s, h, h0, _ => h0 s h
  | x :: xs, s, h, h0, hs => by
    obtain ⟨s1, e1, h1⟩ := hs x xs s h
    rw [List.map_cons, forL_cons, e1, asgS_some]
    rcases h1 with ⟨s2, e, h2⟩ | ⟨s2, e, h2⟩ | ⟨o, e, h2⟩ | ⟨c, s2, e, h2⟩
    · rcases e with e | e
      · rw [e, loop_nx]; exact forL_inv g b inj P Q xs s2 h2 h0 hs
      · rw [e, loop_ct]; exact forL_inv g b inj P Q xs s2 h2 h0 hs
    · rw [e, loop_bk]; exact h2
    · rw [e, loop_rt]; exact h2
    · rw [e, loop_exc]; exact h2
theorem dWhile_ap (c : DSt → R Bool) (b : SD) (s : DSt) : dWhile c b s = (c s).toS s fun t => if t = true then (b s).loop (dWhile c b) else .nx s := by
  rw [dWhile_eq]
  cases c s with
  | ok t =>
    cases t with
    | true =>
      simp only [R.toS, if_true]
      unfold RS.loop
      cases b s <;> rfl
    | false => rfl
  | _ => rfl
theorem ii_int (f : Int → Int → Option D) (i j : Int) : ii f (.int i) (.int j) = f i j := rfl
theorem unI_int {f : Int → Option D} (i : Int) : unI f (.int i) = f i := rfl
end DL
namespace DL
open PySem PySem.Spec PyProof.Rows L2
theorem addI_ap (i j : Int) : addI i j = some (.int (i + j)) := rfl
theorem subI_ap (i j : Int) : subI i j = some (.int (i - j)) := rfl
theorem ltI_ap (i j : Int) : ltI i j = some (.bl (decide (i < j))) := rfl
theorem leI_ap (i j : Int) : leI i j = some (.bl (decide (i ≤ j))) := rfl
theorem gtI_ap (i j : Int) : gtI i j = some (.bl (decide (j < i))) := rfl
theorem geI_ap (i j : Int) : geI i j = some (.bl (decide (j ≤ i))) := rfl
theorem addD_int (i j : Int) : addD (.int i) (.int j) = some (.int (i + j)) := rfl
theorem mulD_int (i j : Int) : mulD (.int i) (.int j) = mulI i j := rfl
theorem addD_tup (x y : List D) : addD (.tup x) (.tup y) = catT (.tup x) (.tup y) := rfl
theorem addD_lst (x y : List D) : addD (.lst x) (.lst y) = (catL (.lst x) (.lst y)).map O.toD := rfl
theorem mulD_lst (x : List D) (j : Int) : mulD (.lst x) (.int j) = (repL (.lst x) (.int j)).map O.toD := rfl
theorem mulI_ok {i j : Int} (h : i.natAbs.log2 + j.natAbs.log2 < 1000000) : mulI i j = some (.int (i * j)) := by unfold mulI; rw [if_pos h]
theorem divI_ok2 {i j : Int} (h : j ≠ 0) (h2 : j.natAbs.log2 < 9000) : divI i j = some (.int (i.fdiv j)) := by unfold divI; rw [if_pos ⟨h, h2⟩]
theorem modI_ok {i j : Int} (h : j ≠ 0) : modI i j = some (.int (i.fmod j)) := by unfold modI; rw [if_pos h]
theorem powI_ok {i j : Int} (h : 0 ≤ j ∧ j ≤ 1000000 ∧ i.natAbs < 2 ^ 64) : powI i j = some (.int (i ^ j.toNat)) := by unfold powI; rw [if_pos h]
theorem negD_int (i : Int) : negD (.int i) = some (.int (-i)) := rfl
theorem absI_ap (i : Int) : absI i = some (.int (if i < 0 then -i else i)) := rfl
theorem intD_int (i : Int) : intD (.int i) = some (.int i) := rfl
theorem intD_bl (b : Bool) : intD (.bl b) = some (.int (if b then 1 else 0)) := rfl
theorem notV_bl (b : Bool) : notV (.bl b) = some (.bl (!b)) := rfl
theorem truD_bl (b : Bool) : truD (.bl b) = some b := rfl
theorem truD_int (i : Int) : truD (.int i) = some (i != 0) := rfl
theorem truD_non : truD .non = some false := rfl
theorem eqD_int (i j : Int) : eqD (.int i) (.int j) = some (.bl (decide (i = j))) := rfl
theorem neD_int (i j : Int) : neD (.int i) (.int j) = some (.bl (!decide (i = j))) := rfl
theorem eqD_str {x y : Str} (hx : PyData.strOk x = true) (hy : PyData.strOk y = true) : eqD (.str x) (.str y) = some (.bl (decide (x = y))) := by
  unfold eqD
  rw [if_pos ⟨hx, hy⟩]
  simp only [eqv]
theorem eqD_ok {x y : D} (hx : shp 60 x = true) (hy : shp 60 y = true) : eqD x y = some (.bl (eqv x y)) := by
  unfold eqD
  rw [if_pos ⟨hx, hy⟩]
theorem neD_ok {x y : D} (hx : shp 60 x = true) (hy : shp 60 y = true) : neD x y = some (.bl (!eqv x y)) := by
  unfold neD
  rw [if_pos ⟨hx, hy⟩]
theorem dec_ne {x y : Str} (h : x ≠ y) : decide (x = y) = false := decide_eq_false h
theorem dec_eq (x : Str) : decide (x = x) = true := decide_eq_true rfl
def chK (x : D) (y : D) (f : Int → Int → Bool) (k : R D) : R D := match iiB f x y with
  | none => .bad
  | some false => .ok (.bl false)
  | some true => k
theorem dChain_ap (f g : Int → Int → Bool) (wa wb wc : ED) (s : DSt) : dChain f g wa wb wc s = ((wa s).bind fun x => (wb s).bind fun y => chK x y f ((wc s).bind fun z => chK y z g (.ok (.bl true)))) := by
  unfold dChain chK
  congr 1
  funext x
  congr 1
  funext y
  cases iiB f x y with
  | none => rfl
  | some b =>
    cases b with
    | false => rfl
    | true =>
      simp only
      congr 1
      funext z
      cases iiB g y z with
      | none => rfl
      | some b => cases b <;> rfl
theorem chK_int (i j : Int) (f : Int → Int → Bool) (k : R D) : chK (.int i) (.int j) f k = if f i j = true then k else .ok (.bl false) := by
  unfold chK
  simp only [iiB]
  cases f i j <;> rfl
theorem ok_ite {α : Type} (c : Prop) [Decidable c] (a b : α) : (if c then R.ok a else R.ok b) = R.ok (if c then a else b) := by split <;> rfl
theorem per_ite (c : Prop) [Decidable c] (a b : D) : (if c then O.per a else O.per b) = O.per (if c then a else b) := by split <;> rfl
theorem bl_ite (c : Prop) [Decidable c] (a b : Bool) : (if c then D.bl a else D.bl b) = D.bl (if c then a else b) := by split <;> rfl
theorem toS_ite {α : Type} (c : Prop) [Decidable c] (a b : R α) (s : DSt) (k : α → RS) : (if c then a else b).toS s k = if c then a.toS s k else b.toS s k := by split <;> rfl
theorem bind_ite {α β : Type} (c : Prop) [Decidable c] (a b : R α) (k : α → R β) : (if c then a else b).bind k = if c then a.bind k else b.bind k := by split <;> rfl
theorem run_ite (c : Prop) [Decidable c] (a b : RS) : (if c then a else b).run = if c then a.run else b.run := by split <;> rfl
end DL
namespace DL
open PySem PySem.Spec PyProof.Rows L2
theorem chK_bl (i j : Int) (f : Int → Int → Bool) (b : Bool) : chK (.int i) (.int j) f (.ok (.bl b)) = .ok (.bl (f i j && b)) := by
  unfold chK
  simp only [iiB]
  cases f i j <;> rfl
theorem isD_int_int (i : Int) : isD "int" (.int i) = some (.bl true) := rfl
theorem isD_int_bl (i : Bool) : isD "int" (.bl i) = some (.bl true) := rfl
theorem isD_int_non : isD "int" .non = some (.bl false) := rfl
theorem isD_int_str (i : Str) : isD "int" (.str i) = some (.bl false) := rfl
theorem isD_int_tup (i : List D) : isD "int" (.tup i) = some (.bl false) := rfl
theorem isD_int_lst (i : List D) : isD "int" (.lst i) = some (.bl false) := rfl
theorem isD_bool_int (i : Int) : isD "bool" (.int i) = some (.bl false) := rfl
theorem isD_bool_bl (i : Bool) : isD "bool" (.bl i) = some (.bl true) := rfl
theorem isD_bool_non : isD "bool" .non = some (.bl false) := rfl
theorem isD_bool_str (i : Str) : isD "bool" (.str i) = some (.bl false) := rfl
theorem isD_bool_tup (i : List D) : isD "bool" (.tup i) = some (.bl false) := rfl
theorem isD_bool_lst (i : List D) : isD "bool" (.lst i) = some (.bl false) := rfl
theorem isD_tuple_tup (i : List D) : isD "tuple" (.tup i) = some (.bl true) := rfl
theorem isD_tuple_lst (i : List D) : isD "tuple" (.lst i) = some (.bl false) := rfl
theorem isD_tuple_int (i : Int) : isD "tuple" (.int i) = some (.bl false) := rfl
theorem isD_tuple_bl (i : Bool) : isD "tuple" (.bl i) = some (.bl false) := rfl
theorem isD_tuple_non : isD "tuple" .non = some (.bl false) := rfl
theorem isD_tuple_str (i : Str) : isD "tuple" (.str i) = some (.bl false) := rfl
theorem isD_list_tup (i : List D) : isD "list" (.tup i) = some (.bl false) := rfl
theorem isD_list_lst (i : List D) : isD "list" (.lst i) = some (.bl true) := rfl
theorem isD_list_int (i : Int) : isD "list" (.int i) = some (.bl false) := rfl
theorem isD_list_bl (i : Bool) : isD "list" (.bl i) = some (.bl false) := rfl
theorem isD_list_non : isD "list" .non = some (.bl false) := rfl
theorem lstO_ok {xs : List D} (h : few xs = true) : lstO xs = some (.l xs) := by unfold lstO; rw [if_pos h]
theorem tupO_ok {xs : List D} (h : few xs = true) : tupO xs = some (.tup xs) := by unfold tupO; rw [if_pos h]
theorem appL_ok {ds : List D} {d : D} (h : line (ds.length + 1) = true) : appL ds d = some (ds ++ [d]) := by unfold appL; rw [if_pos h]
theorem extL_ok {ds es : List D} (h : line (ds.length + es.length) = true) : extL ds (.lst es) = some (ds ++ es) := by unfold extL; simp only; rw [if_pos h]
theorem catL_ok {xs ys : List D} (h : line (xs.length + ys.length) = true) : catL (.lst xs) (.lst ys) = some (.l (xs ++ ys)) := by unfold catL; simp only; rw [if_pos h]
theorem catT_ok {xs ys : List D} (h : line (xs.length + ys.length) = true) : catT (.tup xs) (.tup ys) = some (.tup (xs ++ ys)) := by unfold catT; simp only; rw [if_pos h]
theorem lenD_lst (xs : List D) : lenD (.lst xs) = some (.int xs.length) := rfl
theorem lenD_tup (xs : List D) : lenD (.tup xs) = some (.int xs.length) := rfl
theorem lenD_scr (xs : List Int) : lenD (.scr xs) = some (.int xs.length) := rfl
theorem atI_ok {α : Type} {xs : List α} {i : Nat} {d : α} (h : xs[i]? = some d) : L2.atI xs (i : Int) = some d := by
  have hl : i < xs.length := (List.getElem?_eq_some_iff.mp h).1
  have e : L2.ixN xs.length (i : Int) = some i := by
    unfold L2.ixN
    rw [if_pos (by omega), if_pos (by omega)]
    simp
  unfold L2.atI
  rw [e]
  exact h
theorem atI_int {α : Type} {xs : List α} {i : Int} (h0 : 0 ≤ i) : L2.atI xs i = xs[i.toNat]? := by
  unfold L2.atI L2.ixN
  rw [if_pos h0]
  by_cases h : i < xs.length
  · rw [if_pos h]; rfl
  · rw [if_neg h, List.getElem?_eq_none (by omega)]; rfl
theorem ixD_lst (xs : List D) (i : Int) : ixD (.lst xs) (.int i) = L2.atI xs i := rfl
theorem ixD_tup (xs : List D) (i : Int) : ixD (.tup xs) (.int i) = L2.atI xs i := rfl
theorem ixD_scr (xs : List Int) (i : Int) : ixD (.scr xs) (.int i) = (L2.atI xs i).map D.int := rfl
theorem sIx_pos {n d k : Nat} : HT.sIx n d (some (k : Int)) = min k n := HT.sIx_nat n d k
theorem cutD_to {α : Type} (xs : List α) (k : Nat) : cutD xs none (some (k : Int)) = xs.take k := by
  unfold cutD
  rw [sIx_pos]
  simp only [HT.sIx, List.drop_zero, Nat.sub_zero]
  by_cases h : k ≤ xs.length
  · rw [Nat.min_eq_left h]
  · rw [Nat.min_eq_right (by omega), List.take_of_length_le (Nat.le_refl _), List.take_of_length_le (by omega)]
theorem cutD_from {α : Type} (xs : List α) (k : Nat) : cutD xs (some (k : Int)) none = xs.drop k := by
  unfold cutD
  rw [sIx_pos]
  simp only [HT.sIx]
  by_cases h : k ≤ xs.length
  · rw [Nat.min_eq_left h, List.take_of_length_le (by simp)]
  · rw [Nat.min_eq_right (by omega), List.drop_of_length_le (Nat.le_refl _), List.drop_of_length_le (by omega), List.take_nil]
theorem slD_lst (xs : List D) (lo hi : Option Int) : slD (.lst xs) lo hi = some (.lst (cutD xs lo hi)) := by simp only [slD, slL, Option.map_some, O.toD]
theorem slD_scr (xs : List Int) (lo hi : Option Int) : slD (.scr xs) lo hi = some (.lst ((cutD xs lo hi).map .int)) := by simp only [slD, slL, Option.map_some, O.toD]
theorem slL_lst (xs : List D) (lo hi : Option Int) : slL (.lst xs) lo hi = some (.l (cutD xs lo hi)) := rfl
theorem seqD_lst (xs : List D) : seqD (.lst xs) = some xs := rfl
theorem seqD_tup (xs : List D) : seqD (.tup xs) = some xs := rfl
theorem seqD_scr (xs : List Int) : seqD (.scr xs) = some (xs.map .int) := rfl
theorem rng1_ok {j : Int} (h : big j) : rng1 [.int j] = some ((rngL 0 j).map .int) := by unfold rng1; simp only; rw [if_pos h]
theorem rng2_ok {i j : Int} (h : big i) (h2 : big j) : rng2 [.int i, .int j] = some ((rngL i j).map .int) := by unfold rng2; simp only; rw [if_pos ⟨h, h2⟩]
theorem log2_le {n k : Nat} (h : n < 2 ^ k) : n.log2 ≤ k := by
  by_cases z : n = 0
  · subst z
    simp
  · exact Nat.le_of_lt ((Nat.log2_lt z).mpr h)
theorem mulI_b {i j : Int} (k m : Nat) (hi : i.natAbs < 2 ^ k) (hj : j.natAbs < 2 ^ m) (h : k + m < 1000000) : mulI i j = some (.int (i * j)) :=
  mulI_ok (by have := log2_le hi; have := log2_le hj; omega)
theorem mulI_s {i j : Int} (hi : i.natAbs < 18446744073709551616) (hj : j.natAbs < 18446744073709551616) : mulI i j = some (.int (i * j)) := mulI_b 64 64 hi hj (by decide)
theorem divI_s {i j : Int} (h : j ≠ 0) (hj : j.natAbs < 18446744073709551616) : divI i j = some (.int (i.fdiv j)) := divI_ok2 h (by have := log2_le (k := 64) hj; omega)
/-- a loop over data that keeps P and runs through -/
theorem forL_thru (g : GD) (b : SD) (P : List D → DSt → Prop) : ∀ (ds : List D) (s : DSt), P ds s → (∀ d ds s, P (d :: ds) s → ∃ s1, g d s = some s1 ∧ ∃ s2, (b s1 = .nx s2 ∨ b s1 = .ct s2) ∧ P ds s2) → ∃ s', forL g b ds s = .nx s' ∧ P [] s'
  | [], s, h, _ => ⟨s, rfl, h⟩
  | d :: ds, s, h, hs => by
    obtain ⟨s1, e1, s2, e2, h2⟩ := hs d ds s h
    rw [forL_cons, e1, asgS_some]
    rcases e2 with e2 | e2
    · rw [e2, loop_nx]; exact forL_thru g b P ds s2 h2 hs
    · rw [e2, loop_ct]; exact forL_thru g b P ds s2 h2 hs
theorem natAbs_mul_lt {a b : Int} {k m : Nat} (h : a.natAbs < 2 ^ k) (h2 : b.natAbs < 2 ^ m) : (a * b).natAbs < 2 ^ (k + m) := by
  rw [Int.natAbs_mul, Nat.pow_add]
  exact Nat.mul_lt_mul_of_lt_of_le h (Nat.le_of_lt h2) (Nat.pow_pos (by decide))
theorem length_rngL (lo hi : Int) : (rngL lo hi).length = (hi - lo).toNat := by unfold rngL; simp
theorem mem_rngL {lo hi x : Int} (h : x ∈ rngL lo hi) : lo ≤ x ∧ x < hi := by
  unfold rngL at h
  simp only [List.mem_map, List.mem_range] at h
  obtain ⟨k, h1, rfl⟩ := h
  omega
theorem line_of {n : Nat} (h : n ≤ 16777216) : line n = true := decide_eq_true h
theorem all_bls (bs : List Bool) : allD (.lst (bs.map D.bl)) = some (.bl (bs.all id)) := by
  unfold allD liB
  simp only
  rw [blsOf_map]
  rfl
theorem any_bls (bs : List Bool) : anyD (.lst (bs.map D.bl)) = some (.bl (bs.any id)) := by
  unfold anyD liB
  simp only
  rw [blsOf_map]
  rfl
theorem tupO_ap (xs : List D) : tupO xs = if decide (xs.length ≤ 1000) = true then some (.tup xs) else none := rfl
theorem lstO_ap (xs : List D) : lstO xs = if decide (xs.length ≤ 1000) = true then some (.l xs) else none := rfl
theorem line_ap (n : Nat) : line n = decide (n ≤ 16777216) := rfl
theorem catL_ap (xs ys : List D) : catL (.lst xs) (.lst ys) = if line (xs.length + ys.length) = true then some (.l (xs ++ ys)) else none := rfl
theorem catT_ap (xs ys : List D) : catT (.tup xs) (.tup ys) = if line (xs.length + ys.length) = true then some (.tup (xs ++ ys)) else none := rfl
theorem repL_ap (xs : List D) (k : Int) : repL (.lst xs) (.int k) = if -(2 ^ 63) ≤ k ∧ k < 2 ^ 63 ∧ line (xs.length * k.toNat) = true then some (.l (List.replicate k.toNat xs).flatten) else none := rfl
theorem compL_all (g : GD) (t : DSt → R Bool) (e : ED) (s : DSt) (f : D → D) : ∀ (L : List D), (∀ c ∈ L, ∃ s1, g c s = some s1 ∧ t s1 = .ok true ∧ e s1 = .ok (f c)) → compL g t e s L = .ok (L.map f)
  | [], _ => rfl
  | c :: L, h => by
    obtain ⟨s1, h1, h2, h3⟩ := h c List.mem_cons_self
    rw [compL_cons, h1, gK_some, h2, h3, stepK_t, compL_all g t e s f L fun y hy => h y (List.mem_cons_of_mem _ hy), map_ok, List.map_cons]
theorem all_trues {L : List D} : allD (.lst (L.map fun _ => D.bl true)) = some (.bl true) := by
  have e : (L.map fun _ => D.bl true) = ((L.map fun _ => true).map D.bl) := by simp
  rw [e, all_bls]
  congr 2
  simp
theorem cast_lit (n : Nat) : ((no_index (OfNat.ofNat n) : Nat) : Int) = OfNat.ofNat n := rfl
/-- a loop that appends f x to a list -/
theorem forL_flat {α : Type} (g : GD) (b : SD) (inj : α → D) (f : α → List D) (M : Nat) (P : List D → DSt → Prop) : ∀ (xs : List α) (acc : List D) (s : DSt), P acc s → (acc ++ xs.flatMap f).length ≤ M →
    (∀ x ∈ xs, ∀ acc s, P acc s → (acc ++ f x).length ≤ M → ∃ s1 s2, g (inj x) s = some s1 ∧ b s1 = .nx s2 ∧ P (acc ++ f x) s2) → ∃ s', forL g b (xs.map inj) s = .nx s' ∧ P (acc ++ xs.flatMap f) s'
  | [], acc, s, h, _, _ => ⟨s, rfl, by simpa using h⟩
  | x :: xs, acc, s, h, hl, hs => by
    rw [List.flatMap_cons, ← List.append_assoc] at hl
    obtain ⟨s1, s2, e1, e2, h2⟩ := hs x List.mem_cons_self acc s h (by rw [List.length_append] at hl; omega)
    obtain ⟨s', e3, h3⟩ := forL_flat g b inj f M P xs (acc ++ f x) s2 h2 hl fun y hy => hs y (List.mem_cons_of_mem _ hy)
    refine ⟨s', ?_, ?_⟩
    · rw [List.map_cons, forL_cons, e1, asgS_some, e2, loop_nx]
      exact e3
    · rw [List.flatMap_cons, ← List.append_assoc]
      exact h3
theorem nodup_flat {α β : Type} (key : β → α) (f : α → List β) : ∀ (l : List α), l.Nodup → (∀ x ∈ l, (f x).Nodup) → (∀ x ∈ l, ∀ y ∈ f x, key y = x) → (l.flatMap f).Nodup
  | [], _, _, _ => List.nodup_nil
  | x :: l, h, h1, h2 => by
    rw [List.flatMap_cons, List.nodup_append]
    rw [List.nodup_cons] at h
    refine ⟨h1 x List.mem_cons_self, nodup_flat key f l h.2 (fun y hy => h1 y (List.mem_cons_of_mem _ hy)) (fun y hy => h2 y (List.mem_cons_of_mem _ hy)), fun a ha b hb e => ?_⟩
    subst e
    obtain ⟨y, hy, hb⟩ := List.mem_flatMap.mp hb
    have e1 := h2 x List.mem_cons_self a ha
    have e2 := h2 y (List.mem_cons_of_mem _ hy) a hb
    rw [e1] at e2
    exact h.1 (e2 ▸ hy)
theorem mem_rng {lo hi x : Int} : x ∈ rngL lo hi ↔ lo ≤ x ∧ x < hi := by
  refine ⟨mem_rngL, fun ⟨h1, h2⟩ => ?_⟩
  unfold rngL
  rw [List.mem_map]
  exact ⟨(x - lo).toNat, List.mem_range.mpr (by omega), by omega⟩
theorem nodup_map_inj {α β : Type} {f : α → β} (hf : ∀ a b, f a = f b → a = b) : ∀ {l : List α}, l.Nodup → (l.map f).Nodup
  | [], _ => List.nodup_nil
  | x :: l, h => by
    rw [List.nodup_cons] at h
    rw [List.map_cons, List.nodup_cons]
    refine ⟨fun hm => ?_, nodup_map_inj hf h.2⟩
    obtain ⟨y, hy, e⟩ := List.mem_map.mp hm
    exact h.1 (hf _ _ e ▸ hy)
theorem nodup_rng (lo hi : Int) : (rngL lo hi).Nodup := by
  unfold rngL
  exact nodup_map_inj (fun a b h => by omega) List.nodup_range
/-- trees of whole numbers -/
def itr : Nat → D → Bool
  | _, .int _ => true
  | n + 1, .tup xs => xs.all (itr n)
  | _, _ => false
mutual
theorem itr_eq : ∀ (d e : D) (n m : Nat), itr n d = true → itr m e = true → eqv d e = true → d = e
  | .int i, e, n, m, _, he, h => by
    cases e with
    | int j =>
      simp only [eqv, decide_eq_true_eq] at h
      rw [h]
    | _ => cases m <;> simp [itr] at he <;> simp [eqv] at h
  | .tup xs, e, n, m, hd, he, h => by
    cases e with
    | tup ys =>
      cases n with
      | zero => simp [itr] at hd
      | succ n =>
        cases m with
        | zero => simp [itr] at he
        | succ m =>
          simp only [eqv] at h
          simp only [itr] at hd he
          rw [itrs_eq xs ys n m hd he h]
    | _ => simp [eqv] at h
  | .non, e, n, m, hd, _, _ => by cases n <;> simp [itr] at hd
  | .bl _, e, n, m, hd, _, _ => by cases n <;> simp [itr] at hd
  | .str _, e, n, m, hd, _, _ => by cases n <;> simp [itr] at hd
  | .lst _, e, n, m, hd, _, _ => by cases n <;> simp [itr] at hd
  | .scr _, e, n, m, hd, _, _ => by cases n <;> simp [itr] at hd
  | .dT _, e, n, m, hd, _, _ => by cases n <;> simp [itr] at hd
  | .dK _, e, n, m, hd, _, _ => by cases n <;> simp [itr] at hd
  | .obj _ _, e, n, m, hd, _, _ => by cases n <;> simp [itr] at hd
theorem itrs_eq : ∀ (xs ys : List D) (n m : Nat), xs.all (itr n) = true → ys.all (itr m) = true → eqvs xs ys = true → xs = ys
  | [], [], _, _, _, _, _ => rfl
  | [], y :: ys, _, _, _, _, h => by simp [eqvs] at h
  | x :: xs, [], _, _, _, _, h => by simp [eqvs] at h
  | x :: xs, y :: ys, n, m, hd, he, h => by
    simp only [eqvs, Bool.and_eq_true] at h
    rw [List.all_cons, Bool.and_eq_true] at hd he
    rw [itr_eq x y n m hd.1 he.1 h.1, itrs_eq xs ys n m hd.2 he.2 h.2]
end
theorem itr_shp : ∀ (n : Nat) (d : D), itr n d = true → shp n d = true
  | 0, d, h => by cases d <;> simp [itr] at h <;> rfl
  | n + 1, d, h => by
    cases d with
    | int i => rfl
    | tup xs =>
      simp only [itr, List.all_eq_true] at h
      simp only [shp, List.all_eq_true]
      exact fun x hx => itr_shp n x (h x hx)
    | _ => simp [itr] at h
theorem toks_inj {x y : PyData} (h : PySem.W.alike x y = true) (e : PySem.W.keyToks x = PySem.W.keyToks y) : PyData.eqv x y = true := by
  cases q : PyData.eqv x y with
  | true => rfl
  | false =>
    have z := (PySem.W.toks_eqv x y h).2 q [] [.inl 0]
    rw [e, PySem.W.lex_pre] at z
    have z2 : PyProof.Rows.lexLt itemOrd (PySem.W.keyToks y) (PySem.W.keyToks y) = false := (listOrd itemOrd).irrefl _
    rw [z2] at z
    cases z
theorem leD_total : PySem.W.TotalLe leD := PySem.W.sortLe_total (listOrd itemOrd) false fun d : D => PySem.W.keyToks d.toP
/-- sorted lists of the same things are the same -/
theorem sort_perm {xs ys : List D} (h : xs.Perm ys) (hx : AlikeD xs) (ht : ∀ d ∈ xs, itr 60 d = true) : xs.mergeSort leD = ys.mergeSort leD := by
  have p : (xs.mergeSort leD).Perm (ys.mergeSort leD) := (List.mergeSort_perm xs leD).trans (h.trans (List.mergeSort_perm ys leD).symm)
  have tot : ∀ a b, (leD a b || leD b a) = true := fun a b => by
    rcases leD_total.total a b with z | z <;> simp [z]
  have s1 := List.pairwise_mergeSort (le := leD) leD_total.trans tot xs
  have s2 := List.pairwise_mergeSort (le := leD) leD_total.trans tot ys
  refine List.Perm.eq_of_pairwise (fun a b ha hb h1 h2 => ?_) s1 s2 p
  have ha : a ∈ xs := List.mem_mergeSort.mp ha
  have hb : b ∈ xs := h.mem_iff.mpr (List.mem_mergeSort.mp hb)
  have e1 : PySem.W.keyToks a.toP = PySem.W.keyToks b.toP := by
    have k1 : (!PyProof.Rows.lexLt itemOrd (PySem.W.keyToks b.toP) (PySem.W.keyToks a.toP)) = true := h1
    have k2 : (!PyProof.Rows.lexLt itemOrd (PySem.W.keyToks a.toP) (PySem.W.keyToks b.toP)) = true := h2
    rw [Bool.not_eq_true'] at k1 k2
    exact (listOrd itemOrd).total _ _ k2 k1
  have e2 := toks_inj (hx.1 a ha b hb) e1
  rw [eqv_toP a b ⟨60, itr_shp 60 a (ht a ha)⟩ ⟨60, itr_shp 60 b (ht b hb)⟩] at e2
  exact itr_eq a b 60 60 (ht a ha) (ht b hb) e2
theorem sortD_ok {ds : List D} (h : AlikeD ds) : sortD (.lst ds) = some (.l (ds.mergeSort leD)) := by
  unfold sortD
  simp only
  rw [if_pos h]
end DL

namespace K30
open PySem PySem.Spec PyProof.Rows L2 DL
def top (i : Nat) : Stmt := PySem.Challenge.pw_hecate_k30_lists_of_matrices.main.body.getD i (.Pass ⟨0, 0, 0, 0⟩)
noncomputable section
abbrev st__law_found : Stmt := top 15
def d__law_found : He.DefD := ⟨("_law_found", none), "_law_found", "_law_found", defArgs st__law_found, defBody st__law_found, defScope st__law_found, [], []⟩
abbrev st_is_integer : Stmt := top 5
def d_is_integer : He.DefD := ⟨("is_integer", none), "is_integer", "is_integer", defArgs st_is_integer, defBody st_is_integer, defScope st_is_integer, [], []⟩
abbrev st_look_at_number : Stmt := top 8
def d_look_at_number : He.DefD := ⟨("look_at_number", none), "look_at_number", "look_at_number", defArgs st_look_at_number, defBody st_look_at_number, defScope st_look_at_number, [], []⟩
abbrev st_merel : Stmt := top 9
def d_merel : He.DefD := ⟨("merel", none), "merel", "merel", defArgs st_merel, defBody st_merel, defScope st_merel, [], []⟩
abbrev st__law_cell : Stmt := top 12
def d__law_cell : He.DefD := ⟨("_law_cell", none), "_law_cell", "_law_cell", defArgs st__law_cell, defBody st__law_cell, defScope st__law_cell, [], []⟩
abbrev st__law_refused : Stmt := top 16
def d__law_refused : He.DefD := ⟨("_law_refused", none), "_law_refused", "_law_refused", defArgs st__law_refused, defBody st__law_refused, defScope st__law_refused, [], []⟩
abbrev st_law : Stmt := top 17
def d_law : He.DefD := ⟨("law", none), "law", "law", defArgs st_law, defBody st_law, defScope st_law, [], []⟩
def fn : List He.DefD := [d__law_found, d_is_integer, d_look_at_number, d_merel, d__law_cell, d__law_refused, d_law]
def subs : List (Str × Str) := [("HecateError", "HecateError"), ("BadSymbol", "HecateError"), ("BadSymbol", "BadSymbol"), ("BadNumber", "HecateError"), ("BadNumber", "BadNumber")]
def hd : HD := { gl := ["HecateError", "BadSymbol", "BadNumber", "_law_found", "is_integer", "look_at_number", "merel", "_law_cell", "_law_refused", "law"], fr := ["range", "int", "sorted", "isinstance", "bool", "len", "ValueError", "abs", "list", "all"], bi := [], cn := [("MOST_NUMBER", 60)], ex := ["HecateError", "BadSymbol", "BadNumber"], sub := fun x y => subs.contains (x, y) }
theorem glex_all : ∀ c ∈ hd.ex, c ∈ hd.gl := by decide
/-! ### _law_found -/
def N__law_found : List Str := ["n", "found", "a", "d", "b", "c"]
theorem sc__law_found : FnScope N__law_found ["n"] (defScope st__law_found) := ⟨rfl, rfl, rfl, by decide +kernel, rfl, by decide +kernel, by decide +kernel⟩
def ce__law_found_1 : ED :=
 f1 tupO (dCons (f1 tupO (dCons (dVar 2) (dCons (dC (.int 0)) (dNil)))) (dCons (f1 tupO (dCons (dVar 5) (dCons (dVar 3) (dNil)))) (dNil)))
def lb__law_found_2 : SD :=
 dSeq (dIfS (bAnd (asB (d2 eqD (dSee 4) (dC (.int 0)))) (asB (d2 eqD (d2 mulD (dVar 2) (dVar 3)) (dSee 0)))) (dSetO 1 (f2 catL (dPeek 1) (dDe (dComp (f1 rng1 (dCons (dVar 3) (dNil))) (gN 5) (dAll) (ce__law_found_1) [5])))) (dNx))
 (dIfS (bAnd (asB (d2 (ii gtI) (dVar 4) (dC (.int 0)))) (bAnd (asB (d2 (ii geI) (d2 mulD (dVar 2) (dVar 3)) (dVar 0))) (bAnd (asB (d2 eqD (d2 (ii modI) (f1 intD (d2 (ii subI) (d2 mulD (dVar 2) (dVar 3)) (dVar 0))) (dVar 4)) (dC (.int 0)))) (asB (d2 (ii ltI) (d2 (ii divI) (d2 (ii subI) (d2 mulD (dVar 2) (dVar 3)) (dVar 0)) (dVar 4)) (dVar 3)))))) (dMod 1 appL (f1 tupO (dCons (f1 tupO (dCons (dVar 2) (dCons (dVar 4) (dNil)))) (dCons (f1 tupO (dCons (d2 (ii divI) (d2 (ii subI) (d2 mulD (dVar 2) (dVar 3)) (dVar 0)) (dVar 4)) (dCons (dVar 3) (dNil)))) (dNil))))) (dNx))
def lb__law_found_3 : SD :=
 dFor (f1 rng1 (dCons (dVar 2) (dNil))) (gN 4) (lb__law_found_2)
def lb__law_found_4 : SD :=
 dFor (f1 rng2 (dCons (dC (.int 1)) (dCons (d2 (ii subI) (d2 addD (dVar 0) (dC (.int 2))) (dVar 2)) (dNil)))) (gN 3) (lb__law_found_3)
def wb__law_found : SD :=
 dSeq (dSetO 1 (f1 lstO (dNil)))
 (dSeq (dFor (f1 rng2 (dCons (dC (.int 1)) (dCons (d2 addD (dVar 0) (dC (.int 1))) (dNil)))) (gN 2) (lb__law_found_4))
 (dFrz 1 (dRetO (f1 sortD (dVar 1)))))
def mir__law_found : List D → R O := auto 1 6 wb__law_found
theorem mir__law_found_ap (x0 : D) : mir__law_found [x0] = (wb__law_found [some (.per x0), none, none, none, none, none]).run := auto_ap rfl
theorem ok__law_found {P : Program} {w : World} {K : PySem.W.Frag} {mg : Str → Option Value} {base : Heap} (T : Tp hd fn K mg) : GFn P w K mg base "_law_found" 1 mir__law_found :=
 gfn (d := d__law_found) (N := N__law_found) (k := 0) T 0 3 rfl rfl rfl rfl rfl sc__law_found (fun _ _ _ _ _ _ us hl => match us, hl with | [_], _ => rfl) (fun _ cdv A outer s H E B hB hr cd =>
 dss_cons (ds_setO 1 hB cd.nd (do_lst (da_nil)))
 (dss_cons (ds_for cd (di_range2 (by rfl) (T.free 0) (da_cons (de_int) (da_cons (de_addA (de_var 0 (pv 0)) (de_int)) (da_nil)))) (dg_name 2 hB (cd.toCe).nd) (dss_one (ds_for cd (di_range2 (by rfl) (T.free 0) (da_cons (de_int) (da_cons (de_sub (de_addA (de_var 0 (pv 0)) (de_int)) (de_var 2 (pv 2))) (da_nil)))) (dg_name 3 hB (cd.toCe).nd) (dss_one (ds_for cd (di_range1 (by rfl) (T.free 0) (da_cons (de_var 2 (pv 2)) (da_nil))) (dg_name 4 hB (cd.toCe).nd) (dss_cons (ds_if (dt_w (dw_and (dt_eq hr (dq_var 4 (pv 4)) (DP.dq (DE.dp (de_int)))) (dw_and1 (dt_eq hr (DP.dq (DE.dp (de_mulA (de_var 2 (pv 2)) (de_var 3 (pv 3))))) (dq_var 0 (pv 0)))))) (dss_one (ds_setO 1 hB cd.nd (do_cat (dp_var 1 (pv 1)) (DE.dp (DO.de (do_comp hB (cd.toCe) (di_range1 (by rfl) (T.free 0) (da_cons (de_var 3 (pv 3)) (da_nil))) (blkOk_by (own := [("c", 5)]) (N := N__law_found) (sc := defScope st__law_found) (by decide +kernel)) (fun _ hB _ _ _ _ _ => dg_name 5 hB (ce_blk (cd.toCe)).nd) (fun _ hB _ _ _ _ _ => dts_nil) (fun _ hB _ _ _ _ _ => de_tup (da_cons (de_tup (da_cons (de_var 2 (pv 2)) (da_cons (de_int) (da_nil)))) (da_cons (de_tup (da_cons (de_var 5 (pv 5)) (da_cons (de_var 3 (pv 3)) (da_nil)))) (da_nil)))))))))) (dss_nil))
 (dss_one (ds_if (dt_w (dw_and (dt_gt (de_var 4 (pv 4)) (de_int)) (dw_and (dt_ge (de_mulA (de_var 2 (pv 2)) (de_var 3 (pv 3))) (de_var 0 (pv 0))) (dw_and (dt_eq hr (DP.dq (DE.dp (de_mod (de_int1 (by rfl) (T.free 1) (de_sub (de_mulA (de_var 2 (pv 2)) (de_var 3 (pv 3))) (de_var 0 (pv 0)))) (de_var 4 (pv 4))))) (DP.dq (DE.dp (de_int)))) (dw_and1 (dt_lt (de_div (de_sub (de_mulA (de_var 2 (pv 2)) (de_var 3 (pv 3))) (de_var 0 (pv 0))) (de_var 4 (pv 4))) (de_var 3 (pv 3)))))))) (dss_one (ds_append 1 (pv 1) (de_tup (da_cons (de_tup (da_cons (de_var 2 (pv 2)) (da_cons (de_var 4 (pv 4)) (da_nil)))) (da_cons (de_tup (da_cons (de_div (de_sub (de_mulA (de_var 2 (pv 2)) (de_var 3 (pv 3))) (de_var 0 (pv 0))) (de_var 4 (pv 4))) (da_cons (de_var 3 (pv 3)) (da_nil)))) (da_nil)))))) (dss_nil)))))))))
 (dss_one (ds_frz 1 (ds_retO (do_sortedD hr (by rfl) (T.free 2) (de_var 1 (pv 1))))))))
/-! ### is_integer -/
def N_is_integer : List Str := ["value"]
theorem sc_is_integer : FnScope N_is_integer ["value"] (defScope st_is_integer) := ⟨rfl, rfl, rfl, by decide +kernel, rfl, by decide +kernel, by decide +kernel⟩
def wb_is_integer : SD :=
 dRet (dAnd (f1 (isD "int") (dPeek 0)) (f1 notV (f1 (isD "bool") (dPeek 0))))
def mir_is_integer : List D → R O := auto 1 1 wb_is_integer
theorem mir_is_integer_ap (x0 : D) : mir_is_integer [x0] = (wb_is_integer [some (.per x0)]).run := auto_ap rfl
theorem ok_is_integer {P : Program} {w : World} {K : PySem.W.Frag} {mg : Str → Option Value} {base : Heap} (T : Tp hd fn K mg) : GFn P w K mg base "is_integer" 1 mir_is_integer :=
 gfn (d := d_is_integer) (N := N_is_integer) (k := 0) T 1 4 rfl rfl rfl rfl rfl sc_is_integer (fun _ _ _ _ _ _ us hl => match us, hl with | [_], _ => rfl) (fun _ cdv A outer s H E B hB hr cd =>
 dss_one (ds_ret (de_and (de_isT (by rfl) (T.free 3) (by rfl) (T.free 1) DL.boot_int (by decide) (dp_var 0 (pv 0))) (de_one (de_not (de_isT (by rfl) (T.free 3) (by rfl) (T.free 4) DL.boot_bool (by decide) (dp_var 0 (pv 0))))))))
/-! ### look_at_number -/
def N_look_at_number : List Str := ["n"]
theorem sc_look_at_number : FnScope N_look_at_number ["n"] (defScope st_look_at_number) := ⟨rfl, rfl, rfl, by decide +kernel, rfl, by decide +kernel, by decide +kernel⟩
def wb_look_at_number : SD :=
 dIfS (bOr (bNot (f1 truD (dDe (dCall mir_is_integer (dCons (dVar 0) (dNil)))))) (bOr (asB (d2 (ii ltI) (dVar 0) (dC (.int 1)))) (asB (d2 (ii gtI) (dVar 0) (dC (.int 60)))))) (dRaise "BadNumber") (dNx)
def mir_look_at_number : List D → R O := auto 1 1 wb_look_at_number
theorem mir_look_at_number_ap (x0 : D) : mir_look_at_number [x0] = (wb_look_at_number [some (.per x0)]).run := auto_ap rfl
theorem ok_look_at_number {P : Program} {w : World} {K : PySem.W.Frag} {mg : Str → Option Value} {base : Heap} (T : Tp hd fn K mg) : GFn P w K mg base "look_at_number" 2 mir_look_at_number :=
 gfn (d := d_look_at_number) (N := N_look_at_number) (k := 1) T 2 5 rfl rfl rfl rfl rfl sc_look_at_number (fun _ _ _ _ _ _ us hl => match us, hl with | [_], _ => rfl) (fun _ cdv A outer s H E B hB hr cd =>
 dss_one (ds_if (dt_w (dw_or (dt_not (dt_of (DE.dp (DO.de (do_call (cd.toCe) (ok_is_integer T) (hr.mono (by decide)) (by rfl) (da_cons (de_var 0 (pv 0)) (da_nil))))))) (dw_or (dt_lt (de_var 0 (pv 0)) (de_int)) (dw_or1 (dt_gt (de_var 0 (pv 0)) (de_cst (by rfl) (T.int 0))))))) (dss_one (ds_raise cd (T.exc (x := "BadNumber") (by decide)).1 (T.glo 2) (T.exc (x := "BadNumber") (by decide)).2.1 (T.exc (x := "BadNumber") (by decide)).2.2.1 (T.exc (x := "BadNumber") (by decide)).2.2.2 (by rfl))) (dss_nil)))
/-! ### merel -/
def N_merel : List Str := ["n", "found", "a", "b", "c", "both"]
theorem sc_merel : FnScope N_merel ["n"] (defScope st_merel) := ⟨rfl, rfl, rfl, by decide +kernel, rfl, by decide +kernel, by decide +kernel⟩
def ce_merel_1 : ED :=
 f1 tupO (dCons (f1 tupO (dCons (dVar 2) (dCons (dC (.int 0)) (dNil)))) (dCons (f1 tupO (dCons (dVar 4) (dCons (d2 (ii divI) (dVar 0) (dVar 2)) (dNil)))) (dNil)))
def ce_merel_2 : ED :=
 f1 tupO (dCons (f1 tupO (dCons (dVar 2) (dCons (dVar 3) (dNil)))) (dCons (f1 tupO (dCons (dC (.int 0)) (dCons (d2 (ii divI) (dVar 0) (dVar 2)) (dNil)))) (dNil)))
def lb_merel_3 : SD :=
 dIfS (asB (d2 eqD (d2 (ii modI) (dVar 0) (dVar 2)) (dC (.int 0)))) (dSeq (dMod 1 extL (dDe (dComp (f1 rng1 (dCons (d2 (ii divI) (dVar 0) (dVar 2)) (dNil))) (gN 4) (dAll) (ce_merel_1) [4])))
 (dMod 1 extL (dDe (dComp (f1 rng2 (dCons (dC (.int 1)) (dCons (dVar 2) (dNil)))) (gN 3) (dAll) (ce_merel_2) [3])))) (dNx)
def lb_merel_4 : SD :=
 dIfS (asB (d2 eqD (d2 (ii modI) (dVar 5) (dVar 2)) (dC (.int 0)))) (dMod 1 appL (f1 tupO (dCons (f1 tupO (dCons (dVar 2) (dCons (dVar 3) (dNil)))) (dCons (f1 tupO (dCons (dVar 4) (dCons (d2 (ii divI) (dVar 5) (dVar 2)) (dNil)))) (dNil))))) (dNx)
def lb_merel_5 : SD :=
 dSeq (dSet 5 (d2 addD (dVar 0) (d2 mulD (dVar 3) (dVar 4))))
 (dFor (f1 rng2 (dCons (d2 addD (dVar 3) (dC (.int 1))) (dCons (d2 addD (d2 (ii divI) (dVar 5) (d2 addD (dVar 4) (dC (.int 1)))) (dC (.int 1))) (dNil)))) (gN 2) (lb_merel_4))
def lb_merel_6 : SD :=
 dFor (f1 rng2 (dCons (dC (.int 1)) (dCons (d2 (ii subI) (dVar 0) (dVar 3)) (dNil)))) (gN 4) (lb_merel_5)
def wb_merel : SD :=
 dSeq (dDrop (dCall mir_look_at_number (dCons (dVar 0) (dNil))))
 (dSeq (dSetO 1 (f1 lstO (dNil)))
 (dSeq (dFor (f1 rng2 (dCons (dC (.int 1)) (dCons (d2 addD (dVar 0) (dC (.int 1))) (dNil)))) (gN 2) (lb_merel_3))
 (dSeq (dFor (f1 rng2 (dCons (dC (.int 1)) (dCons (dVar 0) (dNil)))) (gN 3) (lb_merel_6))
 (dFrz 1 (dRetO (f1 sortD (dVar 1)))))))
def mir_merel : List D → R O := auto 1 6 wb_merel
theorem mir_merel_ap (x0 : D) : mir_merel [x0] = (wb_merel [some (.per x0), none, none, none, none, none]).run := auto_ap rfl
theorem ok_merel {P : Program} {w : World} {K : PySem.W.Frag} {mg : Str → Option Value} {base : Heap} (T : Tp hd fn K mg) : GFn P w K mg base "merel" 3 mir_merel :=
 gfn (d := d_merel) (N := N_merel) (k := 2) T 3 6 rfl rfl rfl rfl rfl sc_merel (fun _ _ _ _ _ _ us hl => match us, hl with | [_], _ => rfl) (fun _ cdv A outer s H E B hB hr cd =>
 dss_cons (ds_expr (do_call (cd.toCe) (ok_look_at_number T) (hr.mono (by decide)) (by rfl) (da_cons (de_var 0 (pv 0)) (da_nil))))
 (dss_cons (ds_setO 1 hB cd.nd (do_lst (da_nil)))
 (dss_cons (ds_for cd (di_range2 (by rfl) (T.free 0) (da_cons (de_int) (da_cons (de_addA (de_var 0 (pv 0)) (de_int)) (da_nil)))) (dg_name 2 hB (cd.toCe).nd) (dss_one (ds_if (dt_eq hr (DP.dq (DE.dp (de_mod (de_var 0 (pv 0)) (de_var 2 (pv 2))))) (DP.dq (DE.dp (de_int)))) (dss_cons (ds_extend 1 (pv 1) (DE.dp (DO.de (do_comp hB (cd.toCe) (di_range1 (by rfl) (T.free 0) (da_cons (de_div (de_var 0 (pv 0)) (de_var 2 (pv 2))) (da_nil))) (blkOk_by (own := [("c", 4)]) (N := N_merel) (sc := defScope st_merel) (by decide +kernel)) (fun _ hB _ _ _ _ _ => dg_name 4 hB (ce_blk (cd.toCe)).nd) (fun _ hB _ _ _ _ _ => dts_nil) (fun _ hB _ _ _ _ _ => de_tup (da_cons (de_tup (da_cons (de_var 2 (pv 2)) (da_cons (de_int) (da_nil)))) (da_cons (de_tup (da_cons (de_var 4 (pv 4)) (da_cons (de_div (de_var 0 (pv 0)) (de_var 2 (pv 2))) (da_nil)))) (da_nil))))))))
 (dss_one (ds_extend 1 (pv 1) (DE.dp (DO.de (do_comp hB (cd.toCe) (di_range2 (by rfl) (T.free 0) (da_cons (de_int) (da_cons (de_var 2 (pv 2)) (da_nil)))) (blkOk_by (own := [("b", 3)]) (N := N_merel) (sc := defScope st_merel) (by decide +kernel)) (fun _ hB _ _ _ _ _ => dg_name 3 hB (ce_blk (cd.toCe)).nd) (fun _ hB _ _ _ _ _ => dts_nil) (fun _ hB _ _ _ _ _ => de_tup (da_cons (de_tup (da_cons (de_var 2 (pv 2)) (da_cons (de_var 3 (pv 3)) (da_nil)))) (da_cons (de_tup (da_cons (de_int) (da_cons (de_div (de_var 0 (pv 0)) (de_var 2 (pv 2))) (da_nil)))) (da_nil)))))))))) (dss_nil))))
 (dss_cons (ds_for cd (di_range2 (by rfl) (T.free 0) (da_cons (de_int) (da_cons (de_var 0 (pv 0)) (da_nil)))) (dg_name 3 hB (cd.toCe).nd) (dss_one (ds_for cd (di_range2 (by rfl) (T.free 0) (da_cons (de_int) (da_cons (de_sub (de_var 0 (pv 0)) (de_var 3 (pv 3))) (da_nil)))) (dg_name 4 hB (cd.toCe).nd) (dss_cons (ds_set 5 hB cd.nd (de_addA (de_var 0 (pv 0)) (de_mulA (de_var 3 (pv 3)) (de_var 4 (pv 4)))))
 (dss_one (ds_for cd (di_range2 (by rfl) (T.free 0) (da_cons (de_addA (de_var 3 (pv 3)) (de_int)) (da_cons (de_addA (de_div (de_var 5 (pv 5)) (de_addA (de_var 4 (pv 4)) (de_int))) (de_int)) (da_nil)))) (dg_name 2 hB (cd.toCe).nd) (dss_one (ds_if (dt_eq hr (DP.dq (DE.dp (de_mod (de_var 5 (pv 5)) (de_var 2 (pv 2))))) (DP.dq (DE.dp (de_int)))) (dss_one (ds_append 1 (pv 1) (de_tup (da_cons (de_tup (da_cons (de_var 2 (pv 2)) (da_cons (de_var 3 (pv 3)) (da_nil)))) (da_cons (de_tup (da_cons (de_var 4 (pv 4)) (da_cons (de_div (de_var 5 (pv 5)) (de_var 2 (pv 2))) (da_nil)))) (da_nil)))))) (dss_nil)))))))))
 (dss_one (ds_frz 1 (ds_retO (do_sortedD hr (by rfl) (T.free 2) (de_var 1 (pv 1))))))))))
/-! ### _law_cell -/
def N__law_cell : List Str := ["script", "k"]
theorem sc__law_cell : FnScope N__law_cell ["script", "k"] (defScope st__law_cell) := ⟨rfl, rfl, rfl, by decide +kernel, rfl, by decide +kernel, by decide +kernel⟩
def wb__law_cell : SD :=
 dSeq (dIfS (asB (d2 (ii ltI) (dVar 1) (f1 lenD (dPeek 0)))) (dRet (f2 ixD (dPeek 0) (dVar 1))) (dNx))
 (dRet (dC (.int 0)))
def mir__law_cell : List D → R O := auto 2 2 wb__law_cell
theorem mir__law_cell_ap (x0 x1 : D) : mir__law_cell [x0, x1] = (wb__law_cell [some (.per x0), some (.per x1)]).run := auto_ap rfl
theorem ok__law_cell {P : Program} {w : World} {K : PySem.W.Frag} {mg : Str → Option Value} {base : Heap} (T : Tp hd fn K mg) : GFn P w K mg base "_law_cell" 1 mir__law_cell :=
 gfn (d := d__law_cell) (N := N__law_cell) (k := 0) T 4 7 rfl rfl rfl rfl rfl sc__law_cell (fun _ _ _ _ _ _ us hl => match us, hl with | [_, _], _ => rfl) (fun _ cdv A outer s H E B hB hr cd =>
 dss_cons (ds_if (dt_lt (de_var 1 (pv 1)) (de_len (by rfl) (T.free 5) (dp_var 0 (pv 0)))) (dss_one (ds_ret (de_ix (dp_var 0 (pv 0)) (de_var 1 (pv 1)) (fun _ _ => rfl)))) (dss_nil))
 (dss_one (ds_ret (de_int))))
/-! ### _law_refused -/
def N__law_refused : List Str := ["n", "e"]
theorem sc__law_refused : FnScope N__law_refused ["n"] (defScope st__law_refused) := ⟨rfl, rfl, rfl, by decide +kernel, rfl, by decide +kernel, by decide +kernel⟩
def wb__law_refused : SD :=
 dSeq (dTryAs (dDrop (dCall mir_merel (dCons (dVar 0) (dNil)))) hd.ex (fun c => hd.sub c "HecateError") 1 (fun c => dRet (dAnd (dC (.bl (hd.sub c "BadNumber"))) (dAnd (dC (.bl true)) (f1 notV (dC (.bl (hd.sub c "BadSymbol"))))))))
 (dRet (dC (.bl false)))
def mir__law_refused : List D → R O := auto 1 2 wb__law_refused
theorem mir__law_refused_ap (x0 : D) : mir__law_refused [x0] = (wb__law_refused [some (.per x0), none]).run := auto_ap rfl
theorem ok__law_refused {P : Program} {w : World} {K : PySem.W.Frag} {mg : Str → Option Value} {base : Heap} (T : Tp hd fn K mg) : GFn P w K mg base "_law_refused" 4 mir__law_refused :=
 gfn (d := d__law_refused) (N := N__law_refused) (k := 3) T 5 8 rfl rfl rfl rfl rfl sc__law_refused (fun _ _ _ _ _ _ us hl => match us, hl with | [_], _ => rfl) (fun _ cdv A outer s H E B hB hr cd =>
 dss_cons (ds_tryAs 1 hB cd rfl rfl rfl rfl ⟨rfl, by decide, .inl (T.glo 0)⟩ (exm_of T glex_all (y := "HecateError") (by decide)) (fun _ _ _ cd => dss_one (ds_expr (do_call (cd.toCe) (ok_merel T) (hr.mono (by decide)) (by rfl) (da_cons (de_var 0 (pv 0)) (da_nil))))) (fun c hcx _ C a oe pn hm hz hv => by cases hm.symm.trans (T.glex glex_all hcx); exact dss_one (ds_ret (de_and (de_isE 1 (T.excC hcx) hz hv (by rfl) (T.free 3) (pv 1) (pe_glob (v := .ref _) (by rfl) (T.glo 2) rfl) (cv_ref _) (T.sub hcx (y := "BadNumber") (by decide)).2) (de_and (de_isE 1 (T.excC hcx) hz hv (by rfl) (T.free 3) (pv 1) (pe_bltn (v := .ty "ValueError") (by rfl) (T.free 6) DL.boot_ValueError rfl) (cv_ty _) (T.excVE hcx)) (de_one (de_not (de_isE 1 (T.excC hcx) hz hv (by rfl) (T.free 3) (pv 1) (pe_glob (v := .ref _) (by rfl) (T.glo 1) rfl) (cv_ref _) (T.sub hcx (y := "BadSymbol") (by decide)).2))))))))
 (dss_one (ds_ret (de_bl))))
/-! ### law -/
def N_law : List Str := ["script", "cell", "n", "due", "turn", "told", "one"]
theorem sc_law : FnScope N_law ["script"] (defScope st_law) := ⟨rfl, rfl, rfl, by decide +kernel, rfl, by decide +kernel, by decide +kernel⟩
def lb_law_1 : SD :=
 dSeq (dSetO 5 (dCall mir_merel (dCons (dVar 2) (dNil))))
 (dSeq (dIfS (bOr (bNot (f1 truD (f1 (isD "list") (dPeek 5)))) (asB (d2 neD (dSee 5) (dSee 3)))) (dRet (dC (.bl false))) (dNx))
 (dMod 5 appL (f1 tupO (dCons (f1 tupO (dCons (dC (.int 1)) (dCons (dC (.int 0)) (dNil)))) (dCons (f1 tupO (dCons (dC (.int 0)) (dCons (dC (.int 1)) (dNil)))) (dNil))))))
def ce_law_2 : ED :=
 dDe (dCall mir__law_refused (dCons (dVar 6) (dNil)))
def wb_law : SD :=
 dSeq (dSet 1 (f1 (unI absI) (f1 intD (dDe (dCall mir__law_cell (dCons (dVar 0) (dCons (dC (.int 0)) (dNil))))))))
 (dSeq (dSet 2 (d2 addD (dC (.int 1)) (d2 (ii modI) (dVar 1) (f2 ixD (dDe (f1 lstO (dCons (dC (.int 20)) (dCons (dC (.int 20)) (dCons (dC (.int 60)) (dNil)))))) (d2 (ii modI) (d2 (ii divI) (dVar 1) (dC (.int 60))) (dC (.int 3)))))))
 (dSeq (dSet 3 (dDe (dCall mir__law_found (dCons (dVar 2) (dNil)))))
 (dSeq (dFor (f1 rng1 (dCons (dC (.int 2)) (dNil))) (gN 4) (lb_law_1))
 (dRet (f1 allD (dDe (dComp (f1 seqD (dDe (f1 lstO (dCons (dC (.int 0)) (dCons (dC (.int 61)) (dCons (dC (.bl true)) (dCons (dC (.bl false)) (dCons (d2 (ii subI) (dC (.int 0)) (dVar 2)) (dCons (d2 addD (dC (.int 61)) (d2 (ii modI) (dVar 1) (dC (.int 1000)))) (dNil)))))))))) (gN 6) (dAll) (ce_law_2) [6])))))))
def mir_law : List D → R O := auto 1 7 wb_law
theorem mir_law_ap (x0 : D) : mir_law [x0] = (wb_law [some (.per x0), none, none, none, none, none, none]).run := auto_ap rfl
theorem body_law {P : Program} {w : World} {K : PySem.W.Frag} {mg : Str → Option Value} {base : Heap} (T : Tp hd fn K mg) : ∀ (f : Addr) (cdv : Value) (A : Around) (outer : List Env) (s : Shared) (H : Hp) (E : XK) (B : Bd), Fre B → Room 4 (A.deeper (envOfC "law" (defScope st_law) s.heap.objs.size f cdv)) → Cd (cxOf (L2.CX P w) P w K mg base N_law "law" (defScope st_law) f cdv A outer s H E) (WE0 E) →
  DSs (cxOf (L2.CX P w) P w K mg base N_law "law" (defScope st_law) f cdv A outer s H E) B (WE0 E) (defBody st_law) wb_law :=
 fun _ cdv A outer s H E B hB hr cd => dss_cons (ds_set 1 hB cd.nd (de_abs (by rfl) (T.free 7) (de_int1 (by rfl) (T.free 1) (DO.de (do_call (cd.toCe) (ok__law_cell T) (hr.mono (by decide)) (by rfl) (da_cons (de_var 0 (pv 0)) (da_cons (de_int) (da_nil))))))))
 (dss_cons (ds_set 2 hB cd.nd (de_addA (de_int) (de_mod (de_var 1 (pv 1)) (de_ix (DE.dp (DO.de (do_lst (da_cons (de_int) (da_cons (de_int) (da_cons (de_int) (da_nil))))))) (de_mod (de_div (de_var 1 (pv 1)) (de_int)) (de_int)) (fun _ _ => rfl)))))
 (dss_cons (ds_set 3 hB cd.nd (DO.de (do_call (cd.toCe) (ok__law_found T) (hr.mono (by decide)) (by rfl) (da_cons (de_var 2 (pv 2)) (da_nil)))))
 (dss_cons (ds_for cd (di_range1 (by rfl) (T.free 0) (da_cons (de_int) (da_nil))) (dg_name 4 hB (cd.toCe).nd) (dss_cons (ds_setO 5 hB cd.nd (do_call (cd.toCe) (ok_merel T) (hr.mono (by decide)) (by rfl) (da_cons (de_var 2 (pv 2)) (da_nil))))
 (dss_cons (ds_if (dt_w (dw_or (dt_not (dt_of (DE.dp (de_isT (by rfl) (T.free 3) (by rfl) (T.free 8) DL.boot_list (by decide) (dp_var 5 (pv 5)))))) (dw_or1 (dt_ne hr (dq_var 5 (pv 5)) (dq_var 3 (pv 3)))))) (dss_one (ds_ret (de_bl))) (dss_nil))
 (dss_one (ds_append 5 (pv 5) (de_tup (da_cons (de_tup (da_cons (de_int) (da_cons (de_int) (da_nil)))) (da_cons (de_tup (da_cons (de_int) (da_cons (de_int) (da_nil)))) (da_nil)))))))))
 (dss_one (ds_ret (de_all rfl (by rfl) (T.free 9) (DE.dp (DO.de (do_comp hB (cd.toCe) (di_seq (DO.de (do_lst (da_cons (de_int) (da_cons (de_int) (da_cons (de_bl) (da_cons (de_bl) (da_cons (de_sub (de_int) (de_var 2 (pv 2))) (da_cons (de_addA (de_int) (de_mod (de_var 1 (pv 1)) (de_int))) (da_nil)))))))))) (blkOk_by (own := [("one", 6)]) (N := N_law) (sc := defScope st_law) (by decide +kernel)) (fun _ hB _ _ _ _ _ => dg_name 6 hB (ce_blk (cd.toCe)).nd) (fun _ hB _ _ _ _ _ => dts_nil) (fun _ hB _ _ _ _ _ => DO.de (do_call (ce_blk (cd.toCe)) (ok__law_refused T) (hr.mono (by decide)) (by rfl) (da_cons (de_var 6 (pv 6)) (da_nil)))))))))))))
end
end K30

namespace K30
open PySem PySem.Spec PyProof.Rows L2 DL
def quad (a b c d : Int) : D := .tup [.tup [.int a, .int b], .tup [.int c, .int d]]
def h1 (n a d b : Int) : List D := (if b = 0 ∧ a * d = n then (rngL 0 d).map (quad a 0 · d) else []) ++ (if 0 < b ∧ n ≤ a * d ∧ (a * d - n).fmod b = 0 ∧ (a * d - n).fdiv b < d then [quad a b ((a * d - n).fdiv b) d] else [])
def G1 (n : Int) : List D := (rngL 1 (n + 1)).flatMap fun a => (rngL 1 (n + 2 - a)).flatMap fun d => (rngL 0 a).flatMap fun b => h1 n a d b
theorem len_flat {α : Type} (f : α → List D) (k : Nat) : ∀ xs : List α, (∀ x ∈ xs, (f x).length ≤ k) → (xs.flatMap f).length ≤ xs.length * k
  | [], _ => by simp
  | x :: xs, h => by
    rw [List.flatMap_cons, List.length_append, List.length_cons, Nat.add_mul, Nat.one_mul]
    have := h x List.mem_cons_self
    have := len_flat f k xs fun y hy => h y (List.mem_cons_of_mem _ hy)
    omega
theorem len_h1 (n a d b : Int) (hd : d ≤ 60) : (h1 n a d b).length ≤ 61 := by
  unfold h1
  rw [List.length_append]
  have e1 : (if b = 0 ∧ a * d = n then (rngL 0 d).map (quad a 0 · d) else []).length ≤ 60 := by
    split
    · rw [List.length_map, length_rngL]; omega
    · exact Nat.zero_le _
  have e2 : (if 0 < b ∧ n ≤ a * d ∧ (a * d - n).fmod b = 0 ∧ (a * d - n).fdiv b < d then [quad a b ((a * d - n).fdiv b) d] else []).length ≤ 1 := by
    split <;> simp
  omega
theorem len_mul {a b c d : Nat} (h1 : a ≤ b) (h2 : c ≤ d) : a * c ≤ b * d := Nat.mul_le_mul h1 h2
theorem len_G1b (n a d : Int) (ha : a ≤ 60) (hd : d ≤ 60) : ((rngL 0 a).flatMap fun b => h1 n a d b).length ≤ 3660 :=
  Nat.le_trans (len_flat _ 61 _ fun b _ => len_h1 n a d b hd) (by rw [length_rngL]; exact len_mul (b := 60) (by omega) (Nat.le_refl 61))
theorem len_G1d (n a : Int) (hn : n ≤ 60) (h0 : 1 ≤ a) (ha : a ≤ 60) : ((rngL 1 (n + 2 - a)).flatMap fun d => (rngL 0 a).flatMap fun b => h1 n a d b).length ≤ 219600 :=
  Nat.le_trans (len_flat _ 3660 _ fun d hd => len_G1b n a d ha (by have := mem_rngL hd; omega)) (by rw [length_rngL]; exact len_mul (b := 60) (by omega) (Nat.le_refl 3660))
theorem len_G1 (n : Int) (hn : n ≤ 60) : (G1 n).length ≤ 13176000 :=
  Nat.le_trans (len_flat _ 219600 _ fun a ha => len_G1d n a hn (mem_rngL ha).1 (by have := mem_rngL ha; omega)) (by rw [length_rngL]; exact len_mul (b := 60) (by omega) (Nat.le_refl 219600))
/-! the innermost body -/
theorem found_comp (n a d b : Int) (acc : List D) (hd : 1 ≤ d) (hd2 : d ≤ 60) : dComp (f1 rng1 (dCons (dVar 3) dNil)) (gN 5) dAll ce__law_found_1 [5] [some (.per (.int n)), some (.l acc), some (.per (.int a)), some (.per (.int d)), some (.per (.int b)), none] = .ok (.l ((rngL 0 d).map (quad a 0 · d))) := by
  have hb : big d := by unfold big; omega
  have e := compL_map (gN 5) dAll ce__law_found_1 [some (.per (.int n)), some (.l acc), some (.per (.int a)), some (.per (.int d)), some (.per (.int b)), none] D.int (fun _ => true) (quad a 0 · d) (rngL 0 d) fun x _ => ⟨_, rfl, rfl, fun _ => by
    simp only [ce__law_found_1, quad, bind_ok, bind_exc, bind_bad, map_ok, map_exc, map_bad, of_some, of_none, toS_ok, toS_exc, toS_bad, dC_ap, rdV_per, rdP_per, rdP_l, rdS_per, rdS_l, dVar_ap, dPeek_ap, dSee_ap, toD_per, toD_l, d2_ap, d1_ap, toB_bl, asB_ap, f1_ap, f2_ap, f3_ap, dNil_ap, dCons_ap, dNo_ap, dYes_ap, asI_int, andK_t, andK_f, orK_t, orK_f, dAnd_ap, dOr_ap, bAnd_ap, bOr_ap, bNot_ap, dIf_ap, dNx_ap, dSeq_ap, then_nx, then_rt, then_bk, then_ct, then_exc, then_bad, dBk_ap, dCt_ap, dNever_ap, frzK_some, dFrz_ap, dSet_ap, dSetO_ap, dDrop_ap, dRet_ap, dRetO_ap, dRetN_ap, dMove_ap, dIfS_ap, dRaise_ap, asgK_some, dAsg_ap, gN_ap, gZ_ap, gC_ap, gU_tup, gU_lst, dPar2_ap, dPar3_ap, augK_per, optK_some, dAug_ap, dFor_ap, dCall_ap, dAll_ap, modK_l, optL_some, dMod_ap, dPop_ap, dTryOn_ap, keepRt_rt, catch_nx, catch_rt, dTryAs_ap, catchAs_nx, catchAs_rt, run_nx, run_rt, run_exc, ii_int, unI_int, addI_ap, subI_ap, ltI_ap, leI_ap, gtI_ap, geI_ap, addD_int, mulD_int, addD_lst, mulD_lst, negD_int, absI_ap, intD_int, intD_bl, notV_bl, truD_bl, truD_int, truD_non, eqD_int, neD_int, dChain_ap, chK_bl, isD_int_int, isD_int_bl, isD_int_non, isD_int_str, isD_int_tup, isD_int_lst, isD_bool_int, isD_bool_bl, isD_bool_non, isD_bool_str, isD_bool_tup, isD_bool_lst, isD_tuple_tup, isD_tuple_lst, isD_tuple_int, isD_tuple_bl, isD_tuple_non, isD_tuple_str, isD_list_tup, isD_list_lst, isD_list_int, isD_list_bl, isD_list_non, slD_lst, slD_scr, slL_lst, seqD_lst, seqD_tup, seqD_scr, lenD_lst, lenD_tup, lenD_scr, ixD_lst, ixD_tup, ixD_scr, loop_nx, loop_ct, loop_bk, loop_rt, loop_exc, asgS_some, forL_nil, compL_nil, gK_some, stepK_t, stepK_f, List.getElem?_cons_zero, List.getElem?_cons_succ, List.set_cons_zero, List.set_cons_succ, Option.bind_some, Option.map_some, if_true, if_false, Bool.false_eq_true, ite_true, ite_false, reduceIte, Bool.not_true, Bool.not_false, Bool.and_true, Bool.true_and, Bool.and_false, Bool.false_and, Bool.or_false, Bool.or_true, Bool.false_or, Bool.true_or, decide_true, decide_false, dDe_ap, dComp_ap, perAt_ap, perK_per, perK_none, wipeD_cons, wipeD_nil, List.all_cons, List.all_nil, tupO_ap, lstO_ap, line_ap, catL_ap, List.cons_append, List.nil_append, List.length_cons, List.length_nil, Nat.reduceAdd, Nat.reduceLeDiff]⟩
  rw [show (rngL 0 d).filter (fun _ => true) = rngL 0 d from List.filter_eq_self.mpr fun _ _ => rfl] at e
  have hl : decide (((rngL 0 d).map D.int).length ≤ 16777216) = true := line_of (by rw [List.length_map, length_rngL]; omega)
  simp only [rng1_ok hb, e, hl, bind_ok, bind_exc, bind_bad, map_ok, map_exc, map_bad, of_some, of_none, toS_ok, toS_exc, toS_bad, dC_ap, rdV_per, rdP_per, rdP_l, rdS_per, rdS_l, dVar_ap, dPeek_ap, dSee_ap, toD_per, toD_l, d2_ap, d1_ap, toB_bl, asB_ap, f1_ap, f2_ap, f3_ap, dNil_ap, dCons_ap, dNo_ap, dYes_ap, asI_int, andK_t, andK_f, orK_t, orK_f, dAnd_ap, dOr_ap, bAnd_ap, bOr_ap, bNot_ap, dIf_ap, dNx_ap, dSeq_ap, then_nx, then_rt, then_bk, then_ct, then_exc, then_bad, dBk_ap, dCt_ap, dNever_ap, frzK_some, dFrz_ap, dSet_ap, dSetO_ap, dDrop_ap, dRet_ap, dRetO_ap, dRetN_ap, dMove_ap, dIfS_ap, dRaise_ap, asgK_some, dAsg_ap, gN_ap, gZ_ap, gC_ap, gU_tup, gU_lst, dPar2_ap, dPar3_ap, augK_per, optK_some, dAug_ap, dFor_ap, dCall_ap, dAll_ap, modK_l, optL_some, dMod_ap, dPop_ap, dTryOn_ap, keepRt_rt, catch_nx, catch_rt, dTryAs_ap, catchAs_nx, catchAs_rt, run_nx, run_rt, run_exc, ii_int, unI_int, addI_ap, subI_ap, ltI_ap, leI_ap, gtI_ap, geI_ap, addD_int, mulD_int, addD_lst, mulD_lst, negD_int, absI_ap, intD_int, intD_bl, notV_bl, truD_bl, truD_int, truD_non, eqD_int, neD_int, dChain_ap, chK_bl, isD_int_int, isD_int_bl, isD_int_non, isD_int_str, isD_int_tup, isD_int_lst, isD_bool_int, isD_bool_bl, isD_bool_non, isD_bool_str, isD_bool_tup, isD_bool_lst, isD_tuple_tup, isD_tuple_lst, isD_tuple_int, isD_tuple_bl, isD_tuple_non, isD_tuple_str, isD_list_tup, isD_list_lst, isD_list_int, isD_list_bl, isD_list_non, slD_lst, slD_scr, slL_lst, seqD_lst, seqD_tup, seqD_scr, lenD_lst, lenD_tup, lenD_scr, ixD_lst, ixD_tup, ixD_scr, loop_nx, loop_ct, loop_bk, loop_rt, loop_exc, asgS_some, forL_nil, compL_nil, gK_some, stepK_t, stepK_f, List.getElem?_cons_zero, List.getElem?_cons_succ, List.set_cons_zero, List.set_cons_succ, Option.bind_some, Option.map_some, if_true, if_false, Bool.false_eq_true, ite_true, ite_false, reduceIte, Bool.not_true, Bool.not_false, Bool.and_true, Bool.true_and, Bool.and_false, Bool.false_and, Bool.or_false, Bool.or_true, Bool.false_or, Bool.true_or, decide_true, decide_false, dDe_ap, dComp_ap, perAt_ap, perK_per, perK_none, wipeD_cons, wipeD_nil, List.all_cons, List.all_nil, tupO_ap, lstO_ap, line_ap, catL_ap, List.cons_append, List.nil_append, List.length_cons, List.length_nil, Nat.reduceAdd, Nat.reduceLeDiff]
theorem found_step (n a d b : Int) (acc : List D) (hn0 : 1 ≤ n) (hn : n ≤ 60) (ha0 : 1 ≤ a) (ha : a ≤ 60) (hd0 : 1 ≤ d) (hd : d ≤ 60) (hb0 : 0 ≤ b) (hba : b < a) (hl : (acc ++ h1 n a d b).length ≤ 13176000) :
    lb__law_found_2 [some (.per (.int n)), some (.l acc), some (.per (.int a)), some (.per (.int d)), some (.per (.int b)), none] = .nx [some (.per (.int n)), some (.l (acc ++ h1 n a d b)), some (.per (.int a)), some (.per (.int d)), some (.per (.int b)), none] := by
  have m1 : mulI a d = some (.int (a * d)) := mulI_s (by omega) (by omega)
  have fc := found_comp n a d b acc hd0 hd
  by_cases hb : b = 0
  · subst hb
    by_cases he : a * d = n
    · have hh : h1 n a d 0 = (rngL 0 d).map (quad a 0 · d) := by
        unfold h1
        rw [if_pos ⟨rfl, he⟩, if_neg (by omega), List.append_nil]
      rw [hh] at hl ⊢
      have hl2 : line (acc.length + ((rngL 0 d).map (quad a 0 · d)).length) = true := line_of (by rw [← List.length_append]; omega)
      simp (discharger := first | decide +kernel | (with_unfolding_all rfl) | assumption | omega) only [lb__law_found_2, m1, he, fc, hl2, bind_ok, bind_exc, bind_bad, map_ok, map_exc, map_bad, of_some, of_none, toS_ok, toS_exc, toS_bad, dC_ap, rdV_per, rdP_per, rdP_l, rdS_per, rdS_l, dVar_ap, dPeek_ap, dSee_ap, toD_per, toD_l, d2_ap, d1_ap, toB_bl, asB_ap, f1_ap, f2_ap, f3_ap, dNil_ap, dCons_ap, dNo_ap, dYes_ap, asI_int, andK_t, andK_f, orK_t, orK_f, dAnd_ap, dOr_ap, bAnd_ap, bOr_ap, bNot_ap, dIf_ap, dNx_ap, dSeq_ap, then_nx, then_rt, then_bk, then_ct, then_exc, then_bad, dBk_ap, dCt_ap, dNever_ap, frzK_some, dFrz_ap, dSet_ap, dSetO_ap, dDrop_ap, dRet_ap, dRetO_ap, dRetN_ap, dMove_ap, dIfS_ap, dRaise_ap, asgK_some, dAsg_ap, gN_ap, gZ_ap, gC_ap, gU_tup, gU_lst, dPar2_ap, dPar3_ap, augK_per, optK_some, dAug_ap, dFor_ap, dCall_ap, dAll_ap, modK_l, optL_some, dMod_ap, dPop_ap, dTryOn_ap, keepRt_rt, catch_nx, catch_rt, dTryAs_ap, catchAs_nx, catchAs_rt, run_nx, run_rt, run_exc, ii_int, unI_int, addI_ap, subI_ap, ltI_ap, leI_ap, gtI_ap, geI_ap, addD_int, mulD_int, addD_lst, mulD_lst, negD_int, absI_ap, intD_int, intD_bl, notV_bl, truD_bl, truD_int, truD_non, eqD_int, neD_int, dChain_ap, chK_bl, isD_int_int, isD_int_bl, isD_int_non, isD_int_str, isD_int_tup, isD_int_lst, isD_bool_int, isD_bool_bl, isD_bool_non, isD_bool_str, isD_bool_tup, isD_bool_lst, isD_tuple_tup, isD_tuple_lst, isD_tuple_int, isD_tuple_bl, isD_tuple_non, isD_tuple_str, isD_list_tup, isD_list_lst, isD_list_int, isD_list_bl, isD_list_non, slD_lst, slD_scr, slL_lst, seqD_lst, seqD_tup, seqD_scr, lenD_lst, lenD_tup, lenD_scr, ixD_lst, ixD_tup, ixD_scr, loop_nx, loop_ct, loop_bk, loop_rt, loop_exc, asgS_some, forL_nil, compL_nil, gK_some, stepK_t, stepK_f, List.getElem?_cons_zero, List.getElem?_cons_succ, List.set_cons_zero, List.set_cons_succ, Option.bind_some, Option.map_some, if_true, if_false, Bool.false_eq_true, ite_true, ite_false, reduceIte, Bool.not_true, Bool.not_false, Bool.and_true, Bool.true_and, Bool.and_false, Bool.false_and, Bool.or_false, Bool.or_true, Bool.false_or, Bool.true_or, decide_true, decide_false, dDe_ap, dComp_ap, perAt_ap, perK_per, perK_none, wipeD_cons, wipeD_nil, List.all_cons, List.all_nil, tupO_ap, lstO_ap, line_ap, catL_ap, List.cons_append, List.nil_append, List.length_cons, List.length_nil, Nat.reduceAdd, Nat.reduceLeDiff, cast_lit, atI_int, Int.reduceLT, Int.reduceLE, Int.reduceGT, Int.reduceGE, Int.reduceMul, Int.reduceAdd, Int.reduceSub, Int.reduceNeg, Int.reduceFMod, Int.reduceFDiv, Int.reduceEq, Int.reduceNe, Int.reducePow, Int.reduceToNat, Nat.reduceLT, Nat.reduceLeDiff, Nat.reduceAdd, Nat.reduceMul, Nat.reduceSub, Nat.reduceEqDiff, ne_eq, not_false_eq_true, not_true_eq_false, and_true, true_and, and_self, and_false, false_and, or_true, true_or, or_false, false_or, List.length_cons, List.length_nil]
    · have hh : h1 n a d 0 = [] := by
        unfold h1
        rw [if_neg (by omega), if_neg (by omega)]
        rfl
      rw [hh, List.append_nil]
      simp (discharger := first | decide +kernel | (with_unfolding_all rfl) | assumption | omega) only [lb__law_found_2, m1, he, bind_ok, bind_exc, bind_bad, map_ok, map_exc, map_bad, of_some, of_none, toS_ok, toS_exc, toS_bad, dC_ap, rdV_per, rdP_per, rdP_l, rdS_per, rdS_l, dVar_ap, dPeek_ap, dSee_ap, toD_per, toD_l, d2_ap, d1_ap, toB_bl, asB_ap, f1_ap, f2_ap, f3_ap, dNil_ap, dCons_ap, dNo_ap, dYes_ap, asI_int, andK_t, andK_f, orK_t, orK_f, dAnd_ap, dOr_ap, bAnd_ap, bOr_ap, bNot_ap, dIf_ap, dNx_ap, dSeq_ap, then_nx, then_rt, then_bk, then_ct, then_exc, then_bad, dBk_ap, dCt_ap, dNever_ap, frzK_some, dFrz_ap, dSet_ap, dSetO_ap, dDrop_ap, dRet_ap, dRetO_ap, dRetN_ap, dMove_ap, dIfS_ap, dRaise_ap, asgK_some, dAsg_ap, gN_ap, gZ_ap, gC_ap, gU_tup, gU_lst, dPar2_ap, dPar3_ap, augK_per, optK_some, dAug_ap, dFor_ap, dCall_ap, dAll_ap, modK_l, optL_some, dMod_ap, dPop_ap, dTryOn_ap, keepRt_rt, catch_nx, catch_rt, dTryAs_ap, catchAs_nx, catchAs_rt, run_nx, run_rt, run_exc, ii_int, unI_int, addI_ap, subI_ap, ltI_ap, leI_ap, gtI_ap, geI_ap, addD_int, mulD_int, addD_lst, mulD_lst, negD_int, absI_ap, intD_int, intD_bl, notV_bl, truD_bl, truD_int, truD_non, eqD_int, neD_int, dChain_ap, chK_bl, isD_int_int, isD_int_bl, isD_int_non, isD_int_str, isD_int_tup, isD_int_lst, isD_bool_int, isD_bool_bl, isD_bool_non, isD_bool_str, isD_bool_tup, isD_bool_lst, isD_tuple_tup, isD_tuple_lst, isD_tuple_int, isD_tuple_bl, isD_tuple_non, isD_tuple_str, isD_list_tup, isD_list_lst, isD_list_int, isD_list_bl, isD_list_non, slD_lst, slD_scr, slL_lst, seqD_lst, seqD_tup, seqD_scr, lenD_lst, lenD_tup, lenD_scr, ixD_lst, ixD_tup, ixD_scr, loop_nx, loop_ct, loop_bk, loop_rt, loop_exc, asgS_some, forL_nil, compL_nil, gK_some, stepK_t, stepK_f, List.getElem?_cons_zero, List.getElem?_cons_succ, List.set_cons_zero, List.set_cons_succ, Option.bind_some, Option.map_some, if_true, if_false, Bool.false_eq_true, ite_true, ite_false, reduceIte, Bool.not_true, Bool.not_false, Bool.and_true, Bool.true_and, Bool.and_false, Bool.false_and, Bool.or_false, Bool.or_true, Bool.false_or, Bool.true_or, decide_true, decide_false, dDe_ap, dComp_ap, perAt_ap, perK_per, perK_none, wipeD_cons, wipeD_nil, List.all_cons, List.all_nil, tupO_ap, lstO_ap, line_ap, catL_ap, List.cons_append, List.nil_append, List.length_cons, List.length_nil, Nat.reduceAdd, Nat.reduceLeDiff, cast_lit, atI_int, Int.reduceLT, Int.reduceLE, Int.reduceGT, Int.reduceGE, Int.reduceMul, Int.reduceAdd, Int.reduceSub, Int.reduceNeg, Int.reduceFMod, Int.reduceFDiv, Int.reduceEq, Int.reduceNe, Int.reducePow, Int.reduceToNat, Nat.reduceLT, Nat.reduceLeDiff, Nat.reduceAdd, Nat.reduceMul, Nat.reduceSub, Nat.reduceEqDiff, ne_eq, not_false_eq_true, not_true_eq_false, and_true, true_and, and_self, and_false, false_and, or_true, true_or, or_false, false_or, List.length_cons, List.length_nil]
  · have hb1 : 0 < b := by omega
    have hbl : (decide (b = 0)) = false := decide_eq_false hb
    by_cases c1 : n ≤ a * d
    · by_cases c2 : (a * d - n).fmod b = 0
      · by_cases c3 : (a * d - n).fdiv b < d
        · have hh : h1 n a d b = [quad a b ((a * d - n).fdiv b) d] := by
            unfold h1
            rw [if_neg (fun z => hb z.1), if_pos ⟨hb1, c1, c2, c3⟩]
            rfl
          rw [hh] at hl ⊢
          have hl2 : line (acc.length + 1) = true := line_of (by rw [List.length_append, List.length_singleton] at hl; omega)
          simp (discharger := first | decide +kernel | (with_unfolding_all rfl) | assumption | omega) only [lb__law_found_2, m1, hb, hb1, c1, c2, c3, modI_ok, divI_s, appL_ok hl2, quad, bind_ok, bind_exc, bind_bad, map_ok, map_exc, map_bad, of_some, of_none, toS_ok, toS_exc, toS_bad, dC_ap, rdV_per, rdP_per, rdP_l, rdS_per, rdS_l, dVar_ap, dPeek_ap, dSee_ap, toD_per, toD_l, d2_ap, d1_ap, toB_bl, asB_ap, f1_ap, f2_ap, f3_ap, dNil_ap, dCons_ap, dNo_ap, dYes_ap, asI_int, andK_t, andK_f, orK_t, orK_f, dAnd_ap, dOr_ap, bAnd_ap, bOr_ap, bNot_ap, dIf_ap, dNx_ap, dSeq_ap, then_nx, then_rt, then_bk, then_ct, then_exc, then_bad, dBk_ap, dCt_ap, dNever_ap, frzK_some, dFrz_ap, dSet_ap, dSetO_ap, dDrop_ap, dRet_ap, dRetO_ap, dRetN_ap, dMove_ap, dIfS_ap, dRaise_ap, asgK_some, dAsg_ap, gN_ap, gZ_ap, gC_ap, gU_tup, gU_lst, dPar2_ap, dPar3_ap, augK_per, optK_some, dAug_ap, dFor_ap, dCall_ap, dAll_ap, modK_l, optL_some, dMod_ap, dPop_ap, dTryOn_ap, keepRt_rt, catch_nx, catch_rt, dTryAs_ap, catchAs_nx, catchAs_rt, run_nx, run_rt, run_exc, ii_int, unI_int, addI_ap, subI_ap, ltI_ap, leI_ap, gtI_ap, geI_ap, addD_int, mulD_int, addD_lst, mulD_lst, negD_int, absI_ap, intD_int, intD_bl, notV_bl, truD_bl, truD_int, truD_non, eqD_int, neD_int, dChain_ap, chK_bl, isD_int_int, isD_int_bl, isD_int_non, isD_int_str, isD_int_tup, isD_int_lst, isD_bool_int, isD_bool_bl, isD_bool_non, isD_bool_str, isD_bool_tup, isD_bool_lst, isD_tuple_tup, isD_tuple_lst, isD_tuple_int, isD_tuple_bl, isD_tuple_non, isD_tuple_str, isD_list_tup, isD_list_lst, isD_list_int, isD_list_bl, isD_list_non, slD_lst, slD_scr, slL_lst, seqD_lst, seqD_tup, seqD_scr, lenD_lst, lenD_tup, lenD_scr, ixD_lst, ixD_tup, ixD_scr, loop_nx, loop_ct, loop_bk, loop_rt, loop_exc, asgS_some, forL_nil, compL_nil, gK_some, stepK_t, stepK_f, List.getElem?_cons_zero, List.getElem?_cons_succ, List.set_cons_zero, List.set_cons_succ, Option.bind_some, Option.map_some, if_true, if_false, Bool.false_eq_true, ite_true, ite_false, reduceIte, Bool.not_true, Bool.not_false, Bool.and_true, Bool.true_and, Bool.and_false, Bool.false_and, Bool.or_false, Bool.or_true, Bool.false_or, Bool.true_or, decide_true, decide_false, dDe_ap, dComp_ap, perAt_ap, perK_per, perK_none, wipeD_cons, wipeD_nil, List.all_cons, List.all_nil, tupO_ap, lstO_ap, line_ap, catL_ap, List.cons_append, List.nil_append, List.length_cons, List.length_nil, Nat.reduceAdd, Nat.reduceLeDiff, cast_lit, atI_int, Int.reduceLT, Int.reduceLE, Int.reduceGT, Int.reduceGE, Int.reduceMul, Int.reduceAdd, Int.reduceSub, Int.reduceNeg, Int.reduceFMod, Int.reduceFDiv, Int.reduceEq, Int.reduceNe, Int.reducePow, Int.reduceToNat, Nat.reduceLT, Nat.reduceLeDiff, Nat.reduceAdd, Nat.reduceMul, Nat.reduceSub, Nat.reduceEqDiff, ne_eq, not_false_eq_true, not_true_eq_false, and_true, true_and, and_self, and_false, false_and, or_true, true_or, or_false, false_or, List.length_cons, List.length_nil]
        · have hh : h1 n a d b = [] := by
            unfold h1
            rw [if_neg (fun z => hb z.1), if_neg (fun z => c3 z.2.2.2)]
            rfl
          rw [hh, List.append_nil]
          simp (discharger := first | decide +kernel | (with_unfolding_all rfl) | assumption | omega) only [lb__law_found_2, m1, hb, hb1, c1, c2, c3, modI_ok, divI_s, bind_ok, bind_exc, bind_bad, map_ok, map_exc, map_bad, of_some, of_none, toS_ok, toS_exc, toS_bad, dC_ap, rdV_per, rdP_per, rdP_l, rdS_per, rdS_l, dVar_ap, dPeek_ap, dSee_ap, toD_per, toD_l, d2_ap, d1_ap, toB_bl, asB_ap, f1_ap, f2_ap, f3_ap, dNil_ap, dCons_ap, dNo_ap, dYes_ap, asI_int, andK_t, andK_f, orK_t, orK_f, dAnd_ap, dOr_ap, bAnd_ap, bOr_ap, bNot_ap, dIf_ap, dNx_ap, dSeq_ap, then_nx, then_rt, then_bk, then_ct, then_exc, then_bad, dBk_ap, dCt_ap, dNever_ap, frzK_some, dFrz_ap, dSet_ap, dSetO_ap, dDrop_ap, dRet_ap, dRetO_ap, dRetN_ap, dMove_ap, dIfS_ap, dRaise_ap, asgK_some, dAsg_ap, gN_ap, gZ_ap, gC_ap, gU_tup, gU_lst, dPar2_ap, dPar3_ap, augK_per, optK_some, dAug_ap, dFor_ap, dCall_ap, dAll_ap, modK_l, optL_some, dMod_ap, dPop_ap, dTryOn_ap, keepRt_rt, catch_nx, catch_rt, dTryAs_ap, catchAs_nx, catchAs_rt, run_nx, run_rt, run_exc, ii_int, unI_int, addI_ap, subI_ap, ltI_ap, leI_ap, gtI_ap, geI_ap, addD_int, mulD_int, addD_lst, mulD_lst, negD_int, absI_ap, intD_int, intD_bl, notV_bl, truD_bl, truD_int, truD_non, eqD_int, neD_int, dChain_ap, chK_bl, isD_int_int, isD_int_bl, isD_int_non, isD_int_str, isD_int_tup, isD_int_lst, isD_bool_int, isD_bool_bl, isD_bool_non, isD_bool_str, isD_bool_tup, isD_bool_lst, isD_tuple_tup, isD_tuple_lst, isD_tuple_int, isD_tuple_bl, isD_tuple_non, isD_tuple_str, isD_list_tup, isD_list_lst, isD_list_int, isD_list_bl, isD_list_non, slD_lst, slD_scr, slL_lst, seqD_lst, seqD_tup, seqD_scr, lenD_lst, lenD_tup, lenD_scr, ixD_lst, ixD_tup, ixD_scr, loop_nx, loop_ct, loop_bk, loop_rt, loop_exc, asgS_some, forL_nil, compL_nil, gK_some, stepK_t, stepK_f, List.getElem?_cons_zero, List.getElem?_cons_succ, List.set_cons_zero, List.set_cons_succ, Option.bind_some, Option.map_some, if_true, if_false, Bool.false_eq_true, ite_true, ite_false, reduceIte, Bool.not_true, Bool.not_false, Bool.and_true, Bool.true_and, Bool.and_false, Bool.false_and, Bool.or_false, Bool.or_true, Bool.false_or, Bool.true_or, decide_true, decide_false, dDe_ap, dComp_ap, perAt_ap, perK_per, perK_none, wipeD_cons, wipeD_nil, List.all_cons, List.all_nil, tupO_ap, lstO_ap, line_ap, catL_ap, List.cons_append, List.nil_append, List.length_cons, List.length_nil, Nat.reduceAdd, Nat.reduceLeDiff, cast_lit, atI_int, Int.reduceLT, Int.reduceLE, Int.reduceGT, Int.reduceGE, Int.reduceMul, Int.reduceAdd, Int.reduceSub, Int.reduceNeg, Int.reduceFMod, Int.reduceFDiv, Int.reduceEq, Int.reduceNe, Int.reducePow, Int.reduceToNat, Nat.reduceLT, Nat.reduceLeDiff, Nat.reduceAdd, Nat.reduceMul, Nat.reduceSub, Nat.reduceEqDiff, ne_eq, not_false_eq_true, not_true_eq_false, and_true, true_and, and_self, and_false, false_and, or_true, true_or, or_false, false_or, List.length_cons, List.length_nil]
      · have hh : h1 n a d b = [] := by
          unfold h1
          rw [if_neg (fun z => hb z.1), if_neg (fun z => c2 z.2.2.1)]
          rfl
        rw [hh, List.append_nil]
        simp (discharger := first | decide +kernel | (with_unfolding_all rfl) | assumption | omega) only [lb__law_found_2, m1, hb, hb1, c1, c2, modI_ok, divI_s, bind_ok, bind_exc, bind_bad, map_ok, map_exc, map_bad, of_some, of_none, toS_ok, toS_exc, toS_bad, dC_ap, rdV_per, rdP_per, rdP_l, rdS_per, rdS_l, dVar_ap, dPeek_ap, dSee_ap, toD_per, toD_l, d2_ap, d1_ap, toB_bl, asB_ap, f1_ap, f2_ap, f3_ap, dNil_ap, dCons_ap, dNo_ap, dYes_ap, asI_int, andK_t, andK_f, orK_t, orK_f, dAnd_ap, dOr_ap, bAnd_ap, bOr_ap, bNot_ap, dIf_ap, dNx_ap, dSeq_ap, then_nx, then_rt, then_bk, then_ct, then_exc, then_bad, dBk_ap, dCt_ap, dNever_ap, frzK_some, dFrz_ap, dSet_ap, dSetO_ap, dDrop_ap, dRet_ap, dRetO_ap, dRetN_ap, dMove_ap, dIfS_ap, dRaise_ap, asgK_some, dAsg_ap, gN_ap, gZ_ap, gC_ap, gU_tup, gU_lst, dPar2_ap, dPar3_ap, augK_per, optK_some, dAug_ap, dFor_ap, dCall_ap, dAll_ap, modK_l, optL_some, dMod_ap, dPop_ap, dTryOn_ap, keepRt_rt, catch_nx, catch_rt, dTryAs_ap, catchAs_nx, catchAs_rt, run_nx, run_rt, run_exc, ii_int, unI_int, addI_ap, subI_ap, ltI_ap, leI_ap, gtI_ap, geI_ap, addD_int, mulD_int, addD_lst, mulD_lst, negD_int, absI_ap, intD_int, intD_bl, notV_bl, truD_bl, truD_int, truD_non, eqD_int, neD_int, dChain_ap, chK_bl, isD_int_int, isD_int_bl, isD_int_non, isD_int_str, isD_int_tup, isD_int_lst, isD_bool_int, isD_bool_bl, isD_bool_non, isD_bool_str, isD_bool_tup, isD_bool_lst, isD_tuple_tup, isD_tuple_lst, isD_tuple_int, isD_tuple_bl, isD_tuple_non, isD_tuple_str, isD_list_tup, isD_list_lst, isD_list_int, isD_list_bl, isD_list_non, slD_lst, slD_scr, slL_lst, seqD_lst, seqD_tup, seqD_scr, lenD_lst, lenD_tup, lenD_scr, ixD_lst, ixD_tup, ixD_scr, loop_nx, loop_ct, loop_bk, loop_rt, loop_exc, asgS_some, forL_nil, compL_nil, gK_some, stepK_t, stepK_f, List.getElem?_cons_zero, List.getElem?_cons_succ, List.set_cons_zero, List.set_cons_succ, Option.bind_some, Option.map_some, if_true, if_false, Bool.false_eq_true, ite_true, ite_false, reduceIte, Bool.not_true, Bool.not_false, Bool.and_true, Bool.true_and, Bool.and_false, Bool.false_and, Bool.or_false, Bool.or_true, Bool.false_or, Bool.true_or, decide_true, decide_false, dDe_ap, dComp_ap, perAt_ap, perK_per, perK_none, wipeD_cons, wipeD_nil, List.all_cons, List.all_nil, tupO_ap, lstO_ap, line_ap, catL_ap, List.cons_append, List.nil_append, List.length_cons, List.length_nil, Nat.reduceAdd, Nat.reduceLeDiff, cast_lit, atI_int, Int.reduceLT, Int.reduceLE, Int.reduceGT, Int.reduceGE, Int.reduceMul, Int.reduceAdd, Int.reduceSub, Int.reduceNeg, Int.reduceFMod, Int.reduceFDiv, Int.reduceEq, Int.reduceNe, Int.reducePow, Int.reduceToNat, Nat.reduceLT, Nat.reduceLeDiff, Nat.reduceAdd, Nat.reduceMul, Nat.reduceSub, Nat.reduceEqDiff, ne_eq, not_false_eq_true, not_true_eq_false, and_true, true_and, and_self, and_false, false_and, or_true, true_or, or_false, false_or, List.length_cons, List.length_nil]
    · have hh : h1 n a d b = [] := by
        unfold h1
        rw [if_neg (fun z => hb z.1), if_neg (fun z => c1 z.2.1)]
        rfl
      rw [hh, List.append_nil]
      simp (discharger := first | decide +kernel | (with_unfolding_all rfl) | assumption | omega) only [lb__law_found_2, m1, hb, hb1, c1, bind_ok, bind_exc, bind_bad, map_ok, map_exc, map_bad, of_some, of_none, toS_ok, toS_exc, toS_bad, dC_ap, rdV_per, rdP_per, rdP_l, rdS_per, rdS_l, dVar_ap, dPeek_ap, dSee_ap, toD_per, toD_l, d2_ap, d1_ap, toB_bl, asB_ap, f1_ap, f2_ap, f3_ap, dNil_ap, dCons_ap, dNo_ap, dYes_ap, asI_int, andK_t, andK_f, orK_t, orK_f, dAnd_ap, dOr_ap, bAnd_ap, bOr_ap, bNot_ap, dIf_ap, dNx_ap, dSeq_ap, then_nx, then_rt, then_bk, then_ct, then_exc, then_bad, dBk_ap, dCt_ap, dNever_ap, frzK_some, dFrz_ap, dSet_ap, dSetO_ap, dDrop_ap, dRet_ap, dRetO_ap, dRetN_ap, dMove_ap, dIfS_ap, dRaise_ap, asgK_some, dAsg_ap, gN_ap, gZ_ap, gC_ap, gU_tup, gU_lst, dPar2_ap, dPar3_ap, augK_per, optK_some, dAug_ap, dFor_ap, dCall_ap, dAll_ap, modK_l, optL_some, dMod_ap, dPop_ap, dTryOn_ap, keepRt_rt, catch_nx, catch_rt, dTryAs_ap, catchAs_nx, catchAs_rt, run_nx, run_rt, run_exc, ii_int, unI_int, addI_ap, subI_ap, ltI_ap, leI_ap, gtI_ap, geI_ap, addD_int, mulD_int, addD_lst, mulD_lst, negD_int, absI_ap, intD_int, intD_bl, notV_bl, truD_bl, truD_int, truD_non, eqD_int, neD_int, dChain_ap, chK_bl, isD_int_int, isD_int_bl, isD_int_non, isD_int_str, isD_int_tup, isD_int_lst, isD_bool_int, isD_bool_bl, isD_bool_non, isD_bool_str, isD_bool_tup, isD_bool_lst, isD_tuple_tup, isD_tuple_lst, isD_tuple_int, isD_tuple_bl, isD_tuple_non, isD_tuple_str, isD_list_tup, isD_list_lst, isD_list_int, isD_list_bl, isD_list_non, slD_lst, slD_scr, slL_lst, seqD_lst, seqD_tup, seqD_scr, lenD_lst, lenD_tup, lenD_scr, ixD_lst, ixD_tup, ixD_scr, loop_nx, loop_ct, loop_bk, loop_rt, loop_exc, asgS_some, forL_nil, compL_nil, gK_some, stepK_t, stepK_f, List.getElem?_cons_zero, List.getElem?_cons_succ, List.set_cons_zero, List.set_cons_succ, Option.bind_some, Option.map_some, if_true, if_false, Bool.false_eq_true, ite_true, ite_false, reduceIte, Bool.not_true, Bool.not_false, Bool.and_true, Bool.true_and, Bool.and_false, Bool.false_and, Bool.or_false, Bool.or_true, Bool.false_or, Bool.true_or, decide_true, decide_false, dDe_ap, dComp_ap, perAt_ap, perK_per, perK_none, wipeD_cons, wipeD_nil, List.all_cons, List.all_nil, tupO_ap, lstO_ap, line_ap, catL_ap, List.cons_append, List.nil_append, List.length_cons, List.length_nil, Nat.reduceAdd, Nat.reduceLeDiff, cast_lit, atI_int, Int.reduceLT, Int.reduceLE, Int.reduceGT, Int.reduceGE, Int.reduceMul, Int.reduceAdd, Int.reduceSub, Int.reduceNeg, Int.reduceFMod, Int.reduceFDiv, Int.reduceEq, Int.reduceNe, Int.reducePow, Int.reduceToNat, Nat.reduceLT, Nat.reduceLeDiff, Nat.reduceAdd, Nat.reduceMul, Nat.reduceSub, Nat.reduceEqDiff, ne_eq, not_false_eq_true, not_true_eq_false, and_true, true_and, and_self, and_false, false_and, or_true, true_or, or_false, false_or, List.length_cons, List.length_nil]
/-! the loops -/
theorem found_b (n a d : Int) (acc : List D) (x4' : Option O) (hn0 : 1 ≤ n) (hn : n ≤ 60) (ha0 : 1 ≤ a) (ha : a ≤ 60) (hd0 : 1 ≤ d) (hd : d ≤ 60) (hl : (acc ++ (rngL 0 a).flatMap fun b => h1 n a d b).length ≤ 13176000) :
    ∃ x4, lb__law_found_3 [some (.per (.int n)), some (.l acc), some (.per (.int a)), some (.per (.int d)), x4', none] = .nx [some (.per (.int n)), some (.l (acc ++ (rngL 0 a).flatMap fun b => h1 n a d b)), some (.per (.int a)), some (.per (.int d)), x4, none] := by
  obtain ⟨s', e, x4, rfl⟩ := forL_flat (gN 4) lb__law_found_2 D.int (fun b => h1 n a d b) 13176000 (fun acc s => ∃ x4, s = [some (.per (.int n)), some (.l acc), some (.per (.int a)), some (.per (.int d)), x4, none]) (rngL 0 a) acc
    [some (.per (.int n)), some (.l acc), some (.per (.int a)), some (.per (.int d)), x4', none] ⟨x4', rfl⟩ hl (by
      rintro b hb acc s ⟨x4, rfl⟩ hl
      exact ⟨_, _, rfl, found_step n a d b acc hn0 hn ha0 ha hd0 hd (mem_rngL hb).1 (mem_rngL hb).2 hl, _, rfl⟩)
  have hb : big a := by unfold big; omega
  refine ⟨x4, ?_⟩
  simp only [lb__law_found_3, rng1_ok hb, bind_ok, bind_exc, bind_bad, map_ok, map_exc, map_bad, of_some, of_none, toS_ok, toS_exc, toS_bad, dC_ap, rdV_per, rdP_per, rdP_l, rdS_per, rdS_l, dVar_ap, dPeek_ap, dSee_ap, toD_per, toD_l, d2_ap, d1_ap, toB_bl, asB_ap, f1_ap, f2_ap, f3_ap, dNil_ap, dCons_ap, dNo_ap, dYes_ap, asI_int, andK_t, andK_f, orK_t, orK_f, dAnd_ap, dOr_ap, bAnd_ap, bOr_ap, bNot_ap, dIf_ap, dNx_ap, dSeq_ap, then_nx, then_rt, then_bk, then_ct, then_exc, then_bad, dBk_ap, dCt_ap, dNever_ap, frzK_some, dFrz_ap, dSet_ap, dSetO_ap, dDrop_ap, dRet_ap, dRetO_ap, dRetN_ap, dMove_ap, dIfS_ap, dRaise_ap, asgK_some, dAsg_ap, gN_ap, gZ_ap, gC_ap, gU_tup, gU_lst, dPar2_ap, dPar3_ap, augK_per, optK_some, dAug_ap, dFor_ap, dCall_ap, dAll_ap, modK_l, optL_some, dMod_ap, dPop_ap, dTryOn_ap, keepRt_rt, catch_nx, catch_rt, dTryAs_ap, catchAs_nx, catchAs_rt, run_nx, run_rt, run_exc, ii_int, unI_int, addI_ap, subI_ap, ltI_ap, leI_ap, gtI_ap, geI_ap, addD_int, mulD_int, addD_lst, mulD_lst, negD_int, absI_ap, intD_int, intD_bl, notV_bl, truD_bl, truD_int, truD_non, eqD_int, neD_int, dChain_ap, chK_bl, isD_int_int, isD_int_bl, isD_int_non, isD_int_str, isD_int_tup, isD_int_lst, isD_bool_int, isD_bool_bl, isD_bool_non, isD_bool_str, isD_bool_tup, isD_bool_lst, isD_tuple_tup, isD_tuple_lst, isD_tuple_int, isD_tuple_bl, isD_tuple_non, isD_tuple_str, isD_list_tup, isD_list_lst, isD_list_int, isD_list_bl, isD_list_non, slD_lst, slD_scr, slL_lst, seqD_lst, seqD_tup, seqD_scr, lenD_lst, lenD_tup, lenD_scr, ixD_lst, ixD_tup, ixD_scr, loop_nx, loop_ct, loop_bk, loop_rt, loop_exc, asgS_some, forL_nil, compL_nil, gK_some, stepK_t, stepK_f, List.getElem?_cons_zero, List.getElem?_cons_succ, List.set_cons_zero, List.set_cons_succ, Option.bind_some, Option.map_some, if_true, if_false, Bool.false_eq_true, ite_true, ite_false, reduceIte, Bool.not_true, Bool.not_false, Bool.and_true, Bool.true_and, Bool.and_false, Bool.false_and, Bool.or_false, Bool.or_true, Bool.false_or, Bool.true_or, decide_true, decide_false, dDe_ap, dComp_ap, perAt_ap, perK_per, perK_none, wipeD_cons, wipeD_nil, List.all_cons, List.all_nil, tupO_ap, lstO_ap, line_ap, catL_ap, List.cons_append, List.nil_append, List.length_cons, List.length_nil, Nat.reduceAdd, Nat.reduceLeDiff]
  exact e
theorem found_d (n a : Int) (acc : List D) (x3 x4 : Option O) (hn0 : 1 ≤ n) (hn : n ≤ 60) (ha0 : 1 ≤ a) (ha : a ≤ 60) (hl : (acc ++ (rngL 1 (n + 2 - a)).flatMap fun d => (rngL 0 a).flatMap fun b => h1 n a d b).length ≤ 13176000) :
    ∃ y3 y4, lb__law_found_4 [some (.per (.int n)), some (.l acc), some (.per (.int a)), x3, x4, none] = .nx [some (.per (.int n)), some (.l (acc ++ (rngL 1 (n + 2 - a)).flatMap fun d => (rngL 0 a).flatMap fun b => h1 n a d b)), some (.per (.int a)), y3, y4, none] := by
  obtain ⟨s', e, y3, y4, rfl⟩ := forL_flat (gN 3) lb__law_found_3 D.int (fun d => (rngL 0 a).flatMap fun b => h1 n a d b) 13176000 (fun acc s => ∃ x3 x4, s = [some (.per (.int n)), some (.l acc), some (.per (.int a)), x3, x4, none]) (rngL 1 (n + 2 - a)) acc
    [some (.per (.int n)), some (.l acc), some (.per (.int a)), x3, x4, none] ⟨x3, x4, rfl⟩ hl (by
      rintro d hd acc s ⟨x3, x4, rfl⟩ hl
      have hd := mem_rngL hd
      obtain ⟨z, ez⟩ := found_b n a d acc x4 hn0 hn ha0 ha hd.1 (by omega) hl
      exact ⟨_, _, rfl, ez, _, _, rfl⟩)
  have hb : big (n + 2 - a) := by unfold big; omega
  have hb1 : big 1 := by decide
  refine ⟨y3, y4, ?_⟩
  simp only [lb__law_found_4, rng2_ok hb1 hb, bind_ok, bind_exc, bind_bad, map_ok, map_exc, map_bad, of_some, of_none, toS_ok, toS_exc, toS_bad, dC_ap, rdV_per, rdP_per, rdP_l, rdS_per, rdS_l, dVar_ap, dPeek_ap, dSee_ap, toD_per, toD_l, d2_ap, d1_ap, toB_bl, asB_ap, f1_ap, f2_ap, f3_ap, dNil_ap, dCons_ap, dNo_ap, dYes_ap, asI_int, andK_t, andK_f, orK_t, orK_f, dAnd_ap, dOr_ap, bAnd_ap, bOr_ap, bNot_ap, dIf_ap, dNx_ap, dSeq_ap, then_nx, then_rt, then_bk, then_ct, then_exc, then_bad, dBk_ap, dCt_ap, dNever_ap, frzK_some, dFrz_ap, dSet_ap, dSetO_ap, dDrop_ap, dRet_ap, dRetO_ap, dRetN_ap, dMove_ap, dIfS_ap, dRaise_ap, asgK_some, dAsg_ap, gN_ap, gZ_ap, gC_ap, gU_tup, gU_lst, dPar2_ap, dPar3_ap, augK_per, optK_some, dAug_ap, dFor_ap, dCall_ap, dAll_ap, modK_l, optL_some, dMod_ap, dPop_ap, dTryOn_ap, keepRt_rt, catch_nx, catch_rt, dTryAs_ap, catchAs_nx, catchAs_rt, run_nx, run_rt, run_exc, ii_int, unI_int, addI_ap, subI_ap, ltI_ap, leI_ap, gtI_ap, geI_ap, addD_int, mulD_int, addD_lst, mulD_lst, negD_int, absI_ap, intD_int, intD_bl, notV_bl, truD_bl, truD_int, truD_non, eqD_int, neD_int, dChain_ap, chK_bl, isD_int_int, isD_int_bl, isD_int_non, isD_int_str, isD_int_tup, isD_int_lst, isD_bool_int, isD_bool_bl, isD_bool_non, isD_bool_str, isD_bool_tup, isD_bool_lst, isD_tuple_tup, isD_tuple_lst, isD_tuple_int, isD_tuple_bl, isD_tuple_non, isD_tuple_str, isD_list_tup, isD_list_lst, isD_list_int, isD_list_bl, isD_list_non, slD_lst, slD_scr, slL_lst, seqD_lst, seqD_tup, seqD_scr, lenD_lst, lenD_tup, lenD_scr, ixD_lst, ixD_tup, ixD_scr, loop_nx, loop_ct, loop_bk, loop_rt, loop_exc, asgS_some, forL_nil, compL_nil, gK_some, stepK_t, stepK_f, List.getElem?_cons_zero, List.getElem?_cons_succ, List.set_cons_zero, List.set_cons_succ, Option.bind_some, Option.map_some, if_true, if_false, Bool.false_eq_true, ite_true, ite_false, reduceIte, Bool.not_true, Bool.not_false, Bool.and_true, Bool.true_and, Bool.and_false, Bool.false_and, Bool.or_false, Bool.or_true, Bool.false_or, Bool.true_or, decide_true, decide_false, dDe_ap, dComp_ap, perAt_ap, perK_per, perK_none, wipeD_cons, wipeD_nil, List.all_cons, List.all_nil, tupO_ap, lstO_ap, line_ap, catL_ap, List.cons_append, List.nil_append, List.length_cons, List.length_nil, Nat.reduceAdd, Nat.reduceLeDiff]
  exact e
theorem found_eq (n : Int) (hn0 : 1 ≤ n) (hn : n ≤ 60) (ha : AlikeD (G1 n)) : mir__law_found [.int n] = .ok (.l ((G1 n).mergeSort leD)) := by
  obtain ⟨s', e, y2, y3, y4, rfl⟩ := forL_flat (gN 2) lb__law_found_4 D.int (fun a => (rngL 1 (n + 2 - a)).flatMap fun d => (rngL 0 a).flatMap fun b => h1 n a d b) 13176000 (fun acc s => ∃ x2 x3 x4, s = [some (.per (.int n)), some (.l acc), x2, x3, x4, none]) (rngL 1 (n + 1)) []
    [some (.per (.int n)), some (.l []), none, none, none, none] ⟨none, none, none, rfl⟩ (by rw [List.nil_append]; exact len_G1 n hn) (by
      rintro a ha acc s ⟨x2, x3, x4, rfl⟩ hl
      have ha := mem_rngL ha
      obtain ⟨z1, z2, ez⟩ := found_d n a acc x3 x4 hn0 hn ha.1 (by omega) hl
      exact ⟨_, _, rfl, ez, _, _, _, rfl⟩)
  have hb : big (n + 1) := by unfold big; omega
  have hb1 : big 1 := by decide
  rw [List.nil_append] at e
  rw [mir__law_found_ap]
  have hs : sortD (.lst (G1 n)) = some (.l ((G1 n).mergeSort leD)) := sortD_ok ha
  simp only [wb__law_found, rng2_ok hb1 hb, e, bind_ok, bind_exc, bind_bad, map_ok, map_exc, map_bad, of_some, of_none, toS_ok, toS_exc, toS_bad, dC_ap, rdV_per, rdP_per, rdP_l, rdS_per, rdS_l, dVar_ap, dPeek_ap, dSee_ap, toD_per, toD_l, d2_ap, d1_ap, toB_bl, asB_ap, f1_ap, f2_ap, f3_ap, dNil_ap, dCons_ap, dNo_ap, dYes_ap, asI_int, andK_t, andK_f, orK_t, orK_f, dAnd_ap, dOr_ap, bAnd_ap, bOr_ap, bNot_ap, dIf_ap, dNx_ap, dSeq_ap, then_nx, then_rt, then_bk, then_ct, then_exc, then_bad, dBk_ap, dCt_ap, dNever_ap, frzK_some, dFrz_ap, dSet_ap, dSetO_ap, dDrop_ap, dRet_ap, dRetO_ap, dRetN_ap, dMove_ap, dIfS_ap, dRaise_ap, asgK_some, dAsg_ap, gN_ap, gZ_ap, gC_ap, gU_tup, gU_lst, dPar2_ap, dPar3_ap, augK_per, optK_some, dAug_ap, dFor_ap, dCall_ap, dAll_ap, modK_l, optL_some, dMod_ap, dPop_ap, dTryOn_ap, keepRt_rt, catch_nx, catch_rt, dTryAs_ap, catchAs_nx, catchAs_rt, run_nx, run_rt, run_exc, ii_int, unI_int, addI_ap, subI_ap, ltI_ap, leI_ap, gtI_ap, geI_ap, addD_int, mulD_int, addD_lst, mulD_lst, negD_int, absI_ap, intD_int, intD_bl, notV_bl, truD_bl, truD_int, truD_non, eqD_int, neD_int, dChain_ap, chK_bl, isD_int_int, isD_int_bl, isD_int_non, isD_int_str, isD_int_tup, isD_int_lst, isD_bool_int, isD_bool_bl, isD_bool_non, isD_bool_str, isD_bool_tup, isD_bool_lst, isD_tuple_tup, isD_tuple_lst, isD_tuple_int, isD_tuple_bl, isD_tuple_non, isD_tuple_str, isD_list_tup, isD_list_lst, isD_list_int, isD_list_bl, isD_list_non, slD_lst, slD_scr, slL_lst, seqD_lst, seqD_tup, seqD_scr, lenD_lst, lenD_tup, lenD_scr, ixD_lst, ixD_tup, ixD_scr, loop_nx, loop_ct, loop_bk, loop_rt, loop_exc, asgS_some, forL_nil, compL_nil, gK_some, stepK_t, stepK_f, List.getElem?_cons_zero, List.getElem?_cons_succ, List.set_cons_zero, List.set_cons_succ, Option.bind_some, Option.map_some, if_true, if_false, Bool.false_eq_true, ite_true, ite_false, reduceIte, Bool.not_true, Bool.not_false, Bool.and_true, Bool.true_and, Bool.and_false, Bool.false_and, Bool.or_false, Bool.or_true, Bool.false_or, Bool.true_or, decide_true, decide_false, dDe_ap, dComp_ap, perAt_ap, perK_per, perK_none, wipeD_cons, wipeD_nil, List.all_cons, List.all_nil, tupO_ap, lstO_ap, line_ap, catL_ap, List.cons_append, List.nil_append, List.length_cons, List.length_nil, Nat.reduceAdd, Nat.reduceLeDiff]
  have hs' := hs
  unfold G1 at hs'
  simp only [hs', bind_ok, bind_exc, bind_bad, map_ok, map_exc, map_bad, of_some, of_none, toS_ok, toS_exc, toS_bad, dC_ap, rdV_per, rdP_per, rdP_l, rdS_per, rdS_l, dVar_ap, dPeek_ap, dSee_ap, toD_per, toD_l, d2_ap, d1_ap, toB_bl, asB_ap, f1_ap, f2_ap, f3_ap, dNil_ap, dCons_ap, dNo_ap, dYes_ap, asI_int, andK_t, andK_f, orK_t, orK_f, dAnd_ap, dOr_ap, bAnd_ap, bOr_ap, bNot_ap, dIf_ap, dNx_ap, dSeq_ap, then_nx, then_rt, then_bk, then_ct, then_exc, then_bad, dBk_ap, dCt_ap, dNever_ap, frzK_some, dFrz_ap, dSet_ap, dSetO_ap, dDrop_ap, dRet_ap, dRetO_ap, dRetN_ap, dMove_ap, dIfS_ap, dRaise_ap, asgK_some, dAsg_ap, gN_ap, gZ_ap, gC_ap, gU_tup, gU_lst, dPar2_ap, dPar3_ap, augK_per, optK_some, dAug_ap, dFor_ap, dCall_ap, dAll_ap, modK_l, optL_some, dMod_ap, dPop_ap, dTryOn_ap, keepRt_rt, catch_nx, catch_rt, dTryAs_ap, catchAs_nx, catchAs_rt, run_nx, run_rt, run_exc, ii_int, unI_int, addI_ap, subI_ap, ltI_ap, leI_ap, gtI_ap, geI_ap, addD_int, mulD_int, addD_lst, mulD_lst, negD_int, absI_ap, intD_int, intD_bl, notV_bl, truD_bl, truD_int, truD_non, eqD_int, neD_int, dChain_ap, chK_bl, isD_int_int, isD_int_bl, isD_int_non, isD_int_str, isD_int_tup, isD_int_lst, isD_bool_int, isD_bool_bl, isD_bool_non, isD_bool_str, isD_bool_tup, isD_bool_lst, isD_tuple_tup, isD_tuple_lst, isD_tuple_int, isD_tuple_bl, isD_tuple_non, isD_tuple_str, isD_list_tup, isD_list_lst, isD_list_int, isD_list_bl, isD_list_non, slD_lst, slD_scr, slL_lst, seqD_lst, seqD_tup, seqD_scr, lenD_lst, lenD_tup, lenD_scr, ixD_lst, ixD_tup, ixD_scr, loop_nx, loop_ct, loop_bk, loop_rt, loop_exc, asgS_some, forL_nil, compL_nil, gK_some, stepK_t, stepK_f, List.getElem?_cons_zero, List.getElem?_cons_succ, List.set_cons_zero, List.set_cons_succ, Option.bind_some, Option.map_some, if_true, if_false, Bool.false_eq_true, ite_true, ite_false, reduceIte, Bool.not_true, Bool.not_false, Bool.and_true, Bool.true_and, Bool.and_false, Bool.false_and, Bool.or_false, Bool.or_true, Bool.false_or, Bool.true_or, decide_true, decide_false, dDe_ap, dComp_ap, perAt_ap, perK_per, perK_none, wipeD_cons, wipeD_nil, List.all_cons, List.all_nil, tupO_ap, lstO_ap, line_ap, catL_ap, List.cons_append, List.nil_append, List.length_cons, List.length_nil, Nat.reduceAdd, Nat.reduceLeDiff]
  rfl
/-! merel -/
def g1 (n a : Int) : List D := if n.fmod a = 0 then (rngL 0 (n.fdiv a)).map (fun c => quad a 0 c (n.fdiv a)) ++ (rngL 1 a).map (fun b => quad a b 0 (n.fdiv a)) else []
def g2 (n b c a : Int) : List D := if (n + b * c).fmod a = 0 then [quad a b c ((n + b * c).fdiv a)] else []
def G2a (n : Int) : List D := (rngL 1 (n + 1)).flatMap fun a => g1 n a
def G2b (n : Int) : List D := (rngL 1 n).flatMap fun b => (rngL 1 (n - b)).flatMap fun c => (rngL (b + 1) ((n + b * c).fdiv (c + 1) + 1)).flatMap fun a => g2 n b c a
theorem merel_c1 (n a : Int) (acc : List D) (x3 x5 : Option O) (hx3 : x3 = none ∨ ∃ d, x3 = some (.per d)) (hd : 0 ≤ n.fdiv a) (hd2 : n.fdiv a ≤ 60) (ha : 1 ≤ a) (ha2 : a ≤ 60) : dComp (f1 rng1 (dCons (d2 (ii divI) (dVar 0) (dVar 2)) dNil)) (gN 4) dAll ce_merel_1 [4] [some (.per (.int n)), some (.l acc), some (.per (.int a)), x3, none, x5] = .ok (.l ((rngL 0 (n.fdiv a)).map fun c => quad a 0 c (n.fdiv a))) := by
  have hb : big (n.fdiv a) := by unfold big; omega
  have dv : divI n a = some (.int (n.fdiv a)) := divI_s (by omega) (by omega)
  have e := compL_map (gN 4) dAll ce_merel_1 [some (.per (.int n)), some (.l acc), some (.per (.int a)), x3, none, x5] D.int (fun _ => true) (fun c => quad a 0 c (n.fdiv a)) (rngL 0 (n.fdiv a)) fun x _ => ⟨_, rfl, rfl, fun _ => by
    simp only [ce_merel_1, quad, dv, bind_ok, bind_exc, bind_bad, map_ok, map_exc, map_bad, of_some, of_none, toS_ok, toS_exc, toS_bad, dC_ap, rdV_per, rdP_per, rdP_l, rdS_per, rdS_l, dVar_ap, dPeek_ap, dSee_ap, toD_per, toD_l, d2_ap, d1_ap, toB_bl, asB_ap, f1_ap, f2_ap, f3_ap, dNil_ap, dCons_ap, dNo_ap, dYes_ap, asI_int, andK_t, andK_f, orK_t, orK_f, dAnd_ap, dOr_ap, bAnd_ap, bOr_ap, bNot_ap, dIf_ap, dNx_ap, dSeq_ap, then_nx, then_rt, then_bk, then_ct, then_exc, then_bad, dBk_ap, dCt_ap, dNever_ap, frzK_some, dFrz_ap, dSet_ap, dSetO_ap, dDrop_ap, dRet_ap, dRetO_ap, dRetN_ap, dMove_ap, dIfS_ap, dRaise_ap, asgK_some, dAsg_ap, gN_ap, gZ_ap, gC_ap, gU_tup, gU_lst, dPar2_ap, dPar3_ap, augK_per, optK_some, dAug_ap, dFor_ap, dCall_ap, dAll_ap, modK_l, optL_some, dMod_ap, dPop_ap, dTryOn_ap, keepRt_rt, catch_nx, catch_rt, dTryAs_ap, catchAs_nx, catchAs_rt, run_nx, run_rt, run_exc, ii_int, unI_int, addI_ap, subI_ap, ltI_ap, leI_ap, gtI_ap, geI_ap, addD_int, mulD_int, addD_lst, mulD_lst, negD_int, absI_ap, intD_int, intD_bl, notV_bl, truD_bl, truD_int, truD_non, eqD_int, neD_int, dChain_ap, chK_bl, isD_int_int, isD_int_bl, isD_int_non, isD_int_str, isD_int_tup, isD_int_lst, isD_bool_int, isD_bool_bl, isD_bool_non, isD_bool_str, isD_bool_tup, isD_bool_lst, isD_tuple_tup, isD_tuple_lst, isD_tuple_int, isD_tuple_bl, isD_tuple_non, isD_tuple_str, isD_list_tup, isD_list_lst, isD_list_int, isD_list_bl, isD_list_non, slD_lst, slD_scr, slL_lst, seqD_lst, seqD_tup, seqD_scr, lenD_lst, lenD_tup, lenD_scr, ixD_lst, ixD_tup, ixD_scr, loop_nx, loop_ct, loop_bk, loop_rt, loop_exc, asgS_some, forL_nil, compL_nil, gK_some, stepK_t, stepK_f, List.getElem?_cons_zero, List.getElem?_cons_succ, List.set_cons_zero, List.set_cons_succ, Option.bind_some, Option.map_some, if_true, if_false, Bool.false_eq_true, ite_true, ite_false, reduceIte, Bool.not_true, Bool.not_false, Bool.and_true, Bool.true_and, Bool.and_false, Bool.false_and, Bool.or_false, Bool.or_true, Bool.false_or, Bool.true_or, decide_true, decide_false, dDe_ap, dComp_ap, perAt_ap, perK_per, perK_none, wipeD_cons, wipeD_nil, List.all_cons, List.all_nil, tupO_ap, lstO_ap, line_ap, catL_ap, List.cons_append, List.nil_append, List.length_cons, List.length_nil, Nat.reduceAdd, Nat.reduceLeDiff]⟩
  rw [show (rngL 0 (n.fdiv a)).filter (fun _ => true) = rngL 0 (n.fdiv a) from List.filter_eq_self.mpr fun _ _ => rfl] at e
  have hl : decide (((rngL 0 (n.fdiv a)).map D.int).length ≤ 16777216) = true := line_of (by rw [List.length_map, length_rngL]; omega)
  simp only [dv, rng1_ok hb, e, hl, bind_ok, bind_exc, bind_bad, map_ok, map_exc, map_bad, of_some, of_none, toS_ok, toS_exc, toS_bad, dC_ap, rdV_per, rdP_per, rdP_l, rdS_per, rdS_l, dVar_ap, dPeek_ap, dSee_ap, toD_per, toD_l, d2_ap, d1_ap, toB_bl, asB_ap, f1_ap, f2_ap, f3_ap, dNil_ap, dCons_ap, dNo_ap, dYes_ap, asI_int, andK_t, andK_f, orK_t, orK_f, dAnd_ap, dOr_ap, bAnd_ap, bOr_ap, bNot_ap, dIf_ap, dNx_ap, dSeq_ap, then_nx, then_rt, then_bk, then_ct, then_exc, then_bad, dBk_ap, dCt_ap, dNever_ap, frzK_some, dFrz_ap, dSet_ap, dSetO_ap, dDrop_ap, dRet_ap, dRetO_ap, dRetN_ap, dMove_ap, dIfS_ap, dRaise_ap, asgK_some, dAsg_ap, gN_ap, gZ_ap, gC_ap, gU_tup, gU_lst, dPar2_ap, dPar3_ap, augK_per, optK_some, dAug_ap, dFor_ap, dCall_ap, dAll_ap, modK_l, optL_some, dMod_ap, dPop_ap, dTryOn_ap, keepRt_rt, catch_nx, catch_rt, dTryAs_ap, catchAs_nx, catchAs_rt, run_nx, run_rt, run_exc, ii_int, unI_int, addI_ap, subI_ap, ltI_ap, leI_ap, gtI_ap, geI_ap, addD_int, mulD_int, addD_lst, mulD_lst, negD_int, absI_ap, intD_int, intD_bl, notV_bl, truD_bl, truD_int, truD_non, eqD_int, neD_int, dChain_ap, chK_bl, isD_int_int, isD_int_bl, isD_int_non, isD_int_str, isD_int_tup, isD_int_lst, isD_bool_int, isD_bool_bl, isD_bool_non, isD_bool_str, isD_bool_tup, isD_bool_lst, isD_tuple_tup, isD_tuple_lst, isD_tuple_int, isD_tuple_bl, isD_tuple_non, isD_tuple_str, isD_list_tup, isD_list_lst, isD_list_int, isD_list_bl, isD_list_non, slD_lst, slD_scr, slL_lst, seqD_lst, seqD_tup, seqD_scr, lenD_lst, lenD_tup, lenD_scr, ixD_lst, ixD_tup, ixD_scr, loop_nx, loop_ct, loop_bk, loop_rt, loop_exc, asgS_some, forL_nil, compL_nil, gK_some, stepK_t, stepK_f, List.getElem?_cons_zero, List.getElem?_cons_succ, List.set_cons_zero, List.set_cons_succ, Option.bind_some, Option.map_some, if_true, if_false, Bool.false_eq_true, ite_true, ite_false, reduceIte, Bool.not_true, Bool.not_false, Bool.and_true, Bool.true_and, Bool.and_false, Bool.false_and, Bool.or_false, Bool.or_true, Bool.false_or, Bool.true_or, decide_true, decide_false, dDe_ap, dComp_ap, perAt_ap, perK_per, perK_none, wipeD_cons, wipeD_nil, List.all_cons, List.all_nil, tupO_ap, lstO_ap, line_ap, catL_ap, List.cons_append, List.nil_append, List.length_cons, List.length_nil, Nat.reduceAdd, Nat.reduceLeDiff]
theorem merel_c2 (n a : Int) (acc : List D) (x5 : Option O) (ha : 1 ≤ a) (ha2 : a ≤ 60) : dComp (f1 rng2 (dCons (dC (.int 1)) (dCons (dVar 2) dNil))) (gN 3) dAll ce_merel_2 [3] [some (.per (.int n)), some (.l acc), some (.per (.int a)), none, none, x5] = .ok (.l ((rngL 1 a).map fun b => quad a b 0 (n.fdiv a))) := by
  have hb : big a := by unfold big; omega
  have hb1 : big 1 := by decide
  have dv : divI n a = some (.int (n.fdiv a)) := divI_s (by omega) (by omega)
  have e := compL_map (gN 3) dAll ce_merel_2 [some (.per (.int n)), some (.l acc), some (.per (.int a)), none, none, x5] D.int (fun _ => true) (fun b => quad a b 0 (n.fdiv a)) (rngL 1 a) fun x _ => ⟨_, rfl, rfl, fun _ => by
    simp only [ce_merel_2, quad, dv, bind_ok, bind_exc, bind_bad, map_ok, map_exc, map_bad, of_some, of_none, toS_ok, toS_exc, toS_bad, dC_ap, rdV_per, rdP_per, rdP_l, rdS_per, rdS_l, dVar_ap, dPeek_ap, dSee_ap, toD_per, toD_l, d2_ap, d1_ap, toB_bl, asB_ap, f1_ap, f2_ap, f3_ap, dNil_ap, dCons_ap, dNo_ap, dYes_ap, asI_int, andK_t, andK_f, orK_t, orK_f, dAnd_ap, dOr_ap, bAnd_ap, bOr_ap, bNot_ap, dIf_ap, dNx_ap, dSeq_ap, then_nx, then_rt, then_bk, then_ct, then_exc, then_bad, dBk_ap, dCt_ap, dNever_ap, frzK_some, dFrz_ap, dSet_ap, dSetO_ap, dDrop_ap, dRet_ap, dRetO_ap, dRetN_ap, dMove_ap, dIfS_ap, dRaise_ap, asgK_some, dAsg_ap, gN_ap, gZ_ap, gC_ap, gU_tup, gU_lst, dPar2_ap, dPar3_ap, augK_per, optK_some, dAug_ap, dFor_ap, dCall_ap, dAll_ap, modK_l, optL_some, dMod_ap, dPop_ap, dTryOn_ap, keepRt_rt, catch_nx, catch_rt, dTryAs_ap, catchAs_nx, catchAs_rt, run_nx, run_rt, run_exc, ii_int, unI_int, addI_ap, subI_ap, ltI_ap, leI_ap, gtI_ap, geI_ap, addD_int, mulD_int, addD_lst, mulD_lst, negD_int, absI_ap, intD_int, intD_bl, notV_bl, truD_bl, truD_int, truD_non, eqD_int, neD_int, dChain_ap, chK_bl, isD_int_int, isD_int_bl, isD_int_non, isD_int_str, isD_int_tup, isD_int_lst, isD_bool_int, isD_bool_bl, isD_bool_non, isD_bool_str, isD_bool_tup, isD_bool_lst, isD_tuple_tup, isD_tuple_lst, isD_tuple_int, isD_tuple_bl, isD_tuple_non, isD_tuple_str, isD_list_tup, isD_list_lst, isD_list_int, isD_list_bl, isD_list_non, slD_lst, slD_scr, slL_lst, seqD_lst, seqD_tup, seqD_scr, lenD_lst, lenD_tup, lenD_scr, ixD_lst, ixD_tup, ixD_scr, loop_nx, loop_ct, loop_bk, loop_rt, loop_exc, asgS_some, forL_nil, compL_nil, gK_some, stepK_t, stepK_f, List.getElem?_cons_zero, List.getElem?_cons_succ, List.set_cons_zero, List.set_cons_succ, Option.bind_some, Option.map_some, if_true, if_false, Bool.false_eq_true, ite_true, ite_false, reduceIte, Bool.not_true, Bool.not_false, Bool.and_true, Bool.true_and, Bool.and_false, Bool.false_and, Bool.or_false, Bool.or_true, Bool.false_or, Bool.true_or, decide_true, decide_false, dDe_ap, dComp_ap, perAt_ap, perK_per, perK_none, wipeD_cons, wipeD_nil, List.all_cons, List.all_nil, tupO_ap, lstO_ap, line_ap, catL_ap, List.cons_append, List.nil_append, List.length_cons, List.length_nil, Nat.reduceAdd, Nat.reduceLeDiff]⟩
  rw [show (rngL 1 a).filter (fun _ => true) = rngL 1 a from List.filter_eq_self.mpr fun _ _ => rfl] at e
  have hl : decide (((rngL 1 a).map D.int).length ≤ 16777216) = true := line_of (by rw [List.length_map, length_rngL]; omega)
  simp only [rng2_ok hb1 hb, e, hl, bind_ok, bind_exc, bind_bad, map_ok, map_exc, map_bad, of_some, of_none, toS_ok, toS_exc, toS_bad, dC_ap, rdV_per, rdP_per, rdP_l, rdS_per, rdS_l, dVar_ap, dPeek_ap, dSee_ap, toD_per, toD_l, d2_ap, d1_ap, toB_bl, asB_ap, f1_ap, f2_ap, f3_ap, dNil_ap, dCons_ap, dNo_ap, dYes_ap, asI_int, andK_t, andK_f, orK_t, orK_f, dAnd_ap, dOr_ap, bAnd_ap, bOr_ap, bNot_ap, dIf_ap, dNx_ap, dSeq_ap, then_nx, then_rt, then_bk, then_ct, then_exc, then_bad, dBk_ap, dCt_ap, dNever_ap, frzK_some, dFrz_ap, dSet_ap, dSetO_ap, dDrop_ap, dRet_ap, dRetO_ap, dRetN_ap, dMove_ap, dIfS_ap, dRaise_ap, asgK_some, dAsg_ap, gN_ap, gZ_ap, gC_ap, gU_tup, gU_lst, dPar2_ap, dPar3_ap, augK_per, optK_some, dAug_ap, dFor_ap, dCall_ap, dAll_ap, modK_l, optL_some, dMod_ap, dPop_ap, dTryOn_ap, keepRt_rt, catch_nx, catch_rt, dTryAs_ap, catchAs_nx, catchAs_rt, run_nx, run_rt, run_exc, ii_int, unI_int, addI_ap, subI_ap, ltI_ap, leI_ap, gtI_ap, geI_ap, addD_int, mulD_int, addD_lst, mulD_lst, negD_int, absI_ap, intD_int, intD_bl, notV_bl, truD_bl, truD_int, truD_non, eqD_int, neD_int, dChain_ap, chK_bl, isD_int_int, isD_int_bl, isD_int_non, isD_int_str, isD_int_tup, isD_int_lst, isD_bool_int, isD_bool_bl, isD_bool_non, isD_bool_str, isD_bool_tup, isD_bool_lst, isD_tuple_tup, isD_tuple_lst, isD_tuple_int, isD_tuple_bl, isD_tuple_non, isD_tuple_str, isD_list_tup, isD_list_lst, isD_list_int, isD_list_bl, isD_list_non, slD_lst, slD_scr, slL_lst, seqD_lst, seqD_tup, seqD_scr, lenD_lst, lenD_tup, lenD_scr, ixD_lst, ixD_tup, ixD_scr, loop_nx, loop_ct, loop_bk, loop_rt, loop_exc, asgS_some, forL_nil, compL_nil, gK_some, stepK_t, stepK_f, List.getElem?_cons_zero, List.getElem?_cons_succ, List.set_cons_zero, List.set_cons_succ, Option.bind_some, Option.map_some, if_true, if_false, Bool.false_eq_true, ite_true, ite_false, reduceIte, Bool.not_true, Bool.not_false, Bool.and_true, Bool.true_and, Bool.and_false, Bool.false_and, Bool.or_false, Bool.or_true, Bool.false_or, Bool.true_or, decide_true, decide_false, dDe_ap, dComp_ap, perAt_ap, perK_per, perK_none, wipeD_cons, wipeD_nil, List.all_cons, List.all_nil, tupO_ap, lstO_ap, line_ap, catL_ap, List.cons_append, List.nil_append, List.length_cons, List.length_nil, Nat.reduceAdd, Nat.reduceLeDiff]
theorem len_g1 (n a : Int) (hd : n.fdiv a ≤ 60) (ha : a ≤ 60) : (g1 n a).length ≤ 120 := by
  unfold g1
  split
  · rw [List.length_append, List.length_map, List.length_map, length_rngL, length_rngL]; omega
  · exact Nat.zero_le _
theorem fdiv_le {n a : Int} (h0 : 0 ≤ n) (ha : 1 ≤ a) : 0 ≤ n.fdiv a ∧ n.fdiv a ≤ n := by
  rw [Int.fdiv_eq_ediv_of_nonneg n (by omega)]
  exact ⟨Int.ediv_nonneg h0 (by omega), Int.ediv_le_self a h0⟩
theorem merel_step (n a : Int) (acc : List D) (x5 : Option O) (hn0 : 1 ≤ n) (hn : n ≤ 60) (ha : 1 ≤ a) (ha2 : a ≤ 60) (hl : (acc ++ g1 n a).length ≤ 1000000) :
    lb_merel_3 [some (.per (.int n)), some (.l acc), some (.per (.int a)), none, none, x5] = .nx [some (.per (.int n)), some (.l (acc ++ g1 n a)), some (.per (.int a)), none, none, x5] := by
  have fd := fdiv_le (n := n) (a := a) (by omega) ha
  by_cases h : n.fmod a = 0
  · have hh : g1 n a = (rngL 0 (n.fdiv a)).map (fun c => quad a 0 c (n.fdiv a)) ++ (rngL 1 a).map (fun b => quad a b 0 (n.fdiv a)) := by unfold g1; rw [if_pos h]
    rw [hh] at hl ⊢
    have c1 := merel_c1 n a acc none x5 (.inl rfl) fd.1 (by omega) ha ha2
    have c2 := merel_c2 n a (acc ++ (rngL 0 (n.fdiv a)).map fun c => quad a 0 c (n.fdiv a)) x5 ha ha2
    have l1 : line (acc.length + ((rngL 0 (n.fdiv a)).map fun c => quad a 0 c (n.fdiv a)).length) = true := line_of (by
      rw [List.length_append, List.length_append] at hl; omega)
    have l2 : line ((acc ++ (rngL 0 (n.fdiv a)).map fun c => quad a 0 c (n.fdiv a)).length + ((rngL 1 a).map fun b => quad a b 0 (n.fdiv a)).length) = true := line_of (by
      rw [← List.append_assoc, List.length_append] at hl; omega)
    simp (discharger := first | decide +kernel | (with_unfolding_all rfl) | assumption | omega) only [lb_merel_3, modI_ok, h, c1, c2, extL_ok l1, extL_ok l2, List.append_assoc, bind_ok, bind_exc, bind_bad, map_ok, map_exc, map_bad, of_some, of_none, toS_ok, toS_exc, toS_bad, dC_ap, rdV_per, rdP_per, rdP_l, rdS_per, rdS_l, dVar_ap, dPeek_ap, dSee_ap, toD_per, toD_l, d2_ap, d1_ap, toB_bl, asB_ap, f1_ap, f2_ap, f3_ap, dNil_ap, dCons_ap, dNo_ap, dYes_ap, asI_int, andK_t, andK_f, orK_t, orK_f, dAnd_ap, dOr_ap, bAnd_ap, bOr_ap, bNot_ap, dIf_ap, dNx_ap, dSeq_ap, then_nx, then_rt, then_bk, then_ct, then_exc, then_bad, dBk_ap, dCt_ap, dNever_ap, frzK_some, dFrz_ap, dSet_ap, dSetO_ap, dDrop_ap, dRet_ap, dRetO_ap, dRetN_ap, dMove_ap, dIfS_ap, dRaise_ap, asgK_some, dAsg_ap, gN_ap, gZ_ap, gC_ap, gU_tup, gU_lst, dPar2_ap, dPar3_ap, augK_per, optK_some, dAug_ap, dFor_ap, dCall_ap, dAll_ap, modK_l, optL_some, dMod_ap, dPop_ap, dTryOn_ap, keepRt_rt, catch_nx, catch_rt, dTryAs_ap, catchAs_nx, catchAs_rt, run_nx, run_rt, run_exc, ii_int, unI_int, addI_ap, subI_ap, ltI_ap, leI_ap, gtI_ap, geI_ap, addD_int, mulD_int, addD_lst, mulD_lst, negD_int, absI_ap, intD_int, intD_bl, notV_bl, truD_bl, truD_int, truD_non, eqD_int, neD_int, dChain_ap, chK_bl, isD_int_int, isD_int_bl, isD_int_non, isD_int_str, isD_int_tup, isD_int_lst, isD_bool_int, isD_bool_bl, isD_bool_non, isD_bool_str, isD_bool_tup, isD_bool_lst, isD_tuple_tup, isD_tuple_lst, isD_tuple_int, isD_tuple_bl, isD_tuple_non, isD_tuple_str, isD_list_tup, isD_list_lst, isD_list_int, isD_list_bl, isD_list_non, slD_lst, slD_scr, slL_lst, seqD_lst, seqD_tup, seqD_scr, lenD_lst, lenD_tup, lenD_scr, ixD_lst, ixD_tup, ixD_scr, loop_nx, loop_ct, loop_bk, loop_rt, loop_exc, asgS_some, forL_nil, compL_nil, gK_some, stepK_t, stepK_f, List.getElem?_cons_zero, List.getElem?_cons_succ, List.set_cons_zero, List.set_cons_succ, Option.bind_some, Option.map_some, if_true, if_false, Bool.false_eq_true, ite_true, ite_false, reduceIte, Bool.not_true, Bool.not_false, Bool.and_true, Bool.true_and, Bool.and_false, Bool.false_and, Bool.or_false, Bool.or_true, Bool.false_or, Bool.true_or, decide_true, decide_false, dDe_ap, dComp_ap, perAt_ap, perK_per, perK_none, wipeD_cons, wipeD_nil, List.all_cons, List.all_nil, tupO_ap, lstO_ap, line_ap, catL_ap, List.cons_append, List.nil_append, List.length_cons, List.length_nil, Nat.reduceAdd, Nat.reduceLeDiff, cast_lit, atI_int, Int.reduceLT, Int.reduceLE, Int.reduceGT, Int.reduceGE, Int.reduceMul, Int.reduceAdd, Int.reduceSub, Int.reduceNeg, Int.reduceFMod, Int.reduceFDiv, Int.reduceEq, Int.reduceNe, Int.reducePow, Int.reduceToNat, Nat.reduceLT, Nat.reduceLeDiff, Nat.reduceAdd, Nat.reduceMul, Nat.reduceSub, Nat.reduceEqDiff, ne_eq, not_false_eq_true, not_true_eq_false, and_true, true_and, and_self, and_false, false_and, or_true, true_or, or_false, false_or, List.length_cons, List.length_nil]
  · have hh : g1 n a = [] := by unfold g1; rw [if_neg h]
    rw [hh, List.append_nil]
    simp (discharger := first | decide +kernel | (with_unfolding_all rfl) | assumption | omega) only [lb_merel_3, modI_ok, h, bind_ok, bind_exc, bind_bad, map_ok, map_exc, map_bad, of_some, of_none, toS_ok, toS_exc, toS_bad, dC_ap, rdV_per, rdP_per, rdP_l, rdS_per, rdS_l, dVar_ap, dPeek_ap, dSee_ap, toD_per, toD_l, d2_ap, d1_ap, toB_bl, asB_ap, f1_ap, f2_ap, f3_ap, dNil_ap, dCons_ap, dNo_ap, dYes_ap, asI_int, andK_t, andK_f, orK_t, orK_f, dAnd_ap, dOr_ap, bAnd_ap, bOr_ap, bNot_ap, dIf_ap, dNx_ap, dSeq_ap, then_nx, then_rt, then_bk, then_ct, then_exc, then_bad, dBk_ap, dCt_ap, dNever_ap, frzK_some, dFrz_ap, dSet_ap, dSetO_ap, dDrop_ap, dRet_ap, dRetO_ap, dRetN_ap, dMove_ap, dIfS_ap, dRaise_ap, asgK_some, dAsg_ap, gN_ap, gZ_ap, gC_ap, gU_tup, gU_lst, dPar2_ap, dPar3_ap, augK_per, optK_some, dAug_ap, dFor_ap, dCall_ap, dAll_ap, modK_l, optL_some, dMod_ap, dPop_ap, dTryOn_ap, keepRt_rt, catch_nx, catch_rt, dTryAs_ap, catchAs_nx, catchAs_rt, run_nx, run_rt, run_exc, ii_int, unI_int, addI_ap, subI_ap, ltI_ap, leI_ap, gtI_ap, geI_ap, addD_int, mulD_int, addD_lst, mulD_lst, negD_int, absI_ap, intD_int, intD_bl, notV_bl, truD_bl, truD_int, truD_non, eqD_int, neD_int, dChain_ap, chK_bl, isD_int_int, isD_int_bl, isD_int_non, isD_int_str, isD_int_tup, isD_int_lst, isD_bool_int, isD_bool_bl, isD_bool_non, isD_bool_str, isD_bool_tup, isD_bool_lst, isD_tuple_tup, isD_tuple_lst, isD_tuple_int, isD_tuple_bl, isD_tuple_non, isD_tuple_str, isD_list_tup, isD_list_lst, isD_list_int, isD_list_bl, isD_list_non, slD_lst, slD_scr, slL_lst, seqD_lst, seqD_tup, seqD_scr, lenD_lst, lenD_tup, lenD_scr, ixD_lst, ixD_tup, ixD_scr, loop_nx, loop_ct, loop_bk, loop_rt, loop_exc, asgS_some, forL_nil, compL_nil, gK_some, stepK_t, stepK_f, List.getElem?_cons_zero, List.getElem?_cons_succ, List.set_cons_zero, List.set_cons_succ, Option.bind_some, Option.map_some, if_true, if_false, Bool.false_eq_true, ite_true, ite_false, reduceIte, Bool.not_true, Bool.not_false, Bool.and_true, Bool.true_and, Bool.and_false, Bool.false_and, Bool.or_false, Bool.or_true, Bool.false_or, Bool.true_or, decide_true, decide_false, dDe_ap, dComp_ap, perAt_ap, perK_per, perK_none, wipeD_cons, wipeD_nil, List.all_cons, List.all_nil, tupO_ap, lstO_ap, line_ap, catL_ap, List.cons_append, List.nil_append, List.length_cons, List.length_nil, Nat.reduceAdd, Nat.reduceLeDiff, cast_lit, atI_int, Int.reduceLT, Int.reduceLE, Int.reduceGT, Int.reduceGE, Int.reduceMul, Int.reduceAdd, Int.reduceSub, Int.reduceNeg, Int.reduceFMod, Int.reduceFDiv, Int.reduceEq, Int.reduceNe, Int.reducePow, Int.reduceToNat, Nat.reduceLT, Nat.reduceLeDiff, Nat.reduceAdd, Nat.reduceMul, Nat.reduceSub, Nat.reduceEqDiff, ne_eq, not_false_eq_true, not_true_eq_false, and_true, true_and, and_self, and_false, false_and, or_true, true_or, or_false, false_or, List.length_cons, List.length_nil]
theorem mul_small {b c : Int} (hb : 0 ≤ b) (hb2 : b ≤ 60) (hc : 0 ≤ c) (hc2 : c ≤ 60) : 0 ≤ b * c ∧ b * c ≤ 3600 :=
  ⟨Int.mul_nonneg hb hc, Int.mul_le_mul hb2 hc2 hc (by decide)⟩
theorem merel_a (n b c a : Int) (acc : List D) (x2 : Option O) (hn0 : 1 ≤ n) (hn : n ≤ 60) (hb : 1 ≤ b) (hb2 : b ≤ 60) (hc : 1 ≤ c) (hc2 : c ≤ 60) (ha : 1 ≤ a) (ha2 : a ≤ 3660) (hl : (acc ++ g2 n b c a).length ≤ 14000000) :
    lb_merel_4 [some (.per (.int n)), some (.l acc), some (.per (.int a)), some (.per (.int b)), some (.per (.int c)), some (.per (.int (n + b * c)))] = .nx [some (.per (.int n)), some (.l (acc ++ g2 n b c a)), some (.per (.int a)), some (.per (.int b)), some (.per (.int c)), some (.per (.int (n + b * c)))] := by
  by_cases h : (n + b * c).fmod a = 0
  · have hh : g2 n b c a = [quad a b c ((n + b * c).fdiv a)] := by unfold g2; rw [if_pos h]
    rw [hh] at hl ⊢
    have l1 : line (acc.length + 1) = true := line_of (by rw [List.length_append, List.length_singleton] at hl; omega)
    simp (discharger := first | decide +kernel | (with_unfolding_all rfl) | assumption | omega) only [lb_merel_4, modI_ok, divI_s, h, appL_ok l1, quad, bind_ok, bind_exc, bind_bad, map_ok, map_exc, map_bad, of_some, of_none, toS_ok, toS_exc, toS_bad, dC_ap, rdV_per, rdP_per, rdP_l, rdS_per, rdS_l, dVar_ap, dPeek_ap, dSee_ap, toD_per, toD_l, d2_ap, d1_ap, toB_bl, asB_ap, f1_ap, f2_ap, f3_ap, dNil_ap, dCons_ap, dNo_ap, dYes_ap, asI_int, andK_t, andK_f, orK_t, orK_f, dAnd_ap, dOr_ap, bAnd_ap, bOr_ap, bNot_ap, dIf_ap, dNx_ap, dSeq_ap, then_nx, then_rt, then_bk, then_ct, then_exc, then_bad, dBk_ap, dCt_ap, dNever_ap, frzK_some, dFrz_ap, dSet_ap, dSetO_ap, dDrop_ap, dRet_ap, dRetO_ap, dRetN_ap, dMove_ap, dIfS_ap, dRaise_ap, asgK_some, dAsg_ap, gN_ap, gZ_ap, gC_ap, gU_tup, gU_lst, dPar2_ap, dPar3_ap, augK_per, optK_some, dAug_ap, dFor_ap, dCall_ap, dAll_ap, modK_l, optL_some, dMod_ap, dPop_ap, dTryOn_ap, keepRt_rt, catch_nx, catch_rt, dTryAs_ap, catchAs_nx, catchAs_rt, run_nx, run_rt, run_exc, ii_int, unI_int, addI_ap, subI_ap, ltI_ap, leI_ap, gtI_ap, geI_ap, addD_int, mulD_int, addD_lst, mulD_lst, negD_int, absI_ap, intD_int, intD_bl, notV_bl, truD_bl, truD_int, truD_non, eqD_int, neD_int, dChain_ap, chK_bl, isD_int_int, isD_int_bl, isD_int_non, isD_int_str, isD_int_tup, isD_int_lst, isD_bool_int, isD_bool_bl, isD_bool_non, isD_bool_str, isD_bool_tup, isD_bool_lst, isD_tuple_tup, isD_tuple_lst, isD_tuple_int, isD_tuple_bl, isD_tuple_non, isD_tuple_str, isD_list_tup, isD_list_lst, isD_list_int, isD_list_bl, isD_list_non, slD_lst, slD_scr, slL_lst, seqD_lst, seqD_tup, seqD_scr, lenD_lst, lenD_tup, lenD_scr, ixD_lst, ixD_tup, ixD_scr, loop_nx, loop_ct, loop_bk, loop_rt, loop_exc, asgS_some, forL_nil, compL_nil, gK_some, stepK_t, stepK_f, List.getElem?_cons_zero, List.getElem?_cons_succ, List.set_cons_zero, List.set_cons_succ, Option.bind_some, Option.map_some, if_true, if_false, Bool.false_eq_true, ite_true, ite_false, reduceIte, Bool.not_true, Bool.not_false, Bool.and_true, Bool.true_and, Bool.and_false, Bool.false_and, Bool.or_false, Bool.or_true, Bool.false_or, Bool.true_or, decide_true, decide_false, dDe_ap, dComp_ap, perAt_ap, perK_per, perK_none, wipeD_cons, wipeD_nil, List.all_cons, List.all_nil, tupO_ap, lstO_ap, line_ap, catL_ap, List.cons_append, List.nil_append, List.length_cons, List.length_nil, Nat.reduceAdd, Nat.reduceLeDiff, cast_lit, atI_int, Int.reduceLT, Int.reduceLE, Int.reduceGT, Int.reduceGE, Int.reduceMul, Int.reduceAdd, Int.reduceSub, Int.reduceNeg, Int.reduceFMod, Int.reduceFDiv, Int.reduceEq, Int.reduceNe, Int.reducePow, Int.reduceToNat, Nat.reduceLT, Nat.reduceLeDiff, Nat.reduceAdd, Nat.reduceMul, Nat.reduceSub, Nat.reduceEqDiff, ne_eq, not_false_eq_true, not_true_eq_false, and_true, true_and, and_self, and_false, false_and, or_true, true_or, or_false, false_or, List.length_cons, List.length_nil]
  · have hh : g2 n b c a = [] := by unfold g2; rw [if_neg h]
    rw [hh, List.append_nil]
    simp (discharger := first | decide +kernel | (with_unfolding_all rfl) | assumption | omega) only [lb_merel_4, modI_ok, h, bind_ok, bind_exc, bind_bad, map_ok, map_exc, map_bad, of_some, of_none, toS_ok, toS_exc, toS_bad, dC_ap, rdV_per, rdP_per, rdP_l, rdS_per, rdS_l, dVar_ap, dPeek_ap, dSee_ap, toD_per, toD_l, d2_ap, d1_ap, toB_bl, asB_ap, f1_ap, f2_ap, f3_ap, dNil_ap, dCons_ap, dNo_ap, dYes_ap, asI_int, andK_t, andK_f, orK_t, orK_f, dAnd_ap, dOr_ap, bAnd_ap, bOr_ap, bNot_ap, dIf_ap, dNx_ap, dSeq_ap, then_nx, then_rt, then_bk, then_ct, then_exc, then_bad, dBk_ap, dCt_ap, dNever_ap, frzK_some, dFrz_ap, dSet_ap, dSetO_ap, dDrop_ap, dRet_ap, dRetO_ap, dRetN_ap, dMove_ap, dIfS_ap, dRaise_ap, asgK_some, dAsg_ap, gN_ap, gZ_ap, gC_ap, gU_tup, gU_lst, dPar2_ap, dPar3_ap, augK_per, optK_some, dAug_ap, dFor_ap, dCall_ap, dAll_ap, modK_l, optL_some, dMod_ap, dPop_ap, dTryOn_ap, keepRt_rt, catch_nx, catch_rt, dTryAs_ap, catchAs_nx, catchAs_rt, run_nx, run_rt, run_exc, ii_int, unI_int, addI_ap, subI_ap, ltI_ap, leI_ap, gtI_ap, geI_ap, addD_int, mulD_int, addD_lst, mulD_lst, negD_int, absI_ap, intD_int, intD_bl, notV_bl, truD_bl, truD_int, truD_non, eqD_int, neD_int, dChain_ap, chK_bl, isD_int_int, isD_int_bl, isD_int_non, isD_int_str, isD_int_tup, isD_int_lst, isD_bool_int, isD_bool_bl, isD_bool_non, isD_bool_str, isD_bool_tup, isD_bool_lst, isD_tuple_tup, isD_tuple_lst, isD_tuple_int, isD_tuple_bl, isD_tuple_non, isD_tuple_str, isD_list_tup, isD_list_lst, isD_list_int, isD_list_bl, isD_list_non, slD_lst, slD_scr, slL_lst, seqD_lst, seqD_tup, seqD_scr, lenD_lst, lenD_tup, lenD_scr, ixD_lst, ixD_tup, ixD_scr, loop_nx, loop_ct, loop_bk, loop_rt, loop_exc, asgS_some, forL_nil, compL_nil, gK_some, stepK_t, stepK_f, List.getElem?_cons_zero, List.getElem?_cons_succ, List.set_cons_zero, List.set_cons_succ, Option.bind_some, Option.map_some, if_true, if_false, Bool.false_eq_true, ite_true, ite_false, reduceIte, Bool.not_true, Bool.not_false, Bool.and_true, Bool.true_and, Bool.and_false, Bool.false_and, Bool.or_false, Bool.or_true, Bool.false_or, Bool.true_or, decide_true, decide_false, dDe_ap, dComp_ap, perAt_ap, perK_per, perK_none, wipeD_cons, wipeD_nil, List.all_cons, List.all_nil, tupO_ap, lstO_ap, line_ap, catL_ap, List.cons_append, List.nil_append, List.length_cons, List.length_nil, Nat.reduceAdd, Nat.reduceLeDiff, cast_lit, atI_int, Int.reduceLT, Int.reduceLE, Int.reduceGT, Int.reduceGE, Int.reduceMul, Int.reduceAdd, Int.reduceSub, Int.reduceNeg, Int.reduceFMod, Int.reduceFDiv, Int.reduceEq, Int.reduceNe, Int.reducePow, Int.reduceToNat, Nat.reduceLT, Nat.reduceLeDiff, Nat.reduceAdd, Nat.reduceMul, Nat.reduceSub, Nat.reduceEqDiff, ne_eq, not_false_eq_true, not_true_eq_false, and_true, true_and, and_self, and_false, false_and, or_true, true_or, or_false, false_or, List.length_cons, List.length_nil]
theorem fd2 (n b c : Int) (hn0 : 1 ≤ n) (hn : n ≤ 60) (hb : 1 ≤ b) (hb2 : b ≤ 60) (hc : 1 ≤ c) (hc2 : c ≤ 60) : 0 ≤ (n + b * c).fdiv (c + 1) ∧ (n + b * c).fdiv (c + 1) ≤ 3660 := by
  have m := mul_small (b := b) (c := c) (by omega) hb2 (by omega) hc2
  have := fdiv_le (n := n + b * c) (a := c + 1) (by omega) (by omega)
  omega
theorem merel_bc (n b c : Int) (acc : List D) (x2 x5 : Option O) (hn0 : 1 ≤ n) (hn : n ≤ 60) (hb : 1 ≤ b) (hb2 : b ≤ 60) (hc : 1 ≤ c) (hc2 : c ≤ 60) (hl : (acc ++ (rngL (b + 1) ((n + b * c).fdiv (c + 1) + 1)).flatMap fun a => g2 n b c a).length ≤ 14000000) :
    ∃ y2 y5, lb_merel_5 [some (.per (.int n)), some (.l acc), x2, some (.per (.int b)), some (.per (.int c)), x5] = .nx [some (.per (.int n)), some (.l (acc ++ (rngL (b + 1) ((n + b * c).fdiv (c + 1) + 1)).flatMap fun a => g2 n b c a)), y2, some (.per (.int b)), some (.per (.int c)), y5] := by
  have fd := fd2 n b c hn0 hn hb hb2 hc hc2
  have m := mul_small (b := b) (c := c) (by omega) hb2 (by omega) hc2
  have m1 : mulI b c = some (.int (b * c)) := mulI_s (by omega) (by omega)
  obtain ⟨s', e, y2, rfl⟩ := forL_flat (gN 2) lb_merel_4 D.int (fun a => g2 n b c a) 14000000 (fun acc s => ∃ y2, s = [some (.per (.int n)), some (.l acc), y2, some (.per (.int b)), some (.per (.int c)), some (.per (.int (n + b * c)))]) (rngL (b + 1) ((n + b * c).fdiv (c + 1) + 1)) acc
    [some (.per (.int n)), some (.l acc), x2, some (.per (.int b)), some (.per (.int c)), some (.per (.int (n + b * c)))] ⟨x2, rfl⟩ hl (by
      rintro a ha acc s ⟨y2, rfl⟩ hl
      have ha := mem_rngL ha
      exact ⟨_, _, rfl, merel_a n b c a acc none hn0 hn hb hb2 hc hc2 (by omega) (by omega) hl, _, rfl⟩)
  have hb1 : big (b + 1) := by unfold big; omega
  have hb3 : big ((n + b * c).fdiv (c + 1) + 1) := by unfold big; omega
  refine ⟨y2, some (.per (.int (n + b * c))), ?_⟩
  have dv : divI (n + b * c) (c + 1) = some (.int ((n + b * c).fdiv (c + 1))) := divI_s (by omega) (by omega)
  simp only [lb_merel_5, m1, dv, rng2_ok hb1 hb3, bind_ok, bind_exc, bind_bad, map_ok, map_exc, map_bad, of_some, of_none, toS_ok, toS_exc, toS_bad, dC_ap, rdV_per, rdP_per, rdP_l, rdS_per, rdS_l, dVar_ap, dPeek_ap, dSee_ap, toD_per, toD_l, d2_ap, d1_ap, toB_bl, asB_ap, f1_ap, f2_ap, f3_ap, dNil_ap, dCons_ap, dNo_ap, dYes_ap, asI_int, andK_t, andK_f, orK_t, orK_f, dAnd_ap, dOr_ap, bAnd_ap, bOr_ap, bNot_ap, dIf_ap, dNx_ap, dSeq_ap, then_nx, then_rt, then_bk, then_ct, then_exc, then_bad, dBk_ap, dCt_ap, dNever_ap, frzK_some, dFrz_ap, dSet_ap, dSetO_ap, dDrop_ap, dRet_ap, dRetO_ap, dRetN_ap, dMove_ap, dIfS_ap, dRaise_ap, asgK_some, dAsg_ap, gN_ap, gZ_ap, gC_ap, gU_tup, gU_lst, dPar2_ap, dPar3_ap, augK_per, optK_some, dAug_ap, dFor_ap, dCall_ap, dAll_ap, modK_l, optL_some, dMod_ap, dPop_ap, dTryOn_ap, keepRt_rt, catch_nx, catch_rt, dTryAs_ap, catchAs_nx, catchAs_rt, run_nx, run_rt, run_exc, ii_int, unI_int, addI_ap, subI_ap, ltI_ap, leI_ap, gtI_ap, geI_ap, addD_int, mulD_int, addD_lst, mulD_lst, negD_int, absI_ap, intD_int, intD_bl, notV_bl, truD_bl, truD_int, truD_non, eqD_int, neD_int, dChain_ap, chK_bl, isD_int_int, isD_int_bl, isD_int_non, isD_int_str, isD_int_tup, isD_int_lst, isD_bool_int, isD_bool_bl, isD_bool_non, isD_bool_str, isD_bool_tup, isD_bool_lst, isD_tuple_tup, isD_tuple_lst, isD_tuple_int, isD_tuple_bl, isD_tuple_non, isD_tuple_str, isD_list_tup, isD_list_lst, isD_list_int, isD_list_bl, isD_list_non, slD_lst, slD_scr, slL_lst, seqD_lst, seqD_tup, seqD_scr, lenD_lst, lenD_tup, lenD_scr, ixD_lst, ixD_tup, ixD_scr, loop_nx, loop_ct, loop_bk, loop_rt, loop_exc, asgS_some, forL_nil, compL_nil, gK_some, stepK_t, stepK_f, List.getElem?_cons_zero, List.getElem?_cons_succ, List.set_cons_zero, List.set_cons_succ, Option.bind_some, Option.map_some, if_true, if_false, Bool.false_eq_true, ite_true, ite_false, reduceIte, Bool.not_true, Bool.not_false, Bool.and_true, Bool.true_and, Bool.and_false, Bool.false_and, Bool.or_false, Bool.or_true, Bool.false_or, Bool.true_or, decide_true, decide_false, dDe_ap, dComp_ap, perAt_ap, perK_per, perK_none, wipeD_cons, wipeD_nil, List.all_cons, List.all_nil, tupO_ap, lstO_ap, line_ap, catL_ap, List.cons_append, List.nil_append, List.length_cons, List.length_nil, Nat.reduceAdd, Nat.reduceLeDiff]
  exact e
theorem merel_b (n b : Int) (acc : List D) (x2 x4 x5 : Option O) (hn0 : 1 ≤ n) (hn : n ≤ 60) (hb : 1 ≤ b) (hb2 : b ≤ 60) (hl : (acc ++ (rngL 1 (n - b)).flatMap fun c => (rngL (b + 1) ((n + b * c).fdiv (c + 1) + 1)).flatMap fun a => g2 n b c a).length ≤ 14000000) :
    ∃ y2 y4 y5, lb_merel_6 [some (.per (.int n)), some (.l acc), x2, some (.per (.int b)), x4, x5] = .nx [some (.per (.int n)), some (.l (acc ++ (rngL 1 (n - b)).flatMap fun c => (rngL (b + 1) ((n + b * c).fdiv (c + 1) + 1)).flatMap fun a => g2 n b c a)), y2, some (.per (.int b)), y4, y5] := by
  obtain ⟨s', e, y2, y4, y5, rfl⟩ := forL_flat (gN 4) lb_merel_5 D.int (fun c => (rngL (b + 1) ((n + b * c).fdiv (c + 1) + 1)).flatMap fun a => g2 n b c a) 14000000 (fun acc s => ∃ y2 y4 y5, s = [some (.per (.int n)), some (.l acc), y2, some (.per (.int b)), y4, y5]) (rngL 1 (n - b)) acc
    [some (.per (.int n)), some (.l acc), x2, some (.per (.int b)), x4, x5] ⟨x2, x4, x5, rfl⟩ hl (by
      rintro c hc acc s ⟨y2, y4, y5, rfl⟩ hl
      have hc := mem_rngL hc
      obtain ⟨z2, z5, ez⟩ := merel_bc n b c acc y2 y5 hn0 hn hb hb2 hc.1 (by omega) hl
      exact ⟨_, _, rfl, ez, _, _, _, rfl⟩)
  have hb1 : big 1 := by decide
  have hb3 : big (n - b) := by unfold big; omega
  refine ⟨y2, y4, y5, ?_⟩
  simp only [lb_merel_6, rng2_ok hb1 hb3, bind_ok, bind_exc, bind_bad, map_ok, map_exc, map_bad, of_some, of_none, toS_ok, toS_exc, toS_bad, dC_ap, rdV_per, rdP_per, rdP_l, rdS_per, rdS_l, dVar_ap, dPeek_ap, dSee_ap, toD_per, toD_l, d2_ap, d1_ap, toB_bl, asB_ap, f1_ap, f2_ap, f3_ap, dNil_ap, dCons_ap, dNo_ap, dYes_ap, asI_int, andK_t, andK_f, orK_t, orK_f, dAnd_ap, dOr_ap, bAnd_ap, bOr_ap, bNot_ap, dIf_ap, dNx_ap, dSeq_ap, then_nx, then_rt, then_bk, then_ct, then_exc, then_bad, dBk_ap, dCt_ap, dNever_ap, frzK_some, dFrz_ap, dSet_ap, dSetO_ap, dDrop_ap, dRet_ap, dRetO_ap, dRetN_ap, dMove_ap, dIfS_ap, dRaise_ap, asgK_some, dAsg_ap, gN_ap, gZ_ap, gC_ap, gU_tup, gU_lst, dPar2_ap, dPar3_ap, augK_per, optK_some, dAug_ap, dFor_ap, dCall_ap, dAll_ap, modK_l, optL_some, dMod_ap, dPop_ap, dTryOn_ap, keepRt_rt, catch_nx, catch_rt, dTryAs_ap, catchAs_nx, catchAs_rt, run_nx, run_rt, run_exc, ii_int, unI_int, addI_ap, subI_ap, ltI_ap, leI_ap, gtI_ap, geI_ap, addD_int, mulD_int, addD_lst, mulD_lst, negD_int, absI_ap, intD_int, intD_bl, notV_bl, truD_bl, truD_int, truD_non, eqD_int, neD_int, dChain_ap, chK_bl, isD_int_int, isD_int_bl, isD_int_non, isD_int_str, isD_int_tup, isD_int_lst, isD_bool_int, isD_bool_bl, isD_bool_non, isD_bool_str, isD_bool_tup, isD_bool_lst, isD_tuple_tup, isD_tuple_lst, isD_tuple_int, isD_tuple_bl, isD_tuple_non, isD_tuple_str, isD_list_tup, isD_list_lst, isD_list_int, isD_list_bl, isD_list_non, slD_lst, slD_scr, slL_lst, seqD_lst, seqD_tup, seqD_scr, lenD_lst, lenD_tup, lenD_scr, ixD_lst, ixD_tup, ixD_scr, loop_nx, loop_ct, loop_bk, loop_rt, loop_exc, asgS_some, forL_nil, compL_nil, gK_some, stepK_t, stepK_f, List.getElem?_cons_zero, List.getElem?_cons_succ, List.set_cons_zero, List.set_cons_succ, Option.bind_some, Option.map_some, if_true, if_false, Bool.false_eq_true, ite_true, ite_false, reduceIte, Bool.not_true, Bool.not_false, Bool.and_true, Bool.true_and, Bool.and_false, Bool.false_and, Bool.or_false, Bool.or_true, Bool.false_or, Bool.true_or, decide_true, decide_false, dDe_ap, dComp_ap, perAt_ap, perK_per, perK_none, wipeD_cons, wipeD_nil, List.all_cons, List.all_nil, tupO_ap, lstO_ap, line_ap, catL_ap, List.cons_append, List.nil_append, List.length_cons, List.length_nil, Nat.reduceAdd, Nat.reduceLeDiff]
  exact e
theorem len_g2 (n b c a : Int) : (g2 n b c a).length ≤ 1 := by unfold g2; split <;> simp
theorem len_G2a (n : Int) (hn0 : 1 ≤ n) (hn : n ≤ 60) : (G2a n).length ≤ 7200 :=
  Nat.le_trans (len_flat _ 120 _ fun a ha => len_g1 n a (by have := mem_rngL ha; have := fdiv_le (n := n) (a := a) (by omega) (by omega); omega) (by have := mem_rngL ha; omega)) (by rw [length_rngL]; exact len_mul (b := 60) (by omega) (Nat.le_refl 120))
theorem len_G2b (n : Int) (hn0 : 1 ≤ n) (hn : n ≤ 60) : (G2b n).length ≤ 13176000 := by
  refine Nat.le_trans (len_flat _ 219600 _ fun b hb => ?_) (by rw [length_rngL]; exact len_mul (b := 60) (by omega) (Nat.le_refl 219600))
  have hb := mem_rngL hb
  refine Nat.le_trans (len_flat _ 3660 _ fun c hc => ?_) (by rw [length_rngL]; exact len_mul (b := 60) (by omega) (Nat.le_refl 3660))
  have hc := mem_rngL hc
  have fd := fd2 n b c hn0 hn (by omega) (by omega) (by omega) (by omega)
  refine Nat.le_trans (len_flat _ 1 _ fun a _ => len_g2 n b c a) ?_
  rw [length_rngL]
  omega
theorem isint (v : Int) : mir_is_integer [.int v] = .ok (.per (.bl true)) := by
  rw [mir_is_integer_ap]
  simp only [wb_is_integer, bind_ok, bind_exc, bind_bad, map_ok, map_exc, map_bad, of_some, of_none, toS_ok, toS_exc, toS_bad, dC_ap, rdV_per, rdP_per, rdP_l, rdS_per, rdS_l, dVar_ap, dPeek_ap, dSee_ap, toD_per, toD_l, d2_ap, d1_ap, toB_bl, asB_ap, f1_ap, f2_ap, f3_ap, dNil_ap, dCons_ap, dNo_ap, dYes_ap, asI_int, andK_t, andK_f, orK_t, orK_f, dAnd_ap, dOr_ap, bAnd_ap, bOr_ap, bNot_ap, dIf_ap, dNx_ap, dSeq_ap, then_nx, then_rt, then_bk, then_ct, then_exc, then_bad, dBk_ap, dCt_ap, dNever_ap, frzK_some, dFrz_ap, dSet_ap, dSetO_ap, dDrop_ap, dRet_ap, dRetO_ap, dRetN_ap, dMove_ap, dIfS_ap, dRaise_ap, asgK_some, dAsg_ap, gN_ap, gZ_ap, gC_ap, gU_tup, gU_lst, dPar2_ap, dPar3_ap, augK_per, optK_some, dAug_ap, dFor_ap, dCall_ap, dAll_ap, modK_l, optL_some, dMod_ap, dPop_ap, dTryOn_ap, keepRt_rt, catch_nx, catch_rt, dTryAs_ap, catchAs_nx, catchAs_rt, run_nx, run_rt, run_exc, ii_int, unI_int, addI_ap, subI_ap, ltI_ap, leI_ap, gtI_ap, geI_ap, addD_int, mulD_int, addD_lst, mulD_lst, negD_int, absI_ap, intD_int, intD_bl, notV_bl, truD_bl, truD_int, truD_non, eqD_int, neD_int, dChain_ap, chK_bl, isD_int_int, isD_int_bl, isD_int_non, isD_int_str, isD_int_tup, isD_int_lst, isD_bool_int, isD_bool_bl, isD_bool_non, isD_bool_str, isD_bool_tup, isD_bool_lst, isD_tuple_tup, isD_tuple_lst, isD_tuple_int, isD_tuple_bl, isD_tuple_non, isD_tuple_str, isD_list_tup, isD_list_lst, isD_list_int, isD_list_bl, isD_list_non, slD_lst, slD_scr, slL_lst, seqD_lst, seqD_tup, seqD_scr, lenD_lst, lenD_tup, lenD_scr, ixD_lst, ixD_tup, ixD_scr, loop_nx, loop_ct, loop_bk, loop_rt, loop_exc, asgS_some, forL_nil, compL_nil, gK_some, stepK_t, stepK_f, List.getElem?_cons_zero, List.getElem?_cons_succ, List.set_cons_zero, List.set_cons_succ, Option.bind_some, Option.map_some, if_true, if_false, Bool.false_eq_true, ite_true, ite_false, reduceIte, Bool.not_true, Bool.not_false, Bool.and_true, Bool.true_and, Bool.and_false, Bool.false_and, Bool.or_false, Bool.or_true, Bool.false_or, Bool.true_or, decide_true, decide_false, dDe_ap, dComp_ap, perAt_ap, perK_per, perK_none, wipeD_cons, wipeD_nil, List.all_cons, List.all_nil, tupO_ap, lstO_ap, line_ap, catL_ap, List.cons_append, List.nil_append, List.length_cons, List.length_nil, Nat.reduceAdd, Nat.reduceLeDiff]
theorem isint_b (v : Bool) : mir_is_integer [.bl v] = .ok (.per (.bl false)) := by
  rw [mir_is_integer_ap]
  simp only [wb_is_integer, bind_ok, bind_exc, bind_bad, map_ok, map_exc, map_bad, of_some, of_none, toS_ok, toS_exc, toS_bad, dC_ap, rdV_per, rdP_per, rdP_l, rdS_per, rdS_l, dVar_ap, dPeek_ap, dSee_ap, toD_per, toD_l, d2_ap, d1_ap, toB_bl, asB_ap, f1_ap, f2_ap, f3_ap, dNil_ap, dCons_ap, dNo_ap, dYes_ap, asI_int, andK_t, andK_f, orK_t, orK_f, dAnd_ap, dOr_ap, bAnd_ap, bOr_ap, bNot_ap, dIf_ap, dNx_ap, dSeq_ap, then_nx, then_rt, then_bk, then_ct, then_exc, then_bad, dBk_ap, dCt_ap, dNever_ap, frzK_some, dFrz_ap, dSet_ap, dSetO_ap, dDrop_ap, dRet_ap, dRetO_ap, dRetN_ap, dMove_ap, dIfS_ap, dRaise_ap, asgK_some, dAsg_ap, gN_ap, gZ_ap, gC_ap, gU_tup, gU_lst, dPar2_ap, dPar3_ap, augK_per, optK_some, dAug_ap, dFor_ap, dCall_ap, dAll_ap, modK_l, optL_some, dMod_ap, dPop_ap, dTryOn_ap, keepRt_rt, catch_nx, catch_rt, dTryAs_ap, catchAs_nx, catchAs_rt, run_nx, run_rt, run_exc, ii_int, unI_int, addI_ap, subI_ap, ltI_ap, leI_ap, gtI_ap, geI_ap, addD_int, mulD_int, addD_lst, mulD_lst, negD_int, absI_ap, intD_int, intD_bl, notV_bl, truD_bl, truD_int, truD_non, eqD_int, neD_int, dChain_ap, chK_bl, isD_int_int, isD_int_bl, isD_int_non, isD_int_str, isD_int_tup, isD_int_lst, isD_bool_int, isD_bool_bl, isD_bool_non, isD_bool_str, isD_bool_tup, isD_bool_lst, isD_tuple_tup, isD_tuple_lst, isD_tuple_int, isD_tuple_bl, isD_tuple_non, isD_tuple_str, isD_list_tup, isD_list_lst, isD_list_int, isD_list_bl, isD_list_non, slD_lst, slD_scr, slL_lst, seqD_lst, seqD_tup, seqD_scr, lenD_lst, lenD_tup, lenD_scr, ixD_lst, ixD_tup, ixD_scr, loop_nx, loop_ct, loop_bk, loop_rt, loop_exc, asgS_some, forL_nil, compL_nil, gK_some, stepK_t, stepK_f, List.getElem?_cons_zero, List.getElem?_cons_succ, List.set_cons_zero, List.set_cons_succ, Option.bind_some, Option.map_some, if_true, if_false, Bool.false_eq_true, ite_true, ite_false, reduceIte, Bool.not_true, Bool.not_false, Bool.and_true, Bool.true_and, Bool.and_false, Bool.false_and, Bool.or_false, Bool.or_true, Bool.false_or, Bool.true_or, decide_true, decide_false, dDe_ap, dComp_ap, perAt_ap, perK_per, perK_none, wipeD_cons, wipeD_nil, List.all_cons, List.all_nil, tupO_ap, lstO_ap, line_ap, catL_ap, List.cons_append, List.nil_append, List.length_cons, List.length_nil, Nat.reduceAdd, Nat.reduceLeDiff]
theorem look_ok (n : Int) (h1 : 1 ≤ n) (h2 : n ≤ 60) : mir_look_at_number [.int n] = .ok (.per .non) := by
  rw [mir_look_at_number_ap]
  have e1 : decide (n < 1) = false := decide_eq_false (by omega)
  have e2 : decide (60 < n) = false := decide_eq_false (by omega)
  simp only [wb_look_at_number, isint, e1, e2, bind_ok, bind_exc, bind_bad, map_ok, map_exc, map_bad, of_some, of_none, toS_ok, toS_exc, toS_bad, dC_ap, rdV_per, rdP_per, rdP_l, rdS_per, rdS_l, dVar_ap, dPeek_ap, dSee_ap, toD_per, toD_l, d2_ap, d1_ap, toB_bl, asB_ap, f1_ap, f2_ap, f3_ap, dNil_ap, dCons_ap, dNo_ap, dYes_ap, asI_int, andK_t, andK_f, orK_t, orK_f, dAnd_ap, dOr_ap, bAnd_ap, bOr_ap, bNot_ap, dIf_ap, dNx_ap, dSeq_ap, then_nx, then_rt, then_bk, then_ct, then_exc, then_bad, dBk_ap, dCt_ap, dNever_ap, frzK_some, dFrz_ap, dSet_ap, dSetO_ap, dDrop_ap, dRet_ap, dRetO_ap, dRetN_ap, dMove_ap, dIfS_ap, dRaise_ap, asgK_some, dAsg_ap, gN_ap, gZ_ap, gC_ap, gU_tup, gU_lst, dPar2_ap, dPar3_ap, augK_per, optK_some, dAug_ap, dFor_ap, dCall_ap, dAll_ap, modK_l, optL_some, dMod_ap, dPop_ap, dTryOn_ap, keepRt_rt, catch_nx, catch_rt, dTryAs_ap, catchAs_nx, catchAs_rt, run_nx, run_rt, run_exc, ii_int, unI_int, addI_ap, subI_ap, ltI_ap, leI_ap, gtI_ap, geI_ap, addD_int, mulD_int, addD_lst, mulD_lst, negD_int, absI_ap, intD_int, intD_bl, notV_bl, truD_bl, truD_int, truD_non, eqD_int, neD_int, dChain_ap, chK_bl, isD_int_int, isD_int_bl, isD_int_non, isD_int_str, isD_int_tup, isD_int_lst, isD_bool_int, isD_bool_bl, isD_bool_non, isD_bool_str, isD_bool_tup, isD_bool_lst, isD_tuple_tup, isD_tuple_lst, isD_tuple_int, isD_tuple_bl, isD_tuple_non, isD_tuple_str, isD_list_tup, isD_list_lst, isD_list_int, isD_list_bl, isD_list_non, slD_lst, slD_scr, slL_lst, seqD_lst, seqD_tup, seqD_scr, lenD_lst, lenD_tup, lenD_scr, ixD_lst, ixD_tup, ixD_scr, loop_nx, loop_ct, loop_bk, loop_rt, loop_exc, asgS_some, forL_nil, compL_nil, gK_some, stepK_t, stepK_f, List.getElem?_cons_zero, List.getElem?_cons_succ, List.set_cons_zero, List.set_cons_succ, Option.bind_some, Option.map_some, if_true, if_false, Bool.false_eq_true, ite_true, ite_false, reduceIte, Bool.not_true, Bool.not_false, Bool.and_true, Bool.true_and, Bool.and_false, Bool.false_and, Bool.or_false, Bool.or_true, Bool.false_or, Bool.true_or, decide_true, decide_false, dDe_ap, dComp_ap, perAt_ap, perK_per, perK_none, wipeD_cons, wipeD_nil, List.all_cons, List.all_nil, tupO_ap, lstO_ap, line_ap, catL_ap, List.cons_append, List.nil_append, List.length_cons, List.length_nil, Nat.reduceAdd, Nat.reduceLeDiff]
theorem look_no (n : Int) (h : n < 1 ∨ 60 < n) : mir_look_at_number [.int n] = .exc "BadNumber" := by
  rw [mir_look_at_number_ap]
  by_cases h1 : n < 1
  · simp only [wb_look_at_number, isint, h1, bind_ok, bind_exc, bind_bad, map_ok, map_exc, map_bad, of_some, of_none, toS_ok, toS_exc, toS_bad, dC_ap, rdV_per, rdP_per, rdP_l, rdS_per, rdS_l, dVar_ap, dPeek_ap, dSee_ap, toD_per, toD_l, d2_ap, d1_ap, toB_bl, asB_ap, f1_ap, f2_ap, f3_ap, dNil_ap, dCons_ap, dNo_ap, dYes_ap, asI_int, andK_t, andK_f, orK_t, orK_f, dAnd_ap, dOr_ap, bAnd_ap, bOr_ap, bNot_ap, dIf_ap, dNx_ap, dSeq_ap, then_nx, then_rt, then_bk, then_ct, then_exc, then_bad, dBk_ap, dCt_ap, dNever_ap, frzK_some, dFrz_ap, dSet_ap, dSetO_ap, dDrop_ap, dRet_ap, dRetO_ap, dRetN_ap, dMove_ap, dIfS_ap, dRaise_ap, asgK_some, dAsg_ap, gN_ap, gZ_ap, gC_ap, gU_tup, gU_lst, dPar2_ap, dPar3_ap, augK_per, optK_some, dAug_ap, dFor_ap, dCall_ap, dAll_ap, modK_l, optL_some, dMod_ap, dPop_ap, dTryOn_ap, keepRt_rt, catch_nx, catch_rt, dTryAs_ap, catchAs_nx, catchAs_rt, run_nx, run_rt, run_exc, ii_int, unI_int, addI_ap, subI_ap, ltI_ap, leI_ap, gtI_ap, geI_ap, addD_int, mulD_int, addD_lst, mulD_lst, negD_int, absI_ap, intD_int, intD_bl, notV_bl, truD_bl, truD_int, truD_non, eqD_int, neD_int, dChain_ap, chK_bl, isD_int_int, isD_int_bl, isD_int_non, isD_int_str, isD_int_tup, isD_int_lst, isD_bool_int, isD_bool_bl, isD_bool_non, isD_bool_str, isD_bool_tup, isD_bool_lst, isD_tuple_tup, isD_tuple_lst, isD_tuple_int, isD_tuple_bl, isD_tuple_non, isD_tuple_str, isD_list_tup, isD_list_lst, isD_list_int, isD_list_bl, isD_list_non, slD_lst, slD_scr, slL_lst, seqD_lst, seqD_tup, seqD_scr, lenD_lst, lenD_tup, lenD_scr, ixD_lst, ixD_tup, ixD_scr, loop_nx, loop_ct, loop_bk, loop_rt, loop_exc, asgS_some, forL_nil, compL_nil, gK_some, stepK_t, stepK_f, List.getElem?_cons_zero, List.getElem?_cons_succ, List.set_cons_zero, List.set_cons_succ, Option.bind_some, Option.map_some, if_true, if_false, Bool.false_eq_true, ite_true, ite_false, reduceIte, Bool.not_true, Bool.not_false, Bool.and_true, Bool.true_and, Bool.and_false, Bool.false_and, Bool.or_false, Bool.or_true, Bool.false_or, Bool.true_or, decide_true, decide_false, dDe_ap, dComp_ap, perAt_ap, perK_per, perK_none, wipeD_cons, wipeD_nil, List.all_cons, List.all_nil, tupO_ap, lstO_ap, line_ap, catL_ap, List.cons_append, List.nil_append, List.length_cons, List.length_nil, Nat.reduceAdd, Nat.reduceLeDiff]
  · have h2 : 60 < n := h.resolve_left h1
    simp only [wb_look_at_number, isint, h1, h2, bind_ok, bind_exc, bind_bad, map_ok, map_exc, map_bad, of_some, of_none, toS_ok, toS_exc, toS_bad, dC_ap, rdV_per, rdP_per, rdP_l, rdS_per, rdS_l, dVar_ap, dPeek_ap, dSee_ap, toD_per, toD_l, d2_ap, d1_ap, toB_bl, asB_ap, f1_ap, f2_ap, f3_ap, dNil_ap, dCons_ap, dNo_ap, dYes_ap, asI_int, andK_t, andK_f, orK_t, orK_f, dAnd_ap, dOr_ap, bAnd_ap, bOr_ap, bNot_ap, dIf_ap, dNx_ap, dSeq_ap, then_nx, then_rt, then_bk, then_ct, then_exc, then_bad, dBk_ap, dCt_ap, dNever_ap, frzK_some, dFrz_ap, dSet_ap, dSetO_ap, dDrop_ap, dRet_ap, dRetO_ap, dRetN_ap, dMove_ap, dIfS_ap, dRaise_ap, asgK_some, dAsg_ap, gN_ap, gZ_ap, gC_ap, gU_tup, gU_lst, dPar2_ap, dPar3_ap, augK_per, optK_some, dAug_ap, dFor_ap, dCall_ap, dAll_ap, modK_l, optL_some, dMod_ap, dPop_ap, dTryOn_ap, keepRt_rt, catch_nx, catch_rt, dTryAs_ap, catchAs_nx, catchAs_rt, run_nx, run_rt, run_exc, ii_int, unI_int, addI_ap, subI_ap, ltI_ap, leI_ap, gtI_ap, geI_ap, addD_int, mulD_int, addD_lst, mulD_lst, negD_int, absI_ap, intD_int, intD_bl, notV_bl, truD_bl, truD_int, truD_non, eqD_int, neD_int, dChain_ap, chK_bl, isD_int_int, isD_int_bl, isD_int_non, isD_int_str, isD_int_tup, isD_int_lst, isD_bool_int, isD_bool_bl, isD_bool_non, isD_bool_str, isD_bool_tup, isD_bool_lst, isD_tuple_tup, isD_tuple_lst, isD_tuple_int, isD_tuple_bl, isD_tuple_non, isD_tuple_str, isD_list_tup, isD_list_lst, isD_list_int, isD_list_bl, isD_list_non, slD_lst, slD_scr, slL_lst, seqD_lst, seqD_tup, seqD_scr, lenD_lst, lenD_tup, lenD_scr, ixD_lst, ixD_tup, ixD_scr, loop_nx, loop_ct, loop_bk, loop_rt, loop_exc, asgS_some, forL_nil, compL_nil, gK_some, stepK_t, stepK_f, List.getElem?_cons_zero, List.getElem?_cons_succ, List.set_cons_zero, List.set_cons_succ, Option.bind_some, Option.map_some, if_true, if_false, Bool.false_eq_true, ite_true, ite_false, reduceIte, Bool.not_true, Bool.not_false, Bool.and_true, Bool.true_and, Bool.and_false, Bool.false_and, Bool.or_false, Bool.or_true, Bool.false_or, Bool.true_or, decide_true, decide_false, dDe_ap, dComp_ap, perAt_ap, perK_per, perK_none, wipeD_cons, wipeD_nil, List.all_cons, List.all_nil, tupO_ap, lstO_ap, line_ap, catL_ap, List.cons_append, List.nil_append, List.length_cons, List.length_nil, Nat.reduceAdd, Nat.reduceLeDiff]
theorem look_b (n : Bool) : mir_look_at_number [.bl n] = .exc "BadNumber" := by
  rw [mir_look_at_number_ap]
  simp only [wb_look_at_number, isint_b, bind_ok, bind_exc, bind_bad, map_ok, map_exc, map_bad, of_some, of_none, toS_ok, toS_exc, toS_bad, dC_ap, rdV_per, rdP_per, rdP_l, rdS_per, rdS_l, dVar_ap, dPeek_ap, dSee_ap, toD_per, toD_l, d2_ap, d1_ap, toB_bl, asB_ap, f1_ap, f2_ap, f3_ap, dNil_ap, dCons_ap, dNo_ap, dYes_ap, asI_int, andK_t, andK_f, orK_t, orK_f, dAnd_ap, dOr_ap, bAnd_ap, bOr_ap, bNot_ap, dIf_ap, dNx_ap, dSeq_ap, then_nx, then_rt, then_bk, then_ct, then_exc, then_bad, dBk_ap, dCt_ap, dNever_ap, frzK_some, dFrz_ap, dSet_ap, dSetO_ap, dDrop_ap, dRet_ap, dRetO_ap, dRetN_ap, dMove_ap, dIfS_ap, dRaise_ap, asgK_some, dAsg_ap, gN_ap, gZ_ap, gC_ap, gU_tup, gU_lst, dPar2_ap, dPar3_ap, augK_per, optK_some, dAug_ap, dFor_ap, dCall_ap, dAll_ap, modK_l, optL_some, dMod_ap, dPop_ap, dTryOn_ap, keepRt_rt, catch_nx, catch_rt, dTryAs_ap, catchAs_nx, catchAs_rt, run_nx, run_rt, run_exc, ii_int, unI_int, addI_ap, subI_ap, ltI_ap, leI_ap, gtI_ap, geI_ap, addD_int, mulD_int, addD_lst, mulD_lst, negD_int, absI_ap, intD_int, intD_bl, notV_bl, truD_bl, truD_int, truD_non, eqD_int, neD_int, dChain_ap, chK_bl, isD_int_int, isD_int_bl, isD_int_non, isD_int_str, isD_int_tup, isD_int_lst, isD_bool_int, isD_bool_bl, isD_bool_non, isD_bool_str, isD_bool_tup, isD_bool_lst, isD_tuple_tup, isD_tuple_lst, isD_tuple_int, isD_tuple_bl, isD_tuple_non, isD_tuple_str, isD_list_tup, isD_list_lst, isD_list_int, isD_list_bl, isD_list_non, slD_lst, slD_scr, slL_lst, seqD_lst, seqD_tup, seqD_scr, lenD_lst, lenD_tup, lenD_scr, ixD_lst, ixD_tup, ixD_scr, loop_nx, loop_ct, loop_bk, loop_rt, loop_exc, asgS_some, forL_nil, compL_nil, gK_some, stepK_t, stepK_f, List.getElem?_cons_zero, List.getElem?_cons_succ, List.set_cons_zero, List.set_cons_succ, Option.bind_some, Option.map_some, if_true, if_false, Bool.false_eq_true, ite_true, ite_false, reduceIte, Bool.not_true, Bool.not_false, Bool.and_true, Bool.true_and, Bool.and_false, Bool.false_and, Bool.or_false, Bool.or_true, Bool.false_or, Bool.true_or, decide_true, decide_false, dDe_ap, dComp_ap, perAt_ap, perK_per, perK_none, wipeD_cons, wipeD_nil, List.all_cons, List.all_nil, tupO_ap, lstO_ap, line_ap, catL_ap, List.cons_append, List.nil_append, List.length_cons, List.length_nil, Nat.reduceAdd, Nat.reduceLeDiff]
theorem merel_eq (n : Int) (hn0 : 1 ≤ n) (hn : n ≤ 60) (ha : AlikeD (G2a n ++ G2b n)) : mir_merel [.int n] = .ok (.l ((G2a n ++ G2b n).mergeSort leD)) := by
  obtain ⟨s', e, y2, rfl⟩ := forL_flat (gN 2) lb_merel_3 D.int (fun a => g1 n a) 1000000 (fun acc s => ∃ x2, s = [some (.per (.int n)), some (.l acc), x2, none, none, none]) (rngL 1 (n + 1)) []
    [some (.per (.int n)), some (.l []), none, none, none, none] ⟨none, rfl⟩ (by rw [List.nil_append]; exact Nat.le_trans (len_G2a n hn0 hn) (by decide)) (by
      rintro a ha acc s ⟨x2, rfl⟩ hl
      have ha := mem_rngL ha
      exact ⟨_, _, rfl, merel_step n a acc none hn0 hn ha.1 (by omega) hl, _, rfl⟩)
  obtain ⟨s'', e2, z2, z3, z4, z5, rfl⟩ := forL_flat (gN 3) lb_merel_6 D.int (fun b => (rngL 1 (n - b)).flatMap fun c => (rngL (b + 1) ((n + b * c).fdiv (c + 1) + 1)).flatMap fun a => g2 n b c a) 14000000 (fun acc s => ∃ x2 x3 x4 x5, s = [some (.per (.int n)), some (.l acc), x2, x3, x4, x5]) (rngL 1 n) (G2a n)
    [some (.per (.int n)), some (.l (G2a n)), y2, none, none, none] ⟨y2, none, none, none, rfl⟩ (by rw [List.length_append]; have := len_G2a n hn0 hn; have := len_G2b n hn0 hn; unfold G2b at this; omega) (by
      rintro b hb acc s ⟨x2, x3, x4, x5, rfl⟩ hl
      have hb := mem_rngL hb
      obtain ⟨w2, w4, w5, ez⟩ := merel_b n b acc x2 x4 x5 hn0 hn hb.1 (by omega) hl
      exact ⟨_, _, rfl, ez, _, _, _, _, rfl⟩)
  have hb : big (n + 1) := by unfold big; omega
  have hbn : big n := by unfold big; omega
  have hb1 : big 1 := by decide
  rw [List.nil_append] at e
  have e : forL (gN 2) lb_merel_3 ((rngL 1 (n + 1)).map D.int) [some (.per (.int n)), some (.l []), none, none, none, none] = .nx [some (.per (.int n)), some (.l (G2a n)), y2, none, none, none] := e
  have e2 : forL (gN 3) lb_merel_6 ((rngL 1 n).map D.int) [some (.per (.int n)), some (.l (G2a n)), y2, none, none, none] = .nx [some (.per (.int n)), some (.l (G2a n ++ G2b n)), z2, z3, z4, z5] := e2
  rw [mir_merel_ap]
  simp only [wb_merel, look_ok n hn0 hn, rng2_ok hb1 hb, rng2_ok hb1 hbn, e, e2, sortD_ok ha, bind_ok, bind_exc, bind_bad, map_ok, map_exc, map_bad, of_some, of_none, toS_ok, toS_exc, toS_bad, dC_ap, rdV_per, rdP_per, rdP_l, rdS_per, rdS_l, dVar_ap, dPeek_ap, dSee_ap, toD_per, toD_l, d2_ap, d1_ap, toB_bl, asB_ap, f1_ap, f2_ap, f3_ap, dNil_ap, dCons_ap, dNo_ap, dYes_ap, asI_int, andK_t, andK_f, orK_t, orK_f, dAnd_ap, dOr_ap, bAnd_ap, bOr_ap, bNot_ap, dIf_ap, dNx_ap, dSeq_ap, then_nx, then_rt, then_bk, then_ct, then_exc, then_bad, dBk_ap, dCt_ap, dNever_ap, frzK_some, dFrz_ap, dSet_ap, dSetO_ap, dDrop_ap, dRet_ap, dRetO_ap, dRetN_ap, dMove_ap, dIfS_ap, dRaise_ap, asgK_some, dAsg_ap, gN_ap, gZ_ap, gC_ap, gU_tup, gU_lst, dPar2_ap, dPar3_ap, augK_per, optK_some, dAug_ap, dFor_ap, dCall_ap, dAll_ap, modK_l, optL_some, dMod_ap, dPop_ap, dTryOn_ap, keepRt_rt, catch_nx, catch_rt, dTryAs_ap, catchAs_nx, catchAs_rt, run_nx, run_rt, run_exc, ii_int, unI_int, addI_ap, subI_ap, ltI_ap, leI_ap, gtI_ap, geI_ap, addD_int, mulD_int, addD_lst, mulD_lst, negD_int, absI_ap, intD_int, intD_bl, notV_bl, truD_bl, truD_int, truD_non, eqD_int, neD_int, dChain_ap, chK_bl, isD_int_int, isD_int_bl, isD_int_non, isD_int_str, isD_int_tup, isD_int_lst, isD_bool_int, isD_bool_bl, isD_bool_non, isD_bool_str, isD_bool_tup, isD_bool_lst, isD_tuple_tup, isD_tuple_lst, isD_tuple_int, isD_tuple_bl, isD_tuple_non, isD_tuple_str, isD_list_tup, isD_list_lst, isD_list_int, isD_list_bl, isD_list_non, slD_lst, slD_scr, slL_lst, seqD_lst, seqD_tup, seqD_scr, lenD_lst, lenD_tup, lenD_scr, ixD_lst, ixD_tup, ixD_scr, loop_nx, loop_ct, loop_bk, loop_rt, loop_exc, asgS_some, forL_nil, compL_nil, gK_some, stepK_t, stepK_f, List.getElem?_cons_zero, List.getElem?_cons_succ, List.set_cons_zero, List.set_cons_succ, Option.bind_some, Option.map_some, if_true, if_false, Bool.false_eq_true, ite_true, ite_false, reduceIte, Bool.not_true, Bool.not_false, Bool.and_true, Bool.true_and, Bool.and_false, Bool.false_and, Bool.or_false, Bool.or_true, Bool.false_or, Bool.true_or, decide_true, decide_false, dDe_ap, dComp_ap, perAt_ap, perK_per, perK_none, wipeD_cons, wipeD_nil, List.all_cons, List.all_nil, tupO_ap, lstO_ap, line_ap, catL_ap, List.cons_append, List.nil_append, List.length_cons, List.length_nil, Nat.reduceAdd, Nat.reduceLeDiff]
end K30

namespace K30
open PySem PySem.Spec PyProof.Rows L2 DL
def kA : D → Int | .tup [.tup [.int a, _], _] => a | _ => 0
def kB : D → Int | .tup [.tup [_, .int b], _] => b | _ => 0
def kC : D → Int | .tup [_, .tup [.int c, _]] => c | _ => 0
def kD : D → Int | .tup [_, .tup [_, .int d]] => d | _ => 0
theorem kA_q (a b c d : Int) : kA (quad a b c d) = a := rfl
theorem kB_q (a b c d : Int) : kB (quad a b c d) = b := rfl
theorem kC_q (a b c d : Int) : kC (quad a b c d) = c := rfl
theorem kD_q (a b c d : Int) : kD (quad a b c d) = d := rfl
theorem fd_of {a x q : Int} (ha : 0 < a) (h : x = a * q) : x.fmod a = 0 ∧ x.fdiv a = q := by
  rw [Int.fmod_eq_emod_of_nonneg x (by omega), Int.fdiv_eq_ediv_of_nonneg x (by omega), h]
  exact ⟨Int.mul_emod_right a q, Int.mul_ediv_cancel_left q (by omega)⟩
theorem fd_inv {a x : Int} (ha : 0 < a) (h : x.fmod a = 0) : x = a * x.fdiv a := by
  rw [Int.fmod_eq_emod_of_nonneg x (by omega)] at h
  rw [Int.fdiv_eq_ediv_of_nonneg x (by omega)]
  have := Int.mul_ediv_add_emod x a
  omega
theorem mem_h1 {n a d b : Int} {y : D} (h : y ∈ h1 n a d b) : (b = 0 ∧ a * d = n ∧ ∃ c, 0 ≤ c ∧ c < d ∧ y = quad a b c d) ∨ (0 < b ∧ n ≤ a * d ∧ (a * d - n).fmod b = 0 ∧ (a * d - n).fdiv b < d ∧ y = quad a b ((a * d - n).fdiv b) d) := by
  unfold h1 at h
  rcases List.mem_append.mp h with h | h
  · split at h
    · rename_i hc
      obtain ⟨c, hc2, rfl⟩ := List.mem_map.mp h
      have hc2 := mem_rngL hc2
      exact .inl ⟨hc.1, hc.2, c, hc2.1, hc2.2, by rw [hc.1]⟩
    · simp at h
  · split at h
    · rename_i hc
      exact .inr ⟨hc.1, hc.2.1, hc.2.2.1, hc.2.2.2, List.mem_singleton.mp h⟩
    · simp at h
theorem key_h1 {n a d b : Int} {y : D} (h : y ∈ h1 n a d b) : kA y = a ∧ kB y = b ∧ kD y = d := by
  rcases mem_h1 h with ⟨_, _, c, _, _, rfl⟩ | ⟨_, _, _, _, rfl⟩ <;> exact ⟨rfl, rfl, rfl⟩
theorem nd_h1 (n a d b : Int) : (h1 n a d b).Nodup := by
  unfold h1
  by_cases h : b = 0 ∧ a * d = n
  · rw [if_pos h, if_neg (by omega), List.append_nil]
    exact nodup_map_inj (fun x y e => by have := congrArg kC e; rwa [kC_q, kC_q] at this) (nodup_rng 0 d)
  · rw [if_neg h, List.nil_append]
    split
    · exact List.nodup_cons.mpr ⟨by simp, List.nodup_nil⟩
    · exact List.nodup_nil
theorem nd_G1 (n : Int) : (G1 n).Nodup := by
  refine nodup_flat kA _ _ (nodup_rng _ _) (fun a _ => nodup_flat kD _ _ (nodup_rng _ _) (fun d _ => nodup_flat kB _ _ (nodup_rng _ _) (fun b _ => nd_h1 n a d b) fun b _ y hy => (key_h1 hy).2.1) fun d _ y hy => ?_) fun a _ y hy => ?_
  · obtain ⟨b, _, hy⟩ := List.mem_flatMap.mp hy
    exact (key_h1 hy).2.2
  · obtain ⟨d, _, hy⟩ := List.mem_flatMap.mp hy
    obtain ⟨b, _, hy⟩ := List.mem_flatMap.mp hy
    exact (key_h1 hy).1
def S (n : Int) (y : D) : Prop := ∃ a b c d, y = quad a b c d ∧ 0 ≤ b ∧ b < a ∧ 0 ≤ c ∧ c < d ∧ a * d - b * c = n
theorem S_bound {n a b c d : Int} (h1 : 0 ≤ b) (h2 : b < a) (h3 : 0 ≤ c) (h4 : c < d) (h : a * d - b * c = n) : a + d - 1 ≤ n := by
  have m : b * c ≤ (a - 1) * (d - 1) := Int.mul_le_mul (by omega) (by omega) h3 (by omega)
  have e : (a - 1) * (d - 1) = a * d - a - d + 1 := by
    rw [Int.sub_mul, Int.mul_sub, Int.mul_one, Int.one_mul]
    omega
  omega
theorem mem_G1 (n : Int) (y : D) : y ∈ G1 n ↔ S n y := by
  constructor
  · intro h
    obtain ⟨a, ha, h⟩ := List.mem_flatMap.mp h
    obtain ⟨d, hd, h⟩ := List.mem_flatMap.mp h
    obtain ⟨b, hb, h⟩ := List.mem_flatMap.mp h
    have hb := mem_rngL hb
    rcases mem_h1 h with ⟨rfl, he, c, h1, h2, rfl⟩ | ⟨h0, h1, h2, h3, rfl⟩
    · exact ⟨a, 0, c, d, rfl, by omega, hb.2, h1, h2, by rw [Int.zero_mul]; omega⟩
    · have e := fd_inv h0 h2
      have nn := Int.fdiv_nonneg (a := a * d - n) (b := b) (by omega) (by omega)
      exact ⟨a, b, _, d, rfl, hb.1, hb.2, nn, h3, by omega⟩
  · rintro ⟨a, b, c, d, rfl, h1, h2, h3, h4, h⟩
    have hb := S_bound h1 h2 h3 h4 h
    refine List.mem_flatMap.mpr ⟨a, mem_rng.mpr ⟨by omega, by omega⟩, List.mem_flatMap.mpr ⟨d, mem_rng.mpr ⟨by omega, by omega⟩, List.mem_flatMap.mpr ⟨b, mem_rng.mpr ⟨h1, h2⟩, ?_⟩⟩⟩
    unfold K30.h1
    by_cases hz : b = 0
    · subst hz
      rw [Int.zero_mul] at h
      rw [if_pos ⟨rfl, by omega⟩]
      exact List.mem_append_left _ (List.mem_map.mpr ⟨c, mem_rng.mpr ⟨h3, h4⟩, rfl⟩)
    · have hp : 0 < b := by omega
      have nn : 0 ≤ b * c := Int.mul_nonneg h1 h3
      have f := fd_of (a := b) (x := a * d - n) (q := c) hp (by omega)
      rw [if_pos (c := 0 < b ∧ _) ⟨hp, by omega, f.1, by rw [f.2]; exact h4⟩, f.2]
      exact List.mem_append_right _ (List.mem_singleton.mpr rfl)
theorem mem_g1 {n a : Int} {y : D} (h : y ∈ g1 n a) : n.fmod a = 0 ∧ ((∃ c, 0 ≤ c ∧ c < n.fdiv a ∧ y = quad a 0 c (n.fdiv a)) ∨ ∃ b, 1 ≤ b ∧ b < a ∧ y = quad a b 0 (n.fdiv a)) := by
  unfold g1 at h
  split at h
  · rename_i hc
    refine ⟨hc, ?_⟩
    rcases List.mem_append.mp h with h | h
    · obtain ⟨c, hc2, rfl⟩ := List.mem_map.mp h
      exact .inl ⟨c, (mem_rngL hc2).1, (mem_rngL hc2).2, rfl⟩
    · obtain ⟨b, hb, rfl⟩ := List.mem_map.mp h
      exact .inr ⟨b, (mem_rngL hb).1, (mem_rngL hb).2, rfl⟩
  · simp at h
theorem key_g1 {n a : Int} {y : D} (h : y ∈ g1 n a) : kA y = a ∧ (kB y = 0 ∨ kC y = 0) := by
  rcases (mem_g1 h).2 with ⟨c, _, _, rfl⟩ | ⟨b, _, _, rfl⟩
  · exact ⟨rfl, .inl rfl⟩
  · exact ⟨rfl, .inr rfl⟩
theorem nd_g1 (n a : Int) : (g1 n a).Nodup := by
  unfold g1
  split
  · rw [List.nodup_append]
    refine ⟨nodup_map_inj (fun x y e => by have := congrArg kC e; rwa [kC_q, kC_q] at this) (nodup_rng _ _), nodup_map_inj (fun x y e => by have := congrArg kB e; rwa [kB_q, kB_q] at this) (nodup_rng _ _), fun x hx y hy e => ?_⟩
    obtain ⟨c, _, rfl⟩ := List.mem_map.mp hx
    obtain ⟨b, hb, rfl⟩ := List.mem_map.mp hy
    have := congrArg kB e
    rw [kB_q, kB_q] at this
    have := mem_rngL hb
    omega
  · exact List.nodup_nil
theorem mem_g2 {n b c a : Int} {y : D} (h : y ∈ g2 n b c a) : (n + b * c).fmod a = 0 ∧ y = quad a b c ((n + b * c).fdiv a) := by
  unfold g2 at h
  split at h
  · rename_i hc
    exact ⟨hc, List.mem_singleton.mp h⟩
  · simp at h
theorem nd_g2 (n b c a : Int) : (g2 n b c a).Nodup := by
  unfold g2
  split
  · exact List.nodup_cons.mpr ⟨by simp, List.nodup_nil⟩
  · exact List.nodup_nil
theorem nd_G2b (n : Int) : (G2b n).Nodup := by
  refine nodup_flat kB _ _ (nodup_rng _ _) (fun b _ => nodup_flat kC _ _ (nodup_rng _ _) (fun c _ => nodup_flat kA _ _ (nodup_rng _ _) (fun a _ => nd_g2 n b c a) fun a _ y hy => by rw [(mem_g2 hy).2]; rfl) fun c _ y hy => ?_) fun b _ y hy => ?_
  · obtain ⟨a, _, hy⟩ := List.mem_flatMap.mp hy
    rw [(mem_g2 hy).2]; rfl
  · obtain ⟨c, _, hy⟩ := List.mem_flatMap.mp hy
    obtain ⟨a, _, hy⟩ := List.mem_flatMap.mp hy
    rw [(mem_g2 hy).2]; rfl
theorem nd_G2 (n : Int) : (G2a n ++ G2b n).Nodup := by
  rw [List.nodup_append]
  refine ⟨nodup_flat kA _ _ (nodup_rng _ _) (fun a _ => nd_g1 n a) fun a _ y hy => (key_g1 hy).1, nd_G2b n, fun x hx y hy e => ?_⟩
  subst e
  obtain ⟨a, _, hx⟩ := List.mem_flatMap.mp hx
  obtain ⟨b, hb, hy⟩ := List.mem_flatMap.mp hy
  obtain ⟨c, hc, hy⟩ := List.mem_flatMap.mp hy
  obtain ⟨a', _, hy⟩ := List.mem_flatMap.mp hy
  have := mem_rngL hb
  have := mem_rngL hc
  have k := (key_g1 hx).2
  rw [(mem_g2 hy).2, kB_q, kC_q] at k
  omega
theorem mem_G2 (n : Int) (hn : 1 ≤ n) (y : D) : y ∈ G2a n ++ G2b n ↔ S n y := by
  constructor
  · intro h
    rcases List.mem_append.mp h with h | h
    · obtain ⟨a, ha, h⟩ := List.mem_flatMap.mp h
      have ha := mem_rngL ha
      obtain ⟨h0, h⟩ := mem_g1 h
      have e := fd_inv (by omega) h0
      rcases h with ⟨c, h1, h2, rfl⟩ | ⟨b, h1, h2, rfl⟩
      · exact ⟨a, 0, c, _, rfl, by omega, by omega, h1, h2, by rw [Int.zero_mul]; omega⟩
      · refine ⟨a, b, 0, _, rfl, by omega, h2, by omega, ?_, by rw [Int.mul_zero]; omega⟩
        apply Int.lt_of_not_ge
        intro z
        have : a * n.fdiv a ≤ 0 := Int.mul_nonpos_of_nonneg_of_nonpos (by omega) z
        omega
    · obtain ⟨b, hb, h⟩ := List.mem_flatMap.mp h
      obtain ⟨c, hc, h⟩ := List.mem_flatMap.mp h
      obtain ⟨a, ha, h⟩ := List.mem_flatMap.mp h
      have hb := mem_rngL hb
      have hc := mem_rngL hc
      have ha := mem_rngL ha
      obtain ⟨h0, rfl⟩ := mem_g2 h
      have e := fd_inv (by omega) h0
      refine ⟨a, b, c, _, rfl, by omega, by omega, by omega, ?_, by omega⟩
      apply Int.lt_of_not_ge
      intro z
      have nn : 0 ≤ b * c := Int.mul_nonneg (by omega) (by omega)
      have q1 : a * (n + b * c).fdiv a ≤ a * c := Int.mul_le_mul_of_nonneg_left z (by omega)
      have q2 : (c + 1) * a ≤ n + b * c := by
        have q3 : a ≤ (n + b * c) / (c + 1) := by
          rw [← Int.fdiv_eq_ediv_of_nonneg _ (by omega)]
          omega
        have := Int.mul_le_of_le_ediv (a := a) (b := n + b * c) (c := c + 1) (by omega) q3
        rw [Int.mul_comm]
        exact this
      have q4 : (c + 1) * a = a * c + a := by rw [Int.add_mul, Int.one_mul, Int.mul_comm]
      omega
  · rintro ⟨a, b, c, d, rfl, h1, h2, h3, h4, h⟩
    have hb := S_bound h1 h2 h3 h4 h
    by_cases hz : b = 0 ∨ c = 0
    · have bc : b * c = 0 := by
        rcases hz with rfl | rfl
        · rw [Int.zero_mul]
        · rw [Int.mul_zero]
      have f := fd_of (a := a) (x := n) (q := d) (by omega) (by omega)
      refine List.mem_append_left _ (List.mem_flatMap.mpr ⟨a, mem_rng.mpr ⟨by omega, by omega⟩, ?_⟩)
      unfold g1
      rw [if_pos f.1, f.2]
      by_cases hb0 : b = 0
      · subst hb0
        exact List.mem_append_left _ (List.mem_map.mpr ⟨c, mem_rng.mpr ⟨h3, h4⟩, rfl⟩)
      · have hc0 : c = 0 := hz.resolve_left hb0
        subst hc0
        exact List.mem_append_right _ (List.mem_map.mpr ⟨b, mem_rng.mpr ⟨by omega, h2⟩, rfl⟩)
    · have f := fd_of (a := a) (x := n + b * c) (q := d) (by omega) (by omega)
      refine List.mem_append_right _ (List.mem_flatMap.mpr ⟨b, mem_rng.mpr ⟨by omega, by omega⟩, List.mem_flatMap.mpr ⟨c, mem_rng.mpr ⟨by omega, by omega⟩, List.mem_flatMap.mpr ⟨a, mem_rng.mpr ⟨by omega, ?_⟩, ?_⟩⟩⟩)
      · have q : a ≤ (n + b * c) / (c + 1) := by
          apply Int.le_ediv_of_mul_le (by omega)
          have : a * (c + 1) ≤ a * d := Int.mul_le_mul_of_nonneg_left (by omega) (by omega)
          omega
        rw [← Int.fdiv_eq_ediv_of_nonneg _ (by omega)] at q
        omega
      · unfold g2
        rw [if_pos f.1, f.2]
        exact List.mem_singleton.mpr rfl
theorem perm_G (n : Int) (hn : 1 ≤ n) : (G1 n).Perm (G2a n ++ G2b n) :=
  (List.perm_ext_iff_of_nodup (nd_G1 n) (nd_G2 n)).mpr fun y => (mem_G1 n y).trans (mem_G2 n hn y).symm
theorem alike_S {n : Int} {xs : List D} (h : ∀ y ∈ xs, S n y) : AlikeD xs := by
  refine ⟨fun d hd e he => ?_, .inl fun d hd => ?_, fun d hd => ?_⟩
  · obtain ⟨a, b, c, d', rfl, _⟩ := h d hd
    obtain ⟨a2, b2, c2, d2, rfl, _⟩ := h e he
    simp only [quad, D.toP, D.toPs, PySem.W.alike, PySem.W.alikeAll, Bool.and_self]
  · obtain ⟨a, b, c, d', rfl, _⟩ := h d hd
    exact ⟨_, _, rfl⟩
  · obtain ⟨a, b, c, d', rfl, _⟩ := h d hd
    rfl
theorem itr_S {n : Int} {y : D} (h : S n y) : itr 60 y = true := by
  obtain ⟨a, b, c, d', rfl, _⟩ := h
  rfl
def G (n : Int) : List D := (G1 n).mergeSort leD
theorem found_G (n : Int) (h1 : 1 ≤ n) (h2 : n ≤ 60) : mir__law_found [.int n] = .ok (.l (G n)) := found_eq n h1 h2 (alike_S fun y hy => (mem_G1 n y).mp hy)
theorem merel_G (n : Int) (h1 : 1 ≤ n) (h2 : n ≤ 60) : mir_merel [.int n] = .ok (.l (G n)) := by
  rw [merel_eq n h1 h2 (alike_S fun y hy => (mem_G2 n h1 y).mp hy)]
  unfold G
  rw [sort_perm (perm_G n h1) (alike_S fun y hy => (mem_G1 n y).mp hy) fun y hy => itr_S ((mem_G1 n y).mp hy)]
end K30

namespace K30
open PySem PySem.Spec PyProof.Rows L2 DL
theorem eqvs_refl : ∀ xs : List D, (∀ x ∈ xs, eqv x x = true) → eqvs xs xs = true
  | [], _ => by simp only [eqvs]
  | x :: xs, h => by
    simp only [eqvs, h x List.mem_cons_self, eqvs_refl xs fun y hy => h y (List.mem_cons_of_mem _ hy), Bool.and_self]
theorem mem_G {n : Int} {y : D} (h : y ∈ G n) : S n y := (mem_G1 n y).mp (List.mem_mergeSort.mp h)
theorem neG (n : Int) : neD (.lst (G n)) (.lst (G n)) = some (.bl false) := by
  have hs : shp 60 (.lst (G n)) = true := by
    simp only [shp, List.all_eq_true]
    intro y hy
    obtain ⟨a, b, c, d, rfl, _⟩ := mem_G hy
    rfl
  rw [neD_ok hs hs]
  have : eqv (.lst (G n)) (.lst (G n)) = true := by
    simp only [eqv]
    refine eqvs_refl _ fun y hy => ?_
    obtain ⟨a, b, c, d, rfl, _⟩ := mem_G hy
    simp only [quad, eqv, eqvs, decide_true, Bool.and_self]
  rw [this]
  rfl
theorem cell0 (ns : List Int) : ∃ v, mir__law_cell [.scr ns, .int 0] = .ok (.per (.int v)) := by
  rw [mir__law_cell_ap]
  match ns with
  | [] => exact ⟨0, by simp (discharger := first | decide +kernel | (with_unfolding_all rfl) | assumption | omega) only [wb__law_cell, bind_ok, bind_exc, bind_bad, map_ok, map_exc, map_bad, of_some, of_none, toS_ok, toS_exc, toS_bad, dC_ap, rdV_per, rdP_per, rdP_l, rdS_per, rdS_l, dVar_ap, dPeek_ap, dSee_ap, toD_per, toD_l, d2_ap, d1_ap, toB_bl, asB_ap, f1_ap, f2_ap, f3_ap, dNil_ap, dCons_ap, dNo_ap, dYes_ap, asI_int, andK_t, andK_f, orK_t, orK_f, dAnd_ap, dOr_ap, bAnd_ap, bOr_ap, bNot_ap, dIf_ap, dNx_ap, dSeq_ap, then_nx, then_rt, then_bk, then_ct, then_exc, then_bad, dBk_ap, dCt_ap, dNever_ap, frzK_some, dFrz_ap, dSet_ap, dSetO_ap, dDrop_ap, dRet_ap, dRetO_ap, dRetN_ap, dMove_ap, dIfS_ap, dRaise_ap, asgK_some, dAsg_ap, gN_ap, gZ_ap, gC_ap, gU_tup, gU_lst, dPar2_ap, dPar3_ap, augK_per, optK_some, dAug_ap, dFor_ap, dCall_ap, dAll_ap, modK_l, optL_some, dMod_ap, dPop_ap, dTryOn_ap, keepRt_rt, catch_nx, catch_rt, dTryAs_ap, catchAs_nx, catchAs_rt, run_nx, run_rt, run_exc, ii_int, unI_int, addI_ap, subI_ap, ltI_ap, leI_ap, gtI_ap, geI_ap, addD_int, mulD_int, addD_lst, mulD_lst, negD_int, absI_ap, intD_int, intD_bl, notV_bl, truD_bl, truD_int, truD_non, eqD_int, neD_int, dChain_ap, chK_bl, isD_int_int, isD_int_bl, isD_int_non, isD_int_str, isD_int_tup, isD_int_lst, isD_bool_int, isD_bool_bl, isD_bool_non, isD_bool_str, isD_bool_tup, isD_bool_lst, isD_tuple_tup, isD_tuple_lst, isD_tuple_int, isD_tuple_bl, isD_tuple_non, isD_tuple_str, isD_list_tup, isD_list_lst, isD_list_int, isD_list_bl, isD_list_non, slD_lst, slD_scr, slL_lst, seqD_lst, seqD_tup, seqD_scr, lenD_lst, lenD_tup, lenD_scr, ixD_lst, ixD_tup, ixD_scr, loop_nx, loop_ct, loop_bk, loop_rt, loop_exc, asgS_some, forL_nil, compL_nil, gK_some, stepK_t, stepK_f, List.getElem?_cons_zero, List.getElem?_cons_succ, List.set_cons_zero, List.set_cons_succ, Option.bind_some, Option.map_some, if_true, if_false, Bool.false_eq_true, ite_true, ite_false, reduceIte, Bool.not_true, Bool.not_false, Bool.and_true, Bool.true_and, Bool.and_false, Bool.false_and, Bool.or_false, Bool.or_true, Bool.false_or, Bool.true_or, decide_true, decide_false, dDe_ap, dComp_ap, perAt_ap, perK_per, perK_none, wipeD_cons, wipeD_nil, List.all_cons, List.all_nil, tupO_ap, lstO_ap, line_ap, catL_ap, List.cons_append, List.nil_append, List.length_cons, List.length_nil, Nat.reduceAdd, Nat.reduceLeDiff, cast_lit, atI_int, Int.reduceLT, Int.reduceLE, Int.reduceGT, Int.reduceGE, Int.reduceMul, Int.reduceAdd, Int.reduceSub, Int.reduceNeg, Int.reduceFMod, Int.reduceFDiv, Int.reduceEq, Int.reduceNe, Int.reducePow, Int.reduceToNat, Nat.reduceLT, Nat.reduceLeDiff, Nat.reduceAdd, Nat.reduceMul, Nat.reduceSub, Nat.reduceEqDiff, ne_eq, not_false_eq_true, not_true_eq_false, and_true, true_and, and_self, and_false, false_and, or_true, true_or, or_false, false_or, List.length_cons, List.length_nil]⟩
  | v :: ns =>
    refine ⟨v, ?_⟩
    have h : ((0 : Int) < (((v :: ns).length : Nat) : Int)) := by rw [List.length_cons]; omega
    have h2 : decide ((0 : Int) < (((v :: ns).length : Nat) : Int)) = true := decide_eq_true h
    simp only [wb__law_cell, show lenD (.scr (v :: ns)) = some (.int (((v :: ns).length : Nat) : Int)) from rfl, bind_ok, of_some, dIfS_ap, dSeq_ap, asB_ap, d2_ap, dVar_ap, List.getElem?_cons_succ, List.getElem?_cons_zero, rdV_per, f1_ap, dPeek_ap, rdP_per, ii_int, ltI_ap, h2, toB_bl, toS_ok, if_true, dRet_ap, f2_ap, ixD_scr, atI_int (Int.le_refl 0), Int.toNat_zero, Option.map_some, then_rt, run_rt]
theorem merel_exc (d : D) (h : mir_look_at_number [d] = .exc "BadNumber") : mir_merel [d] = .exc "BadNumber" := by
  rw [mir_merel_ap]
  simp only [wb_merel, h, bind_ok, bind_exc, bind_bad, map_ok, map_exc, map_bad, of_some, of_none, toS_ok, toS_exc, toS_bad, dC_ap, rdV_per, rdP_per, rdP_l, rdS_per, rdS_l, dVar_ap, dPeek_ap, dSee_ap, toD_per, toD_l, d2_ap, d1_ap, toB_bl, asB_ap, f1_ap, f2_ap, f3_ap, dNil_ap, dCons_ap, dNo_ap, dYes_ap, asI_int, andK_t, andK_f, orK_t, orK_f, dAnd_ap, dOr_ap, bAnd_ap, bOr_ap, bNot_ap, dIf_ap, dNx_ap, dSeq_ap, then_nx, then_rt, then_bk, then_ct, then_exc, then_bad, dBk_ap, dCt_ap, dNever_ap, frzK_some, dFrz_ap, dSet_ap, dSetO_ap, dDrop_ap, dRet_ap, dRetO_ap, dRetN_ap, dMove_ap, dIfS_ap, dRaise_ap, asgK_some, dAsg_ap, gN_ap, gZ_ap, gC_ap, gU_tup, gU_lst, dPar2_ap, dPar3_ap, augK_per, optK_some, dAug_ap, dFor_ap, dCall_ap, dAll_ap, modK_l, optL_some, dMod_ap, dPop_ap, dTryOn_ap, keepRt_rt, catch_nx, catch_rt, dTryAs_ap, catchAs_nx, catchAs_rt, run_nx, run_rt, run_exc, ii_int, unI_int, addI_ap, subI_ap, ltI_ap, leI_ap, gtI_ap, geI_ap, addD_int, mulD_int, addD_lst, mulD_lst, negD_int, absI_ap, intD_int, intD_bl, notV_bl, truD_bl, truD_int, truD_non, eqD_int, neD_int, dChain_ap, chK_bl, isD_int_int, isD_int_bl, isD_int_non, isD_int_str, isD_int_tup, isD_int_lst, isD_bool_int, isD_bool_bl, isD_bool_non, isD_bool_str, isD_bool_tup, isD_bool_lst, isD_tuple_tup, isD_tuple_lst, isD_tuple_int, isD_tuple_bl, isD_tuple_non, isD_tuple_str, isD_list_tup, isD_list_lst, isD_list_int, isD_list_bl, isD_list_non, slD_lst, slD_scr, slL_lst, seqD_lst, seqD_tup, seqD_scr, lenD_lst, lenD_tup, lenD_scr, ixD_lst, ixD_tup, ixD_scr, loop_nx, loop_ct, loop_bk, loop_rt, loop_exc, asgS_some, forL_nil, compL_nil, gK_some, stepK_t, stepK_f, List.getElem?_cons_zero, List.getElem?_cons_succ, List.set_cons_zero, List.set_cons_succ, Option.bind_some, Option.map_some, if_true, if_false, Bool.false_eq_true, ite_true, ite_false, reduceIte, Bool.not_true, Bool.not_false, Bool.and_true, Bool.true_and, Bool.and_false, Bool.false_and, Bool.or_false, Bool.or_true, Bool.false_or, Bool.true_or, decide_true, decide_false, dDe_ap, dComp_ap, perAt_ap, perK_per, perK_none, wipeD_cons, wipeD_nil, List.all_cons, List.all_nil, tupO_ap, lstO_ap, line_ap, catL_ap, List.cons_append, List.nil_append, List.length_cons, List.length_nil, Nat.reduceAdd, Nat.reduceLeDiff]
theorem sub1 : hd.sub "BadNumber" "BadNumber" = true := by decide +kernel
theorem sub2 : hd.sub "BadNumber" "BadSymbol" = false := by decide +kernel
theorem c_N (a b : Option O) (h : Str → DSt → RS) : (RS.exc "BadNumber" [a, b]).catchAs hd.ex (fun c => hd.sub c "HecateError") 1 h = keepRt (h "BadNumber" [a, none]) := catchAs_exc (by decide +kernel) rfl (by decide +kernel)
theorem refused (d : D) (h : mir_look_at_number [d] = .exc "BadNumber") : mir__law_refused [d] = .ok (.per (.bl true)) := by
  rw [mir__law_refused_ap]
  simp only [wb__law_refused, merel_exc d h, c_N, sub1, sub2, bind_ok, bind_exc, bind_bad, map_ok, map_exc, map_bad, of_some, of_none, toS_ok, toS_exc, toS_bad, dC_ap, rdV_per, rdP_per, rdP_l, rdS_per, rdS_l, dVar_ap, dPeek_ap, dSee_ap, toD_per, toD_l, d2_ap, d1_ap, toB_bl, asB_ap, f1_ap, f2_ap, f3_ap, dNil_ap, dCons_ap, dNo_ap, dYes_ap, asI_int, andK_t, andK_f, orK_t, orK_f, dAnd_ap, dOr_ap, bAnd_ap, bOr_ap, bNot_ap, dIf_ap, dNx_ap, dSeq_ap, then_nx, then_rt, then_bk, then_ct, then_exc, then_bad, dBk_ap, dCt_ap, dNever_ap, frzK_some, dFrz_ap, dSet_ap, dSetO_ap, dDrop_ap, dRet_ap, dRetO_ap, dRetN_ap, dMove_ap, dIfS_ap, dRaise_ap, asgK_some, dAsg_ap, gN_ap, gZ_ap, gC_ap, gU_tup, gU_lst, dPar2_ap, dPar3_ap, augK_per, optK_some, dAug_ap, dFor_ap, dCall_ap, dAll_ap, modK_l, optL_some, dMod_ap, dPop_ap, dTryOn_ap, keepRt_rt, catch_nx, catch_rt, dTryAs_ap, catchAs_nx, catchAs_rt, run_nx, run_rt, run_exc, ii_int, unI_int, addI_ap, subI_ap, ltI_ap, leI_ap, gtI_ap, geI_ap, addD_int, mulD_int, addD_lst, mulD_lst, negD_int, absI_ap, intD_int, intD_bl, notV_bl, truD_bl, truD_int, truD_non, eqD_int, neD_int, dChain_ap, chK_bl, isD_int_int, isD_int_bl, isD_int_non, isD_int_str, isD_int_tup, isD_int_lst, isD_bool_int, isD_bool_bl, isD_bool_non, isD_bool_str, isD_bool_tup, isD_bool_lst, isD_tuple_tup, isD_tuple_lst, isD_tuple_int, isD_tuple_bl, isD_tuple_non, isD_tuple_str, isD_list_tup, isD_list_lst, isD_list_int, isD_list_bl, isD_list_non, slD_lst, slD_scr, slL_lst, seqD_lst, seqD_tup, seqD_scr, lenD_lst, lenD_tup, lenD_scr, ixD_lst, ixD_tup, ixD_scr, loop_nx, loop_ct, loop_bk, loop_rt, loop_exc, asgS_some, forL_nil, compL_nil, gK_some, stepK_t, stepK_f, List.getElem?_cons_zero, List.getElem?_cons_succ, List.set_cons_zero, List.set_cons_succ, Option.bind_some, Option.map_some, if_true, if_false, Bool.false_eq_true, ite_true, ite_false, reduceIte, Bool.not_true, Bool.not_false, Bool.and_true, Bool.true_and, Bool.and_false, Bool.false_and, Bool.or_false, Bool.or_true, Bool.false_or, Bool.true_or, decide_true, decide_false, dDe_ap, dComp_ap, perAt_ap, perK_per, perK_none, wipeD_cons, wipeD_nil, List.all_cons, List.all_nil, tupO_ap, lstO_ap, line_ap, catL_ap, List.cons_append, List.nil_append, List.length_cons, List.length_nil, Nat.reduceAdd, Nat.reduceLeDiff]
theorem fmod_rng (a b : Int) (hb : 0 < b) : 0 ≤ a.fmod b ∧ a.fmod b < b := ⟨Int.fmod_nonneg_of_pos a hb, Int.fmod_lt_of_pos a hb⟩
theorem law_pure (ns : List Int) (h : ns.length ≤ 63) (hb : ∀ z ∈ ns, Builtin.Int.intBits z ≤ 1048576) : runB wb_law (startD N_law.length [.scr ns]) = .ok (.per (.bl true)) := by
  obtain ⟨v, hv⟩ := cell0 ns
  generalize hu : (if v < 0 then -v else v) = u
  have u0 : 0 ≤ u := by rw [← hu]; split <;> omega
  obtain ⟨m, hm, hm2⟩ : ∃ m : Int, (m = 20 ∨ m = 60) ∧ L2.atI [D.int 20, D.int 20, D.int 60] ((u.fdiv 60).fmod 3) = some (.int m) := by
    have z := fmod_rng (u.fdiv 60) 3 (by decide)
    generalize (u.fdiv 60).fmod 3 = i at z
    have : i = 0 ∨ i = 1 ∨ i = 2 := by omega
    rcases this with rfl | rfl | rfl
    · exact ⟨20, .inl rfl, rfl⟩
    · exact ⟨20, .inl rfl, rfl⟩
    · exact ⟨60, .inr rfl, rfl⟩
  have z := fmod_rng u m (by omega)
  generalize hn : 1 + u.fmod m = n
  have n1 : 1 ≤ n := by omega
  have n2 : n ≤ 60 := by omega
  have zc := fmod_rng u 1000 (by decide)
  have hr : rngL 0 2 = [0, 1] := by decide
  have hl : line ((G n).length + 1) = true := line_of (by unfold G; rw [List.length_mergeSort]; have := len_G1 n n2; omega)
  have f4 := fun b d ds s => forL_cons (gN 4) b d ds s
  have c6 := fun t e s d ds => compL_cons (gN 6) t e s d ds
  have q1 := refused _ (look_no 0 (by omega))
  have q2 := refused _ (look_no 61 (by omega))
  have q3 := refused _ (look_b true)
  have q4 := refused _ (look_b false)
  have q5 := refused _ (look_no (0 - n) (by omega))
  have q6 := refused _ (look_no (61 + u.fmod 1000) (by omega))
  have hall : allD (.lst [.bl true, .bl true, .bl true, .bl true, .bl true, .bl true]) = some (.bl true) := rfl
  rw [runB_ap]
  show (wb_law [some (.per (.scr ns)), none, none, none, none, none, none]).run = _
  have hmz : m ≠ 0 := by omega
  simp (discharger := first | decide +kernel | (with_unfolding_all rfl) | assumption | omega) only [wb_law, lb_law_1, ce_law_2, hv, hu, hm2, hn, found_G n n1 n2, merel_G n n1 n2, neG n, hr, f4, c6, appL_ok hl, rng1_ok, modI_ok, divI_s, hmz, q1, q2, q3, q4, q5, q6, hall, List.map_cons, List.map_nil, bind_ok, bind_exc, bind_bad, map_ok, map_exc, map_bad, of_some, of_none, toS_ok, toS_exc, toS_bad, dC_ap, rdV_per, rdP_per, rdP_l, rdS_per, rdS_l, dVar_ap, dPeek_ap, dSee_ap, toD_per, toD_l, d2_ap, d1_ap, toB_bl, asB_ap, f1_ap, f2_ap, f3_ap, dNil_ap, dCons_ap, dNo_ap, dYes_ap, asI_int, andK_t, andK_f, orK_t, orK_f, dAnd_ap, dOr_ap, bAnd_ap, bOr_ap, bNot_ap, dIf_ap, dNx_ap, dSeq_ap, then_nx, then_rt, then_bk, then_ct, then_exc, then_bad, dBk_ap, dCt_ap, dNever_ap, frzK_some, dFrz_ap, dSet_ap, dSetO_ap, dDrop_ap, dRet_ap, dRetO_ap, dRetN_ap, dMove_ap, dIfS_ap, dRaise_ap, asgK_some, dAsg_ap, gN_ap, gZ_ap, gC_ap, gU_tup, gU_lst, dPar2_ap, dPar3_ap, augK_per, optK_some, dAug_ap, dFor_ap, dCall_ap, dAll_ap, modK_l, optL_some, dMod_ap, dPop_ap, dTryOn_ap, keepRt_rt, catch_nx, catch_rt, dTryAs_ap, catchAs_nx, catchAs_rt, run_nx, run_rt, run_exc, ii_int, unI_int, addI_ap, subI_ap, ltI_ap, leI_ap, gtI_ap, geI_ap, addD_int, mulD_int, addD_lst, mulD_lst, negD_int, absI_ap, intD_int, intD_bl, notV_bl, truD_bl, truD_int, truD_non, eqD_int, neD_int, dChain_ap, chK_bl, isD_int_int, isD_int_bl, isD_int_non, isD_int_str, isD_int_tup, isD_int_lst, isD_bool_int, isD_bool_bl, isD_bool_non, isD_bool_str, isD_bool_tup, isD_bool_lst, isD_tuple_tup, isD_tuple_lst, isD_tuple_int, isD_tuple_bl, isD_tuple_non, isD_tuple_str, isD_list_tup, isD_list_lst, isD_list_int, isD_list_bl, isD_list_non, slD_lst, slD_scr, slL_lst, seqD_lst, seqD_tup, seqD_scr, lenD_lst, lenD_tup, lenD_scr, ixD_lst, ixD_tup, ixD_scr, loop_nx, loop_ct, loop_bk, loop_rt, loop_exc, asgS_some, forL_nil, compL_nil, gK_some, stepK_t, stepK_f, List.getElem?_cons_zero, List.getElem?_cons_succ, List.set_cons_zero, List.set_cons_succ, Option.bind_some, Option.map_some, if_true, if_false, Bool.false_eq_true, ite_true, ite_false, reduceIte, Bool.not_true, Bool.not_false, Bool.and_true, Bool.true_and, Bool.and_false, Bool.false_and, Bool.or_false, Bool.or_true, Bool.false_or, Bool.true_or, decide_true, decide_false, dDe_ap, dComp_ap, perAt_ap, perK_per, perK_none, wipeD_cons, wipeD_nil, List.all_cons, List.all_nil, tupO_ap, lstO_ap, line_ap, catL_ap, List.cons_append, List.nil_append, List.length_cons, List.length_nil, Nat.reduceAdd, Nat.reduceLeDiff, cast_lit, atI_int, Int.reduceLT, Int.reduceLE, Int.reduceGT, Int.reduceGE, Int.reduceMul, Int.reduceAdd, Int.reduceSub, Int.reduceNeg, Int.reduceFMod, Int.reduceFDiv, Int.reduceEq, Int.reduceNe, Int.reducePow, Int.reduceToNat, Nat.reduceLT, Nat.reduceLeDiff, Nat.reduceAdd, Nat.reduceMul, Nat.reduceSub, Nat.reduceEqDiff, ne_eq, not_false_eq_true, not_true_eq_false, and_true, true_and, and_self, and_false, false_and, or_true, true_or, or_false, false_or, List.length_cons, List.length_nil]
end K30

namespace K30
open PySem PySem.Spec PyProof.Rows L2 DL
abbrev Rr : PySem.W.OpenRow := PySem.W.OpenLaw.row PySem.Challenge.rw_hecate_k30_lists_of_matrices
abbrev hk : PySem.W.Hook := hookX 5 hd fn
def ob (s : PySem.W.SharedT) : He.AlD := obsXG 5 hd fn (HandSHeadRun.getT s)
theorem ob_eq (s : PySem.W.SharedT) : ob s = hk.obs s.abs := obsXG_eq (HandSHeadRun.getT_eq s)
theorem run (w : World) : HandSHeadRun.RunEq Rr (PySem.W.view Rr.prog [17]) hk ob 20000 ["HecateError", "BadSymbol", "BadNumber", "is_integer", "MOST_NUMBER", "look_at_number", "merel", "_law_is_integer", "_law_cell", "_law_mixed", "_law_digits", "_law_found", "_law_refused"] w := by
  intro os
  kernel_rfl
end K30

open PySem PySem.W PySem.Calls PyProof.Rows
theorem PySem.Challenge.cw_hecate_k30_lists_of_matrices_holds : PySem.Challenge.rw_hecate_k30_lists_of_matrices.Holds := by
  w_on; o_law
  refine HandSHeadRun.head_any (r := OpenLaw.row PySem.Challenge.rw_hecate_k30_lists_of_matrices) (q := view (OpenLaw.row PySem.Challenge.rw_hecate_k30_lists_of_matrices).prog [17]) (H := K30.hk) (ob := K30.ob) (M := 20000) (loose := ["HecateError", "BadSymbol", "BadNumber", "is_integer", "MOST_NUMBER", "look_at_number", "merel", "_law_is_integer", "_law_cell", "_law_mixed", "_law_digits", "_law_found", "_law_refused"]) (d := HandSHeadRun.topDef (OpenLaw.row PySem.Challenge.rw_hecate_k30_lists_of_matrices).prog 17) (kwd := []) K30.ob_eq
    (by kernel_rfl) (fun s => by kernel_rfl) K30.run (by kernel_rfl) (by kernel_rfl) (by kernel_rfl) (by rfl) (by first | assumption | decide +kernel) (by decide +kernel) ⟨rfl, rfl, rfl, rfl, rfl, by decide +kernel⟩ ?hw ?hc
  case hw => w_witness2
  case hc => exact DL.law_end (dd := K30.d_law) (hd := K30.hd) (N := K30.N_law) (k := 4) (i := 6) (j := 9) (x := "law") rfl (by kernel_rfl) ⟨rfl, by decide, by decide⟩ (by kernel_rfl) rfl rfl rfl rfl rfl K30.sc_law (fun _ _ _ _ _ _ us hl => match us, hl with | [_], _ => rfl) (fun w K mg base T => K30.body_law T) K30.law_pure

