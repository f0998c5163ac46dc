import PyProof.Rows.All
import Wide.All
import OpenK.AllK
import Wide.FinOn
import HandS.HeadHook1
import HandS.HeadHook2
import HandS.HeadHook4
import HandS.ForMost
import HandS.ForExc
import HandS.Defaults
import HandS.Lambda
import HandS.ExcInit
import KE.DataEq
import HandS.TupAny
import HandS.TupMul
import HandS.TupLe
import HandS.Style
import HandS.Iter
import HandS.Zip
import KE.SortData
import KE.DataMinMax
import PyProof.ReprReads
import PyProof.CallFns
import HandS.IsInst
import HandS.Conv
import HandS.WordsDict
import PyProof.ReprRoads
import PyProof.SeqIndex
import PyProof.DictUpdate
import HandS.Deep
import HandS.Small
import HandS.Comp
import HandS.DictComp
import HandS.ExcOwn
import HandS.WordsExc
import HandS.Ends
import HandS.EndTab
import HandS.ExcIs
import HandS.ExcField
import HandS.ExcValue
import KE.KExcSuper
import PySem.Challenge.RW_tautrounds_k78_bridges_plain
import HandS.Head0
import HandS.Head1
import HandS.Head2
import HandS.HeadEnd
set_option Elab.async false
set_option linter.all false
section
namespace VI
open PySem PySem.Spec PyProof.Rows
/-- the defs in which lambdas stand, the lambdas' qualified names -/
def TBN : List (Str × Str) := [("_law_refused", "_law_refused.<locals>.<lambda>"), ("_law_one_right", "_law_one_right.<locals>.<lambda>")]
end VI
end
section
set_option maxRecDepth 100000
set_option maxHeartbeats 4000000
/-! Plain values, a plain heap, and how they stand in the layer's abstract heap. -/
namespace VI
open PySem PySem.Spec PyProof.Rows L2

/-- a plain value: tuples are values, mutable things are numbers of the plain heap; rol: a list that nobody changes (the script); exc: a caught exception, its class and its own fields -/
inductive PV where
  | non | bl (b : Bool) | int (i : Int) | str (x : Str) | tup (l : List PV) | ref (i : Nat) | rol (l : List PV) | exc (c : Str) (ns : List Str) (l : List PV)
/-- a plain object -/
inductive AO where
  | lst (l : List PV)
  | dct (l : List (Key × PV))
  | ins (c : Str) (fs : List (Str × PV))
/-- a tree by the digits of a number -/
inductive Tr where
  | nil
  | nd (v : Option AO) (l r : Tr)
namespace Tr
def get : Tr → Nat → Option AO
  | .nil, _ => none
  | .nd v l r, i => match Nat.beq i 0 with
    | true => v
    | false => match Nat.beq (i % 2) 1 with
      | true => l.get (i / 2)
      | false => r.get (i / 2 - 1)
def set : Nat → Tr → Nat → AO → Tr
  | 0, t, _, _ => t
  | f + 1, .nil, i, o => match Nat.beq i 0 with
    | true => .nd (some o) .nil .nil
    | false => match Nat.beq (i % 2) 1 with
      | true => .nd none (set f .nil (i / 2) o) .nil
      | false => .nd none .nil (set f .nil (i / 2 - 1) o)
  | f + 1, .nd v l r, i, o => match Nat.beq i 0 with
    | true => .nd (some o) l r
    | false => match Nat.beq (i % 2) 1 with
      | true => .nd v (set f l (i / 2) o) r
      | false => .nd v l (set f r (i / 2 - 1) o)
theorem beq_nat (a b : Nat) : Nat.beq a b = decide (a = b) := by
  by_cases h : a = b
  · subst h; simp
  · rw [decide_eq_false h]
    cases e : Nat.beq a b with
    | false => rfl
    | true => exact absurd (Nat.eq_of_beq_eq_true e) h
theorem get_nil (i : Nat) : Tr.nil.get i = none := rfl
theorem get_nd (v : Option AO) (l r : Tr) (i : Nat) : (nd v l r).get i = if i = 0 then v else if i % 2 = 1 then l.get (i / 2) else r.get (i / 2 - 1) := by
  show (match Nat.beq i 0 with | true => v | false => match Nat.beq (i % 2) 1 with | true => l.get (i / 2) | false => r.get (i / 2 - 1)) = _
  rw [beq_nat, beq_nat]
  by_cases h : i = 0
  · simp [h]
  · by_cases q : i % 2 = 1 <;> simp [h, q]
theorem get_set (o : AO) : ∀ (f : Nat) (t : Tr) (i j : Nat), i < f → (set f t i o).get j = if j = i then some o else t.get j
  | 0, _, _, _, h => absurd h (Nat.not_lt_zero _)
  | f + 1, .nil, i, j, h => by
    unfold set
    rw [beq_nat, beq_nat]
    by_cases h0 : i = 0
    · subst h0
      simp only [decide_true, get_nd, get_nil]
      by_cases hj : j = 0 <;> simp [hj]
    · by_cases q : i % 2 = 1
      · simp only [decide_eq_false h0, q, decide_true, get_nd]
        have ih := get_set o f .nil (i / 2) (j / 2) (by omega)
        by_cases hj : j = 0
        · subst hj; simp [Ne.symm h0, get_nil]
        · by_cases qj : j % 2 = 1
          · simp only [hj, qj, if_true, if_false, ih, get_nil]
            by_cases e : j = i
            · simp [e]
            · rw [if_neg e, if_neg (by omega)]
          · simp only [hj, qj, if_false, get_nil]
            rw [if_neg (by intro e; subst e; exact qj q)]
      · simp only [decide_eq_false h0, decide_eq_false q, get_nd]
        have ih := get_set o f .nil (i / 2 - 1) (j / 2 - 1) (by omega)
        by_cases hj : j = 0
        · subst hj; simp [Ne.symm h0, get_nil]
        · by_cases qj : j % 2 = 1
          · simp only [hj, qj, if_true, if_false, get_nil]
            rw [if_neg (by intro e; subst e; exact q qj)]
          · simp only [hj, qj, if_false, ih, get_nil]
            by_cases e : j = i
            · simp [e]
            · rw [if_neg e, if_neg (by omega)]
  | f + 1, .nd v l r, i, j, h => by
    unfold set
    rw [beq_nat, beq_nat]
    by_cases h0 : i = 0
    · subst h0
      simp only [decide_true, get_nd]
      by_cases hj : j = 0 <;> simp [hj]
    · by_cases q : i % 2 = 1
      · simp only [decide_eq_false h0, q, decide_true, get_nd]
        have ih := get_set o f l (i / 2) (j / 2) (by omega)
        by_cases hj : j = 0
        · subst hj; simp [Ne.symm h0]
        · by_cases qj : j % 2 = 1
          · simp only [hj, qj, if_true, if_false, ih]
            by_cases e : j = i
            · simp [e]
            · rw [if_neg e, if_neg (by omega)]
          · simp only [hj, qj, if_false]
            rw [if_neg (by intro e; subst e; exact qj q)]
      · simp only [decide_eq_false h0, decide_eq_false q, get_nd]
        have ih := get_set o f r (i / 2 - 1) (j / 2 - 1) (by omega)
        by_cases hj : j = 0
        · subst hj; simp [Ne.symm h0]
        · by_cases qj : j % 2 = 1
          · simp only [hj, qj, if_true, if_false]
            rw [if_neg (by intro e; subst e; exact q qj)]
          · simp only [hj, qj, if_false, ih]
            by_cases e : j = i
            · simp [e]
            · rw [if_neg e, if_neg (by omega)]
end Tr
/-- the plain heap -/
structure AH where
  n : Nat
  t : Tr
namespace AH
def get (a : AH) (i : Nat) : Option AO := a.t.get i
def new (a : AH) (o : AO) : AH := ⟨a.n + 1, Tr.set (a.n + 1) a.t a.n o⟩
def put (a : AH) (i : Nat) (o : AO) : AH := ⟨a.n, Tr.set (i + 1) a.t i o⟩
theorem get_new (a : AH) (o : AO) (j : Nat) : (a.new o).get j = if j = a.n then some o else a.get j := Tr.get_set o _ _ _ _ (Nat.lt_succ_self _)
theorem get_put (a : AH) (i : Nat) (o : AO) (j : Nat) : (a.put i o).get j = if j = i then some o else a.get j := Tr.get_set o _ _ _ _ (Nat.lt_succ_self _)
theorem n_new (a : AH) (o : AO) : (a.new o).n = a.n + 1 := rfl
theorem n_put (a : AH) (i : Nat) (o : AO) : (a.put i o).n = a.n := rfl
end AH

/-- an outcome: a value, an exception of an own class with its fields, or nothing that is known -/
inductive R (α : Type) where
  | ok (v : α) (a : AH)
  | er (c : Str) (fs : List (Str × PV)) (a : AH)
  | no
def R.bind {α β : Type} : R α → (α → AH → R β) → R β
  | .ok v a, k => k v a
  | .er c fs a, _ => .er c fs a
  | .no, _ => .no
/-- slots -/
abbrev Env := List (Option PV)
abbrev FE := Env → AH → R PV
abbrev FA := Env → AH → R (List PV)
abbrev FN := List PV → AH → R PV
/-- how a statement ends -/
inductive SO where
  | nx (e : Env) | rt (v : PV) | bk (e : Env) | ct (e : Env)
abbrev FS := Env → AH → R SO

/-! ### how plain things stand in the abstract heap -/
/-- a list that nobody writes: locked, or of the written part -/
def Lk (K : PySem.W.Frag) (H : Hp) (a : Addr) (xs : List V) : Prop := (∃ f, H a = some (.frz f (.lst xs))) ∨ ∀ H' : Hp, SqL K H' a xs
theorem Lk.sq {K : PySem.W.Frag} {H : Hp} {a : Addr} {xs : List V} (h : Lk K H a xs) : SqL K H a xs := by
  rcases h with ⟨o, h⟩ | h
  · exact .inl (.inr ⟨o, h⟩)
  · exact h H
/-- a tuple, its object known: it has no dict of its own -/
def Tp (H : Hp) (a : Addr) (xs : List V) : Prop := ∃ o, H a = some (.frz o (.tup xs)) ∧ o.cls = .type "tuple" ∧ o.dict = none
theorem Tp.sq {K : PySem.W.Frag} {H : Hp} {a : Addr} {xs : List V} (h : Tp H a xs) : SqT K H a xs := let ⟨o, e, _⟩ := h; .inl (.inr ⟨o, e⟩)
/-- the tables of code objects that are written -/
def TBL (K : PySem.W.Frag) : List (Addr × Str) := TBN.map fun p => ((He.cT K (p.1, none)).2, p.2)
/-- an object, exactly -/
abbrev exO (a : Addr) (o : Obj) : HO := .ext fun h => h.get? a = some o
/-- an exception: its object, its own dict -/
def Ex (K : PySem.W.Frag) (H : Hp) (a : Addr) (c : Str) (ns : List Str) (ys : List V) : Prop := ∃ (d : Option Addr) (oe : Obj), H a = some (exO a oe) ∧ Zc (.ref (He.ga K c)) d oe ∧ (∃ vs, oe.data = .fields vs) ∧ (∀ dd, d = some dd → H dd = some (exd dd (ns.zip ys))) ∧ (d = none → ns = []) ∧ ns.length = ys.length
mutual
inductive VR (K : PySem.W.Frag) (r : Nat → Addr) (n : Nat) (H : Hp) : PV → V → Prop where
  | non : VR K r n H .non .non
  | bl (b : Bool) : VR K r n H (.bl b) (.bl b)
  | int (i : Int) : VR K r n H (.int i) (.int i)
  | str (x : Str) : VR K r n H (.str x) (.str x)
  | tup {l : List PV} {a : Addr} {xs : List V} (h : Tp H a xs) (hs : VRs K r n H l xs) : VR K r n H (.tup l) (.ref a)
  | ref {i : Nat} (h : i < n) : VR K r n H (.ref i) (.ref (r i))
  | rol {l : List PV} {a : Addr} {xs : List V} (h : Lk K H a xs) (hs : VRs K r n H l xs) : VR K r n H (.rol l) (.ref a)
  | exc {c : Str} {ns : List Str} {l : List PV} {a : Addr} {ys : List V} (h : Ex K H a c ns ys) (hs : VRs K r n H l ys) : VR K r n H (.exc c ns l) (.ref a)
inductive VRs (K : PySem.W.Frag) (r : Nat → Addr) (n : Nat) (H : Hp) : List PV → List V → Prop where
  | nil : VRs K r n H [] []
  | cons {v : PV} {x : V} {l : List PV} {xs : List V} (h : VR K r n H v x) (hs : VRs K r n H l xs) : VRs K r n H (v :: l) (x :: xs)
end
/-- the world grows: numbers keep their places, tuples and locked lists stay -/
structure Mo (K : PySem.W.Frag) (r : Nat → Addr) (n : Nat) (H : Hp) (r' : Nat → Addr) (n' : Nat) (H' : Hp) : Prop where
  le : n ≤ n'
  at_ : ∀ i, i < n → r' i = r i
  frz : ∀ a o u, H a = some (.frz o u) → H' a = some (.frz o u)
  ext : ∀ a φ, H a = some (.ext φ) → H' a = some (.ext φ)
  tab : LamX.Tabs (TBL K) H → LamX.Tabs (TBL K) H'
  oth : ∀ a xs, H a = some (.lst xs) → (∀ i, i < n → r i ≠ a) → H' a = some (.lst xs) ∧ ∀ i, i < n' → r' i ≠ a
section
variable {K : PySem.W.Frag} {r r' r2 : Nat → Addr} {n n' n2 : Nat} {H H' H2 : Hp}
theorem Mo.tup (m : Mo K r n H r' n' H') {a : Addr} {xs : List V} (h : Tp H a xs) : Tp H' a xs := let ⟨o, e, c⟩ := h; ⟨o, m.frz _ _ _ e, c⟩
theorem Mo.rol (m : Mo K r n H r' n' H') {a : Addr} {xs : List V} (h : Lk K H a xs) : Lk K H' a xs := by
  rcases h with ⟨f, h⟩ | h
  · exact .inl ⟨f, m.frz _ _ _ h⟩
  · exact .inr h
theorem Mo.exc (m : Mo K r n H r' n' H') {a : Addr} {c : Str} {ns : List Str} {ys : List V} (h : Ex K H a c ns ys) : Ex K H' a c ns ys := let ⟨d, oe, h1, h2, h3, h4, h5⟩ := h; ⟨d, oe, m.ext _ _ h1, h2, h3, fun dd e => m.ext _ _ (h4 dd e), h5⟩
theorem Mo.refl : Mo K r n H r n H := ⟨Nat.le_refl _, fun _ _ => rfl, fun _ _ _ h => h, fun _ _ h => h, fun h => h, fun _ _ h n => ⟨h, n⟩⟩
theorem Mo.trans (a : Mo K r n H r' n' H') (b : Mo K r' n' H' r2 n2 H2) : Mo K r n H r2 n2 H2 :=
  ⟨Nat.le_trans a.le b.le, fun i h => (b.at_ i (Nat.lt_of_lt_of_le h a.le)).trans (a.at_ i h), fun c o u h => b.frz c o u (a.frz c o u h), fun c φ h => b.ext c φ (a.ext c φ h), fun h => b.tab (a.tab h), fun c xs h n => let ⟨h1, h2⟩ := a.oth c xs h n; b.oth c xs h1 h2⟩
mutual
theorem VR.mo (m : Mo K r n H r' n' H') : ∀ {v : PV} {x : V}, VR K r n H v x → VR K r' n' H' v x
  | _, _, .non => .non
  | _, _, .bl b => .bl b
  | _, _, .int i => .int i
  | _, _, .str x => .str x
  | _, _, .tup h hs => .tup (m.tup h) (VRs.mo m hs)
  | _, _, .ref (i := i) h => by rw [← m.at_ i h]; exact .ref (Nat.lt_of_lt_of_le h m.le)
  | _, _, .rol h hs => .rol (m.rol h) (VRs.mo m hs)
  | _, _, .exc h hs => .exc (m.exc h) (VRs.mo m hs)
theorem VRs.mo (m : Mo K r n H r' n' H') : ∀ {l : List PV} {xs : List V}, VRs K r n H l xs → VRs K r' n' H' l xs
  | _, _, .nil => .nil
  | _, _, .cons h hs => .cons (VR.mo m h) (VRs.mo m hs)
end
theorem VRs.length : ∀ {l : List PV} {xs : List V}, VRs K r n H l xs → l.length = xs.length
  | _, _, .nil => rfl
  | _, _, .cons _ hs => by rw [List.length_cons, List.length_cons, VRs.length hs]
theorem VRs.get : ∀ {l : List PV} {xs : List V}, VRs K r n H l xs → ∀ {i : Nat} {v : PV}, l[i]? = some v → ∃ x, xs[i]? = some x ∧ VR K r n H v x
  | _, _, .nil, i, v, h => by simp at h
  | _, _, .cons h hs, 0, v, e => by simp at e; subst e; exact ⟨_, rfl, h⟩
  | _, _, .cons h hs, i + 1, v, e => by
    obtain ⟨x, h1, h2⟩ := VRs.get hs (i := i) (v := v) (by simpa using e)
    exact ⟨x, by simpa using h1, h2⟩
theorem VRs.app : ∀ {l : List PV} {xs : List V}, VRs K r n H l xs → ∀ {m : List PV} {ys : List V}, VRs K r n H m ys → VRs K r n H (l ++ m) (xs ++ ys)
  | _, _, .nil, _, _, h => h
  | _, _, .cons h hs, _, _, g => .cons h (VRs.app hs g)
theorem VRs.drop : ∀ (k : Nat) {l : List PV} {xs : List V}, VRs K r n H l xs → VRs K r n H (l.drop k) (xs.drop k)
  | 0, _, _, h => h
  | _ + 1, _, _, .nil => .nil
  | k + 1, _, _, .cons _ hs => VRs.drop k hs
theorem VRs.take : ∀ (k : Nat) {l : List PV} {xs : List V}, VRs K r n H l xs → VRs K r n H (l.take k) (xs.take k)
  | 0, _, _, _ => .nil
  | _ + 1, _, _, .nil => .nil
  | k + 1, _, _, .cons h hs => .cons h (VRs.take k hs)
theorem VRs.rev : ∀ {l : List PV} {xs : List V}, VRs K r n H l xs → VRs K r n H l.reverse xs.reverse
  | _, _, .nil => .nil
  | _, _, .cons h hs => by rw [List.reverse_cons, List.reverse_cons]; exact VRs.app (VRs.rev hs) (.cons h .nil)
theorem VRs.ints : ∀ (l : List Int), VRs K r n H (l.map PV.int) (l.map V.int)
  | [] => .nil
  | i :: l => .cons (.int i) (VRs.ints l)
theorem VRs.set {v : PV} {x : V} (hv : VR K r n H v x) : ∀ {l : List PV} {xs : List V} (i : Nat), VRs K r n H l xs → VRs K r n H (l.set i v) (xs.set i x)
  | _, _, _, .nil => .nil
  | _, _, 0, .cons _ hs => .cons hv hs
  | _, _, i + 1, .cons h hs => .cons h (VRs.set hv i hs)
end
/-- fields, pairs of a dict -/
inductive FR {κ : Type} (K : PySem.W.Frag) (r : Nat → Addr) (n : Nat) (H : Hp) : List (κ × PV) → List (κ × V) → Prop where
  | nil : FR K r n H [] []
  | cons {k : κ} {v : PV} {x : V} {l : List (κ × PV)} {xs : List (κ × V)} (h : VR K r n H v x) (hs : FR K r n H l xs) : FR K r n H ((k, v) :: l) ((k, x) :: xs)
theorem FR.mo {κ : Type} {K : PySem.W.Frag} {r r' : Nat → Addr} {n n' : Nat} {H H' : Hp} (m : Mo K r n H r' n' H') : ∀ {l : List (κ × PV)} {xs : List (κ × V)}, FR K r n H l xs → FR K r' n' H' l xs
  | _, _, .nil => .nil
  | _, _, .cons h hs => .cons (VR.mo m h) (FR.mo m hs)
/-- one object -/
inductive OR (K : PySem.W.Frag) (r : Nat → Addr) (n : Nat) (H : Hp) (b : Addr) : AO → Prop where
  | lst {l : List PV} {xs : List V} (h : H b = some (.lst xs)) (hs : VRs K r n H l xs) : OR K r n H b (.lst l)
  | dct {l : List (Key × PV)} {xs : List (Key × V)} (h : H b = some (.dK xs)) (hs : FR K r n H l xs) : OR K r n H b (.dct l)
  | ins {c : Str} {dx : Addr} {l : List (Str × PV)} {xs : List (Str × V)} (h : H b = some (.ins (He.ga K c) dx xs)) (hs : FR K r n H l xs) : OR K r n H b (.ins c l)
/-- the plain heap stands in H: numbers at r -/
structure SR (K : PySem.W.Frag) (r : Nat → Addr) (a : AH) (H : Hp) : Prop where
  inj : ∀ i j, i < a.n → j < a.n → r i = r j → i = j
  bd : ∀ i o, a.get i = some o → i < a.n
  all : ∀ i, i < a.n → ∃ o, a.get i = some o
  ob : ∀ i o, a.get i = some o → OR K r a.n H (r i) o
  tb : LamX.Tabs (TBL K) H
section
variable {K : PySem.W.Frag} {r r' : Nat → Addr} {n n' : Nat} {a : AH} {H H' : Hp} {b p : Addr} {o : AO}
/-- what stands at an object's place -/
def isOb : HO → Bool
  | .lst _ => true
  | .dK _ => true
  | .ins _ _ _ => true
  | _ => false
theorem OR.at_ (h : OR K r n H b o) : ∃ u, H b = some u ∧ isOb u = true := by
  cases h with
  | lst h _ => exact ⟨_, h, rfl⟩
  | dct h _ => exact ⟨_, h, rfl⟩
  | ins h _ => exact ⟨_, h, rfl⟩
theorem SR.ne (S : SR K r a H) {i : Nat} (hi : i < a.n) {c : Addr} {u : HO} (hc : H c = some u) (hu : isOb u = false) : r i ≠ c := by
  obtain ⟨o, ho⟩ := S.all i hi
  obtain ⟨w, hw, iw⟩ := (S.ob i o ho).at_
  intro e
  rw [e, hc] at hw
  cases hw
  rw [hu] at iw
  cases iw
theorem SR.ne_none (S : SR K r a H) {i : Nat} (hi : i < a.n) {c : Addr} (hc : H c = none) : r i ≠ c := by
  obtain ⟨o, ho⟩ := S.all i hi
  obtain ⟨w, hw, iw⟩ := (S.ob i o ho).at_
  intro e
  rw [e, hc] at hw
  cases hw
/-- one object is written: the world -/
theorem SR.mo_put (S : SR K r a H) {i : Nat} (hi : i < a.n) (u : HO) : Mo K r a.n H r a.n (upd H (r i) u) := by
  refine ⟨Nat.le_refl _, fun _ _ => rfl, fun c o v h => by rw [upd_ne (S.ne hi h rfl).symm]; exact h, fun c φ h => by rw [upd_ne (S.ne hi h rfl).symm]; exact h, fun h p hp => ?_, fun c xs h n => ⟨by rw [upd_ne (n i hi).symm]; exact h, n⟩⟩
  obtain ⟨ps, h1, h2, h3⟩ := h p hp
  refine ⟨ps, by rw [upd_ne (S.ne hi h1 rfl).symm]; exact h1, h2, fun pos cv hc => ?_⟩
  obtain ⟨c, e1, e2⟩ := h3 pos cv hc
  exact ⟨c, e1, by rw [upd_ne (S.ne hi e2 rfl).symm]; exact e2⟩
theorem OR.mo (m : Mo K r n H r' n' H') (h : OR K r n H b o) (k : ∀ u, H b = some u → H' b = some u) : OR K r' n' H' b o := by
  cases h with
  | lst h hs => exact .lst (k _ h) (hs.mo m)
  | dct h hs => exact .dct (k _ h) (hs.mo m)
  | ins h hs => exact .ins (k _ h) (hs.mo m)
theorem SR.put (S : SR K r a H) {i : Nat} (hi : i < a.n) {u : HO} (h : OR K r a.n (upd H (r i) u) (r i) o) : SR K r (a.put i o) (upd H (r i) u) := by
  have m := S.mo_put hi u
  refine ⟨S.inj, fun j o' e => ?_, fun j hj => ?_, fun j o' e => ?_, m.tab S.tb⟩
  · rw [AH.get_put] at e
    by_cases q : j = i
    · rw [q]; exact hi
    · rw [if_neg q] at e; exact S.bd j o' e
  · rw [AH.get_put]
    by_cases q : j = i
    · exact ⟨o, by rw [if_pos q]⟩
    · rw [if_neg q]; exact S.all j hj
  · rw [AH.get_put] at e
    by_cases q : j = i
    · rw [if_pos q] at e
      cases e
      rw [q]
      exact h
    · rw [if_neg q] at e
      have ne : r j ≠ r i := fun z => q (S.inj j i (S.bd j o' e) hi z)
      exact (S.ob j o' e).mo m (fun u' e' => by rw [upd_ne ne]; exact e')
/-- the numbers with one more -/
def rn (r : Nat → Addr) (n : Nat) (p : Addr) : Nat → Addr := fun i => if i = n then p else r i
theorem rn_at {i : Nat} (h : i < n) : rn r n p i = r i := if_neg (Nat.ne_of_lt h)
theorem rn_self : rn r n p n = p := if_pos rfl
theorem mo_of (k : ∀ b o, H b = some o → H' b = some o) : Mo K r n H r n H' := ⟨Nat.le_refl _, fun _ _ => rfl, fun _ _ _ h => k _ _ h, fun _ _ h => k _ _ h, fun h => h.ext k, fun _ _ h n => ⟨k _ _ h, n⟩⟩
theorem mo_up (hp : H p = none) (u : HO) : Mo K r n H r n (upd H p u) := mo_of fun c o h => by rw [upd_ne (ne_of_none h hp)]; exact h
theorem mo_new (hp : H p = none) (u : HO) : Mo K r n H (rn r n p) (n + 1) (upd H p u) := by
  have m := mo_up (K := K) (r := r) (n := n) hp u
  refine ⟨Nat.le_succ _, fun _ h => rn_at h, m.frz, m.ext, m.tab, fun c xs h q => ⟨(m.oth c xs h q).1, fun i hi => ?_⟩⟩
  rcases Nat.lt_or_ge i n with z | z
  · rw [rn_at z]; exact q i z
  · have e : i = n := by omega
    rw [e, rn_self]
    exact (ne_of_none h hp).symm
/-- what is not in the plain heap is laid -/
theorem SR.up (S : SR K r a H) (hp : H p = none) (u : HO) : SR K r a (upd H p u) := by
  refine ⟨S.inj, S.bd, S.all, fun j o' e => ?_, (mo_up (r := r) (n := a.n) hp u).tab S.tb⟩
  exact (S.ob j o' e).mo (mo_up hp u) (fun u' e' => by rw [upd_ne (ne_of_none e' hp)]; exact e')
/-- a new object of the plain heap -/
theorem SR.new (S : SR K r a H) (hp : H p = none) {u : HO} (h : OR K (rn r a.n p) (a.n + 1) (upd H p u) p o) : SR K (rn r a.n p) (a.new o) (upd H p u) := by
  have hn : (a.new o).n = a.n + 1 := rfl
  refine ⟨fun i j hi hj e => ?_, fun j o' e => ?_, fun j hj => ?_, fun j o' e => ?_, (mo_up (r := r) (n := a.n) hp u).tab S.tb⟩
  · rw [hn] at hi hj
    by_cases h1 : i < a.n
    · by_cases h2 : j < a.n
      · rw [rn_at h1, rn_at h2] at e; exact S.inj i j h1 h2 e
      · have ej : j = a.n := by omega
        subst ej
        rw [rn_at h1, rn_self] at e
        exact absurd e (S.ne_none h1 hp)
    · have ei : i = a.n := by omega
      subst ei
      by_cases h2 : j < a.n
      · rw [rn_at h2, rn_self] at e
        exact absurd e.symm (S.ne_none h2 hp)
      · omega
  · rw [AH.get_new] at e
    by_cases q : j = a.n
    · rw [q, hn]; exact Nat.lt_succ_self _
    · rw [if_neg q] at e; rw [hn]; exact Nat.lt_succ_of_lt (S.bd j o' e)
  · rw [AH.get_new]
    by_cases q : j = a.n
    · exact ⟨o, by rw [if_pos q]⟩
    · rw [if_neg q]; exact S.all j (by rw [hn] at hj; omega)
  · rw [AH.get_new] at e
    by_cases q : j = a.n
    · rw [if_pos q] at e
      cases e
      rw [q, rn_self, hn]
      exact h
    · rw [if_neg q] at e
      rw [rn_at (S.bd j o' e), hn]
      exact (S.ob j o' e).mo (mo_new hp u) (fun u' e' => by rw [upd_ne (ne_of_none e' hp)]; exact e')
end
/-! ### the state of a frame, what is wanted of an outcome -/
/-- the slots -/
def ER (K : PySem.W.Frag) (r : Nat → Addr) (n : Nat) (H : Hp) (e : Env) (s : L2.St) : Prop := ∀ (i : Nat) (v : PV), e[i]? = some (some v) → ∃ x, s[i]? = some (some x) ∧ VR K r n H v x
theorem ER.mo {K : PySem.W.Frag} {r r' : Nat → Addr} {n n' : Nat} {H H' : Hp} {e : Env} {s : L2.St} (m : Mo K r n H r' n' H') (h : ER K r n H e s) : ER K r' n' H' e s := fun i v q => let ⟨x, h1, h2⟩ := h i v q; ⟨x, h1, h2.mo m⟩
theorem ER.set {K : PySem.W.Frag} {r : Nat → Addr} {n : Nat} {H : Hp} {e : Env} {s : L2.St} {v : PV} {x : V} (h : ER K r n H e s) (i : Nat) (hl : e.length = s.length) (hv : VR K r n H v x) : ER K r n H (e.set i (some v)) (s.set i (some x)) := fun j w q => by
  by_cases hj : i = j
  · subst hj
    by_cases hi : i < e.length
    · rw [List.getElem?_set_self hi] at q
      cases q
      exact ⟨x, by rw [List.getElem?_set_self (hl ▸ hi)], hv⟩
    · rw [List.getElem?_eq_none (by rw [List.length_set]; omega)] at q
      cases q
  · rw [List.getElem?_set_ne hj] at q ⊢
    exact h j w q
structure ST (K : PySem.W.Frag) (r : Nat → Addr) (e : Env) (a : AH) (s : L2.St) (H : Hp) : Prop where
  sr : SR K r a H
  er : ER K r a.n H e s
  ln : e.length = s.length
theorem ST.mo {K : PySem.W.Frag} {r r' : Nat → Addr} {a a' : AH} {H H' : Hp} {e : Env} {s : L2.St} (T : ST K r e a s H) (m : Mo K r a.n H r' a'.n H') (S : SR K r' a' H') : ST K r' e a' s H' := ⟨S, T.er.mo m, T.ln⟩
/-- the exception's own dict -/
def DR (K : PySem.W.Frag) (r : Nat → Addr) (n : Nat) (H : Hp) (d : Option Addr) (fs : List (Str × PV)) : Prop := ∃ xs, FR K r n H fs xs ∧ (∀ dd, d = some dd → H dd = some (.xd xs)) ∧ (d = none → xs = [])
/-- what is wanted of an outcome that comes from the world (r, n, H) -/
def Fin {α β : Type} (K : PySem.W.Frag) (E : XK) (r : Nat → Addr) (n : Nat) (H : Hp) (rel : (Nat → Addr) → Nat → Hp → α → β → Prop) (Q : β → Hp → Prop) : R α → Prop
  | .ok v a' => ∀ r' H' x, Mo K r n H r' a'.n H' → SR K r' a' H' → rel r' a'.n H' v x → Q x H'
  | .er c fs a' => ∀ r' H' d, Mo K r n H r' a'.n H' → SR K r' a' H' → DR K r' a'.n H' d fs → E (.ref (He.ga K c)) d H'
  | .no => False
theorem Fin.mono {α β : Type} {K : PySem.W.Frag} {E : XK} {r : Nat → Addr} {n : Nat} {H : Hp} {rel : (Nat → Addr) → Nat → Hp → α → β → Prop} {Q Q' : β → Hp → Prop} {o : R α} (h : Fin K E r n H rel Q o) (q : ∀ x H', Q x H' → Q' x H') : Fin K E r n H rel Q' o := by
  cases o with
  | ok v a' => exact fun r' H' x m S hx => q _ _ (h r' H' x m S hx)
  | er c fs a' => exact h
  | no => exact h
/-- from a later world -/
theorem Fin.later {α β : Type} {K : PySem.W.Frag} {E : XK} {r r1 : Nat → Addr} {n n1 : Nat} {H H1 : Hp} {rel : (Nat → Addr) → Nat → Hp → α → β → Prop} {Q : β → Hp → Prop} {o : R α} (m : Mo K r n H r1 n1 H1) (h : Fin K E r n H rel Q o) : Fin K E r1 n1 H1 rel Q o := by
  cases o with
  | ok v a' => exact fun r' H' x m' S hx => h r' H' x (m.trans m') S hx
  | er c fs a' => exact fun r' H' d m' S hd => h r' H' d (m.trans m') S hd
  | no => exact h
abbrev relV (K : PySem.W.Frag) : (Nat → Addr) → Nat → Hp → PV → V → Prop := fun r n H v x => VR K r n H v x
abbrev relVs (K : PySem.W.Frag) : (Nat → Addr) → Nat → Hp → List PV → List V → Prop := fun r n H v x => VRs K r n H v x
/-- the reading of an expression that computes f -/
def tO (K : PySem.W.Frag) (W : WX) (f : FE) : TE := fun s H Q => ∃ r e a, ST K r e a s H ∧ Fin K (fun c d H' => W c d s H') r a.n H (relV K) Q (f e a)
def tOs (K : PySem.W.Frag) (W : WX) (f : FA) : TA := fun s H Q => ∃ r e a, ST K r e a s H ∧ Fin K (fun c d H' => W c d s H') r a.n H (relVs K) Q (f e a)
/-- f, then g -/
theorem tO_bind {K : PySem.W.Frag} {W : WX} {f : FE} {s : L2.St} {H : Hp} {α β : Type} {rel : (Nat → Addr) → Nat → Hp → α → β → Prop} {Q : β → Hp → Prop} {r : Nat → Addr} {e : Env} {a : AH} {g : PV → AH → R α} (T : ST K r e a s H)
    (h : Fin K (fun c d H' => W c d s H') r a.n H rel Q ((f e a).bind g)) :
    tO K W f s H fun x H1 => ∃ r1 v a1, Mo K r a.n H r1 a1.n H1 ∧ ST K r1 e a1 s H1 ∧ VR K r1 a1.n H1 v x ∧ Fin K (fun c d H' => W c d s H') r1 a1.n H1 rel Q (g v a1) := by
  refine ⟨r, e, a, T, ?_⟩
  cases q : f e a with
  | ok v a1 =>
    rw [q] at h
    exact fun r1 H1 x m S hx => ⟨r1, v, a1, m, T.mo m S, hx, Fin.later m h⟩
  | er c fs a1 =>
    rw [q] at h
    exact h
  | no =>
    rw [q] at h
    exact h.elim
theorem tOs_bind {K : PySem.W.Frag} {W : WX} {f : FA} {s : L2.St} {H : Hp} {α β : Type} {rel : (Nat → Addr) → Nat → Hp → α → β → Prop} {Q : β → Hp → Prop} {r : Nat → Addr} {e : Env} {a : AH} {g : List PV → AH → R α} (T : ST K r e a s H)
    (h : Fin K (fun c d H' => W c d s H') r a.n H rel Q ((f e a).bind g)) :
    tOs K W f s H fun x H1 => ∃ r1 v a1, Mo K r a.n H r1 a1.n H1 ∧ ST K r1 e a1 s H1 ∧ VRs K r1 a1.n H1 v x ∧ Fin K (fun c d H' => W c d s H') r1 a1.n H1 rel Q (g v a1) := by
  refine ⟨r, e, a, T, ?_⟩
  cases q : f e a with
  | ok v a1 =>
    rw [q] at h
    exact fun r1 H1 x m S hx => ⟨r1, v, a1, m, T.mo m S, hx, Fin.later m h⟩
  | er c fs a1 =>
    rw [q] at h
    exact h
  | no =>
    rw [q] at h
    exact h.elim
theorem tO_mono {K : PySem.W.Frag} {W : WX} {f : FE} {s : L2.St} {H : Hp} {Q Q' : VK} (h : tO K W f s H Q) (q : ∀ x H', Q x H' → Q' x H') : tO K W f s H Q' := let ⟨r, e, a, T, h⟩ := h; ⟨r, e, a, T, h.mono q⟩
theorem tOs_mono {K : PySem.W.Frag} {W : WX} {f : FA} {s : L2.St} {H : Hp} {Q Q' : List V → Hp → Prop} (h : tOs K W f s H Q) (q : ∀ x H', Q x H' → Q' x H') : tOs K W f s H Q' := let ⟨r, e, a, T, h⟩ := h; ⟨r, e, a, T, h.mono q⟩
/-- an outcome that is a value, here -/
theorem Fin.here {K : PySem.W.Frag} {E : XK} {r : Nat → Addr} {a : AH} {H : Hp} {Q : VK} {v : PV} {x : V} (h : Fin K E r a.n H (relV K) Q (.ok v a)) (S : SR K r a H) (hx : VR K r a.n H v x) : Q x H := h r H x .refl S hx
/-- a stronger reading serves -/
theorem pe_of {X : Cx} {e : Expr} {t t' : TE} (h : PE X e t) (k : ∀ s H Q, t' s H Q → t s H Q) : PE X e t' := ⟨fun pins s σ H Q I q => h.run pins s σ H Q I (k _ _ _ q)⟩
theorem pt_of {X : Cx} {e : Expr} {t t' : TT} (h : PT X e t) (k : ∀ s H Q, t' s H Q → t s H Q) : PT X e t' := ⟨fun pins s σ H Q I q => h.run pins s σ H Q I (k _ _ _ q)⟩
theorem pw_of {X : Cx} {e : Expr} {t t' : TT} (h : PW X e t) (k : ∀ s H Q, t' s H Q → t s H Q) : PW X e t' := ⟨fun wh pins s σ H Q I q => h.run wh pins s σ H Q I (k _ _ _ q)⟩
theorem pa_of {X : Cx} {es : List Expr} {t t' : TA} (h : PA X es t) (k : ∀ s H Q, t' s H Q → t s H Q) : PA X es t' := ⟨fun pos pins s σ H Q I q => h.run pos pins s σ H Q I (k _ _ _ q)⟩
theorem ps_of {X : Cx} {st : Stmt} {t t' : TS} (h : PS X st t) (k : ∀ D s H, t' D s H → t D s H) : PS X st t' := ⟨fun pins s σ H D I q => h.run pins s σ H D I (k _ _ _ q)⟩
theorem pss_of {X : Cx} {st : List Stmt} {t t' : TS} (h : PSs X st t) (k : ∀ D s H, t' D s H → t D s H) : PSs X st t' := ⟨fun pins s σ H D I q => h.run pins s σ H D I (k _ _ _ q)⟩
end VI
end
section
set_option maxRecDepth 100000
set_option maxHeartbeats 4000000
/-! Operations by plain values. -/
namespace VI
open PySem PySem.Spec PyProof.Rows L2

/-! ### plain data -/
def mapO {α β : Type} (f : α → Option β) : List α → Option (List β)
  | [] => some []
  | x :: l => match f x with
    | some y => match mapO f l with
      | some m => some (y :: m)
      | none => none
    | none => none
/-- a value as the library's data, f deep -/
def toD (a : AH) : Nat → PV → Option PyData
  | 0, _ => none
  | f + 1, v => match v with
    | .non => some .none
    | .bl b => some (.bool b)
    | .int i => some (.int i)
    | .str x => some (.str x)
    | .tup l => (mapO (toD a f) l).map .tuple
    | .rol l => (mapO (toD a f) l).map .list
    | .ref i => match a.get i with
      | some (.lst l) => (mapO (toD a f) l).map .list
      | _ => none
    | .exc _ _ _ => none
theorem mapO_nil {α β : Type} {f : α → Option β} : mapO f [] = some [] := rfl
theorem mapO_cons {α β : Type} {f : α → Option β} {x : α} {l : List α} {ys : List β} (h : mapO f (x :: l) = some ys) : ∃ y m, f x = some y ∧ mapO f l = some m ∧ ys = y :: m := by
  unfold mapO at h
  cases e : f x with
  | none => rw [e] at h; cases h
  | some y =>
    rw [e] at h
    cases e2 : mapO f l with
    | none => rw [e2] at h; cases h
    | some m =>
      rw [e2] at h
      cases h
      exact ⟨y, m, rfl, rfl, rfl⟩
section
variable {K : PySem.W.Frag} {r : Nat → Addr} {a : AH} {H : Hp}
theorem dps_of {f : PV → Option PyData} (hf : ∀ v x d, f v = some d → VR K r a.n H v x → Dp K H x d ∧ d.plain = true ∧ d.depth ≤ n) : ∀ (l : List PV) (xs : List V) (ds : List PyData), mapO f l = some ds → VRs K r a.n H l xs → DpAll K H xs ds ∧ PyData.plainAll ds = true ∧ PyData.depthAll ds ≤ n
  | [], _, _, h, .nil => by cases h; exact ⟨.nil, rfl, Nat.zero_le _⟩
  | v :: l, _, _, h, .cons hv hs => by
    obtain ⟨y, m, e1, e2, rfl⟩ := mapO_cons h
    obtain ⟨p1, p2, p3⟩ := hf v _ y e1 hv
    obtain ⟨q1, q2, q3⟩ := dps_of hf l _ m e2 hs
    refine ⟨.cons p1 q1, ?_, ?_⟩
    · rw [PyData.plainAll, p2, q2] <;> rfl
    · rw [PyData.depthAll]
      exact Nat.max_le.mpr ⟨p3, q3⟩
theorem toD_dp (S : SR K r a H) : ∀ (f : Nat) (v : PV) (x : V) (d : PyData), toD a f v = some d → VR K r a.n H v x → Dp K H x d ∧ d.plain = true ∧ d.depth ≤ f
  | 0, _, _, _, h, _ => by cases h
  | f + 1, v, x, d, h, hv => by
    have many : ∀ (l : List PV) (xs : List V) (ds : List PyData), mapO (toD a f) l = some ds → VRs K r a.n H l xs → DpAll K H xs ds ∧ PyData.plainAll ds = true ∧ PyData.depthAll ds ≤ f := dps_of fun v x d => toD_dp S f v x d
    cases hv with
    | non => cases h; exact ⟨.non, rfl, Nat.zero_le _⟩
    | bl b => cases h; exact ⟨.bl b, rfl, Nat.zero_le _⟩
    | int i => cases h; exact ⟨.int i, rfl, Nat.zero_le _⟩
    | str y => cases h; exact ⟨.str y, rfl, Nat.zero_le _⟩
    | tup ht hs =>
      rename_i l b xs
      have h' : (mapO (toD a f) l).map PyData.tuple = some d := h
      obtain ⟨ds, e, rfl⟩ := Option.map_eq_some_iff.mp h'
      obtain ⟨p, q, z⟩ := many _ _ _ e hs
      refine ⟨.tup ht.sq p, q, ?_⟩
      rw [PyData.depth]
      omega
    | rol ht hs =>
      rename_i l b xs
      have h' : (mapO (toD a f) l).map PyData.list = some d := h
      obtain ⟨ds, e, rfl⟩ := Option.map_eq_some_iff.mp h'
      obtain ⟨p, q, z⟩ := many _ _ _ e hs
      refine ⟨.lst ht.sq p, q, ?_⟩
      rw [PyData.depth]
      omega
    | ref hi =>
      rename_i i
      have h' : (match a.get i with | some (.lst l) => (mapO (toD a f) l).map PyData.list | _ => none) = some d := h
      split at h'
      · rename_i l e0
        obtain ⟨ds, e, rfl⟩ := Option.map_eq_some_iff.mp h'
        cases S.ob i _ e0 with
        | lst ho hs =>
          obtain ⟨p, q, z⟩ := many _ _ _ e hs
          refine ⟨.lst (SqL.of ho) p, q, ?_⟩
          rw [PyData.depth]
          omega
      · cases h'
    | exc _ _ => cases h
end
/-! ### what an operation by values asks -/
/-- two values -/
def rB (K : PySem.W.Frag) (f : PV → PV → AH → Option (PV × AH)) : R2 := fun x y H Q => ∃ r v u a v' a', SR K r a H ∧ VR K r a.n H v x ∧ VR K r a.n H u y ∧ f v u a = some (v', a') ∧ ∀ r' H' x', Mo K r a.n H r' a'.n H' → SR K r' a' H' → VR K r' a'.n H' v' x' → Q x' H'
/-- values in a row -/
def rC (K : PySem.W.Frag) (f : List PV → AH → Option (PV × AH)) : List V → Hp → VK → Prop := fun xs H Q => ∃ r vs a v' a', SR K r a H ∧ VRs K r a.n H vs xs ∧ f vs a = some (v', a') ∧ ∀ r' H' x', Mo K r a.n H r' a'.n H' → SR K r' a' H' → VR K r' a'.n H' v' x' → Q x' H'
/-- a receiver and values -/
def rM (K : PySem.W.Frag) (f : PV → List PV → AH → Option (PV × AH)) : V → List V → Hp → VK → Prop := fun x xs H Q => ∃ r v vs a v' a', SR K r a H ∧ VR K r a.n H v x ∧ VRs K r a.n H vs xs ∧ f v vs a = some (v', a') ∧ ∀ r' H' x', Mo K r a.n H r' a'.n H' → SR K r' a' H' → VR K r' a'.n H' v' x' → Q x' H'
/-- the outcome: a value, nothing made -/
theorem out_v {K : PySem.W.Frag} {r : Nat → Addr} {a : AH} {H : Hp} {Q : VK} {v : PV} {x : V} (h : ∀ r' H' x', Mo K r a.n H r' a.n H' → SR K r' a H' → VR K r' a.n H' v x' → Q x' H') (S : SR K r a H) (hx : VR K r a.n H v x) : Q x H := h r H x .refl S hx
/-- a tuple's object -/
abbrev tupO (us : List Value) : Obj := { cls := .type "tuple", data := .seq us.toArray }
abbrev hoT (us : List Value) (xs : List V) : HO := .frz (tupO us) (.tup xs)
/-- .. a new tuple at p -/
theorem out_t {K : PySem.W.Frag} {r : Nat → Addr} {a : AH} {H : Hp} {Q : VK} {l : List PV} {xs : List V} {p : Addr} {us : List Value} (h : ∀ r' H' x', Mo K r a.n H r' a.n H' → SR K r' a H' → VR K r' a.n H' (.tup l) x' → Q x' H') (S : SR K r a H) (hx : VRs K r a.n H l xs) (hp : H p = none) :
    Q (.ref p) (upd H p (hoT us xs)) := h r _ _ (mo_up hp _) (S.up hp _) (.tup ⟨_, upd_same, rfl, rfl⟩ (hx.mo (mo_up hp _)))
/-- a tuple's object is laid -/
theorem laidT {X : Cx} {pins : List (Addr × Obj)} {s : Shared} {σ : L2.St} {H : Hp} {xs : List V} {us : List Value} (I : Inv X pins σ H s) (r : Vals xs us) (hz : xs.length ≤ sizeLine) :
    Inv X pins σ (upd H s.heap.objs.size (hoT us xs)) { s with heap := s.heap.push (tupO us) } :=
  I.laid (t' := s.toks) (fun _ _ e => Heap.get?_push_of_some _ e) (Nat.le_refl _) ⟨Heap.get?_push_size _ rfl, hz, us, r, IsTup.new _ _⟩
theorem laidQ {X : Cx} {pins : List (Addr × Obj)} {s : Shared} {σ : L2.St} {H : Hp} {xs : List V} {us : List Value} {Q : VK} (I : Inv X pins σ H s) (r : Vals xs us) (hz : xs.length ≤ sizeLine) (q : ∀ p, H p = none → Q (.ref p) (upd H p (hoT us xs))) :
    EP X pins σ Q (.ref s.heap.objs.size) { s with heap := s.heap.push (tupO us) } := ⟨.ref s.heap.objs.size, _, laidT I r hz, rfl, q _ (I.hok.fresh (Nat.le_refl _))⟩
/-- .. a new list at p -/
theorem out_l {K : PySem.W.Frag} {r : Nat → Addr} {a : AH} {H : Hp} {Q : VK} {l : List PV} {xs : List V} {p : Addr} (h : ∀ r' H' x', Mo K r a.n H r' (a.new (.lst l)).n H' → SR K r' (a.new (.lst l)) H' → VR K r' (a.new (.lst l)).n H' (.ref a.n) x' → Q x' H') (S : SR K r a H) (hx : VRs K r a.n H l xs)
    (hp : H p = none) : Q (.ref p) (upd H p (.lst xs)) := by
  have z := h (rn r a.n p) _ (V.ref (rn r a.n p a.n)) (mo_new hp (.lst xs)) (S.new hp (.lst upd_same (hx.mo (mo_new hp _)))) (.ref (Nat.lt_succ_self _))
  rw [rn_self] at z
  exact z
/-- .. a list written -/
theorem out_w {K : PySem.W.Frag} {r : Nat → Addr} {a : AH} {H : Hp} {Q : VK} {i : Nat} {l : List PV} {xs : List V} {v : PV} {x : V} (h : ∀ r' H' x', Mo K r a.n H r' (a.put i (.lst l)).n H' → SR K r' (a.put i (.lst l)) H' → VR K r' (a.put i (.lst l)).n H' v x' → Q x' H') (S : SR K r a H) (hi : i < a.n)
    (hx : VRs K r a.n H l xs) (hv : VR K r a.n H v x) : Q x (upd H (r i) (.lst xs)) :=
  h r _ _ (S.mo_put hi _) (S.put hi (.lst upd_same (hx.mo (S.mo_put hi _)))) (hv.mo (S.mo_put hi _))
/-- a list of the plain heap -/
theorem SR.lst {K : PySem.W.Frag} {r : Nat → Addr} {a : AH} {H : Hp} {i : Nat} {l : List PV} (S : SR K r a H) (e : a.get i = some (.lst l)) : ∃ xs, H (r i) = some (.lst xs) ∧ VRs K r a.n H l xs := by
  cases S.ob i _ e with
  | lst h hs => exact ⟨_, h, hs⟩
theorem SR.dct {K : PySem.W.Frag} {r : Nat → Addr} {a : AH} {H : Hp} {i : Nat} {l : List (Key × PV)} (S : SR K r a H) (e : a.get i = some (.dct l)) : ∃ xs, H (r i) = some (.dK xs) ∧ FR K r a.n H l xs := by
  cases S.ob i _ e with
  | dct h hs => exact ⟨_, h, hs⟩
/-- values in a row, by their readings -/
theorem OpR.dist {X : Cx} {f : Value → Value → Sem Value} {r r' : R2} (h : OpR X f r) (k : ∀ x y H Q, r' x y H Q → r x y H Q) : OpR X f r' := fun pins s σ H x y v u Q I rx ry q => h pins s σ H x y v u Q I rx ry (k _ _ _ _ q)
/-- an operation by cases of the values -/
theorem op_by {X : Cx} {f : Value → Value → Sem Value} {g : PV → PV → AH → Option (PV × AH)}
    (h : ∀ (r : Nat → Addr) (v u : PV) (a : AH) (v' : PV) (a' : AH) (H : Hp) (x y : V) (Q : VK), SR X.K r a H → VR X.K r a.n H v x → VR X.K r a.n H u y → g v u a = some (v', a') → (∀ r' H' x', Mo X.K r a.n H r' a'.n H' → SR X.K r' a' H' → VR X.K r' a'.n H' v' x' → Q x' H') →
      ∃ rr : R2, OpR X f rr ∧ rr x y H Q) : OpR X f (rB X.K g) := by
  intro pins s σ H x y v u Q I rx ry q
  obtain ⟨r, w1, w2, a, v', a', S, h1, h2, e, k⟩ := q
  obtain ⟨rr, ho, hr⟩ := h r w1 w2 a v' a' H x y Q S h1 h2 e k
  exact ho pins s σ H x y v u Q I rx ry hr

/-! ### + - * % // ** ^ -/
def LIM : Nat := 1000000
def bAdd (v u : PV) (a : AH) : Option (PV × AH) := match v with
  | .int i => match u with
    | .int j => some (.int (i + j), a)
    | _ => none
  | .tup l => match u with
    | .tup m => if l.length + m.length ≤ LIM then some (.tup (l ++ m), a) else none
    | _ => none
  | .str x => match u with
    | .str y => if x.length + y.length ≤ LIM then some (.str (x ++ y), a) else none
    | _ => none
  | .ref i => match u with
    | .ref j => match a.get i with
      | some (.lst l) => match a.get j with
        | some (.lst m) => if l.length + m.length ≤ LIM then some (.ref a.n, a.new (.lst (l ++ m))) else none
        | _ => none
      | _ => none
    | _ => none
  | _ => none
theorem lim_le {n : Nat} (h : n ≤ LIM) : n ≤ sizeLine := Nat.le_trans h (by rw [sizeLine_eq]; decide)
section
variable {X : Cx}
/-- t + u, the new object known -/
def rCatF (K : PySem.W.Frag) : R2 := fun x y H Q => ∃ a b xs ys, x = .ref a ∧ y = .ref b ∧ SqT K H a xs ∧ SqT K H b ys ∧ xs.length + ys.length ≤ sizeLine ∧ (xs = [] → Q (.ref b) H) ∧ (ys = [] → Q (.ref a) H) ∧ ∀ us p, H p = none → Q (.ref p) (upd H p (hoT us (xs ++ ys)))
theorem op_catF : OpR X (binaryOp .Add) (rCatF X.K) := by
  intro pins s σ H x y v u Q I rx ry h
  obtain ⟨a, b, xs, ys, rfl, rfl, ha, hb, hz, q0, q1, q2⟩ := h
  cases rx; cases ry
  obtain ⟨us, r1, p1, z1⟩ := I.tuple ha
  obtain ⟨ws, r2, p2, z2⟩ := I.tuple hb
  cases us with
  | nil =>
    cases r1
    exact cat_tup0 p1 p2 ⟨.ref b, H, I, rfl, q0 rfl⟩
  | cons u0 us =>
    refine HT.cat_tup p1 p2 (List.cons_ne_nil _ _) (fun z => ?_) (fun _ => ?_) (by rw [← r1.length, ← r2.length]; exact hz)
    · subst z
      cases r2
      exact ⟨.ref a, H, I, rfl, q1 rfl⟩
    · exact laidQ I (r1.append r2) (by rw [List.length_append]; exact hz) (q2 _)
/-- t * n, the new object known -/
def rRepF (K : PySem.W.Frag) : R2 := fun x y H Q => ∃ l n xs, x = .ref l ∧ y = .int n ∧ SqT K H l xs ∧ xs ≠ [] ∧ 2 ≤ n ∧ n ≤ 1000 ∧ xs.length ≤ 1000 ∧ ∀ us p, H p = none → Q (.ref p) (upd H p (hoT us (List.replicate n.toNat xs).flatten))
theorem op_repF : OpR X (binaryOp .Mult) (rRepF X.K) := by
  intro pins s σ H x y v u Q I rx ry h
  obtain ⟨l, n, xs, rfl, rfl, ht, hne, n2, n1000, hz, q⟩ := h
  cases rx
  obtain ⟨tk, rfl⟩ := ry
  obtain ⟨us, rv, ⟨⟨cls, dd, data, sl⟩, ho, hc, m, hd⟩, _⟩ := I.tuple ht
  simp only at hc hd
  subst hc hd
  have hlen : us.length = xs.length := rv.length.symm
  have hsz : us.toArray.size = xs.length := by rw [List.size_toArray, hlen]
  have hemp : us.toArray.isEmpty = false := by
    cases us with
    | nil => cases rv; exact absurd rfl hne
    | cons _ _ => rfl
  have hmul : ((us.toArray.size : Nat) : Int) * n ≤ 1000000 := by
    rw [hsz]
    have := Int.mul_le_mul_of_nonneg_right (show ((xs.length : Nat) : Int) ≤ 1000 by omega) (show 0 ≤ n by omega)
    omega
  have hfl : (List.replicate n.toNat us).flatten.length ≤ sizeLine := by
    rw [lm_len_rep_flat, hlen, sizeLine_eq]
    have : n.toNat * xs.length ≤ 1000 * 1000 := Nat.mul_le_mul (by omega) hz
    omega
  have d0 : (decide (n < -(2 ^ 63)) || decide (n ≥ 2 ^ 63)) = false := by simp; omega
  have d1 : (us.toArray.isEmpty || n == 1) = false := by
    rw [hemp, Bool.false_or]
    exact beq_eq_false_iff_ne.mpr (by omega)
  have d2 : (decide (n ≤ 0) || us.toArray.isEmpty) = false := by
    rw [hemp, Bool.or_false]
    exact decide_eq_false (by omega)
  have d4 : Builtin.Tuple.tupleTooMany (((us.toArray.size : Nat) : Int) * n) = false := decide_eq_false (by rw [sizeLine_eq]; omega)
  have M := tuple_mulW l us.toArray m dd sl n tk d0 d1 d2 (by omega) d4 (by rw [size_rep, List.size_toArray]; exact hfl)
  refine wpAny_binaryOp_repeat_ref (T := "tuple") (U := "int") (by decide) ⟨_, ho, rfl⟩ (fun s' => typeIs_int s' n tk) noFill_tuple_mul F.fills_int_mul
    F.slot_int_rmul repeat_tuple F.slot_int_index.lookup (call_meets F.slot_int_rmul (typeIs_int s n tk) F.entry_int_rmul (F.args_int_rmul_2 _ _)
      (int_rmul_tuple n tk l us.toArray m dd sl) ⟨ho, rfl, ⟨_, ho, rfl⟩, call_meets F.slot_tuple_mul ⟨_, ho, rfl⟩ F.entry_tuple_mul (F.args_tuple_mul_2 _ _) M ⟨ho, ?_⟩⟩)
  rw [size_rep]
  refine laidQ I (rv.rep n.toNat) ?_ (q _)
  rw [← (rv.rep n.toNat).length] at hfl
  exact hfl
theorem op_bAdd : OpR X (binaryOp .Add) (rB X.K bAdd) := by
  refine op_by fun r v u a v' a' H x y Q S h1 h2 e k => ?_
  cases h1 with
  | int i =>
    cases h2 with
    | int j =>
      have e' : some (PV.int (i + j), a) = some (v', a') := e
      cases e'
      exact ⟨_, op_add, i, j, rfl, rfl, out_v k S (.int _)⟩
    | _ => cases e
  | tup ht hs =>
    cases h2 with
    | tup ht2 hs2 =>
      rename_i l p xs m q ys
      have e' : (if l.length + m.length ≤ LIM then some (PV.tup (l ++ m), a) else none) = some (v', a') := e
      split at e'
      · rename_i hl
        cases e'
        have hz : xs.length + ys.length ≤ sizeLine := by rw [← hs.length, ← hs2.length]; exact lim_le hl
        refine ⟨_, op_catF, p, q, xs, ys, rfl, rfl, ht.sq, ht2.sq, hz, fun hx => ?_, fun hy => ?_, fun us t nt => out_t k S (hs.app hs2) nt⟩
        · subst hx
          have : l = [] := by have := hs.length; cases l with | nil => rfl | cons _ _ => simp at this
          subst this
          exact out_v k S (.tup ht2 hs2)
        · subst hy
          have : m = [] := by have := hs2.length; cases m with | nil => rfl | cons _ _ => simp at this
          subst this
          refine out_v k S ?_
          rw [List.append_nil]
          exact .tup ht hs
      · cases e'
    | _ => cases e
  | str z =>
    cases h2 with
    | str w =>
      have e' : (if z.length + w.length ≤ LIM then some (PV.str (z ++ w), a) else none) = some (v', a') := e
      split at e'
      · rename_i hl
        cases e'
        exact ⟨_, op_add_str, z, w, rfl, rfl, lim_le hl, out_v k S (.str _)⟩
      · cases e'
    | _ => cases e
  | ref hi =>
    cases h2 with
    | ref hj =>
      rename_i i j
      have e' : (match a.get i with | some (.lst l) => (match a.get j with | some (.lst m) => (if l.length + m.length ≤ LIM then some (PV.ref a.n, a.new (.lst (l ++ m))) else none) | _ => none) | _ => none) = some (v', a') := e
      split at e'
      · rename_i l e1
        split at e'
        · rename_i m e2
          split at e'
          · rename_i hl
            cases e'
            obtain ⟨xs, hx, rx⟩ := S.lst e1
            obtain ⟨ys, hy, ry⟩ := S.lst e2
            exact ⟨_, op_cat, r i, r j, xs, ys, rfl, rfl, hx, hy, (by rw [← rx.length, ← ry.length]; exact lim_le hl), fun p np => out_l k S (rx.app ry) np⟩
          · cases e'
        · cases e'
      · cases e'
    | _ => cases e
  | _ => cases e
/-- two ints -/
def bI (c : Int → Int → Bool) (g : Int → Int → Int) (v u : PV) (a : AH) : Option (PV × AH) := match v with
  | .int i => match u with
    | .int j => match c i j with
      | true => some (.int (g i j), a)
      | false => none
    | _ => none
  | _ => none
theorem op_bI {f : Value → Value → Sem Value} {c : Int → Int → Bool} {g : Int → Int → Int} {C : Int → Int → Prop} (ho : OpR X f (rI C fun i j => .int (g i j))) (hc : ∀ i j, c i j = true → C i j) : OpR X f (rB X.K (bI c g)) := by
  refine op_by fun r v u a v' a' H x y Q S h1 h2 e k => ?_
  cases h1 with
  | int i =>
    cases h2 with
    | int j =>
      have e' : (match c i j with | true => some (PV.int (g i j), a) | false => none) = some (v', a') := e
      split at e'
      · rename_i hq
        cases e'
        exact ⟨_, ho, i, j, rfl, rfl, hc i j hq, out_v k S (.int _)⟩
      · cases e'
    | _ => cases e
  | _ => cases e
def bSub : PV → PV → AH → Option (PV × AH) := bI (fun _ _ => true) fun i j => i - j
theorem op_bSub : OpR X (binaryOp .Sub) (rB X.K bSub) := op_bI (C := fun _ _ => True) (OpR.dist op_sub fun x y H Q ⟨i, j, e1, e2, _, q⟩ => ⟨i, j, e1, e2, q⟩) fun _ _ _ => trivial
def cMulB (i j : Int) : Bool := (decide (-(2 ^ 64) < i) && decide (i < 2 ^ 64)) || (decide (-(2 ^ 64) < j) && decide (j < 2 ^ 64))
theorem cMulB_ok {i j : Int} (h : cMulB i j = true) : CMul i j := by
  unfold cMulB at h
  simp only [Bool.or_eq_true, Bool.and_eq_true, decide_eq_true_eq] at h
  exact h
def bMulI : PV → PV → AH → Option (PV × AH) := bI cMulB fun i j => i * j
theorem op_bMulI : OpR X (binaryOp .Mult) (rB X.K bMulI) := op_bI op_mul fun _ _ => cMulB_ok
def bMul (v u : PV) (a : AH) : Option (PV × AH) := match v with
  | .tup l => match u with
    | .int k => match l with
      | [] => none
      | _ => if 2 ≤ k ∧ k ≤ 1000 ∧ l.length ≤ 1000 then some (.tup (List.replicate k.toNat l).flatten, a) else none
    | _ => none
  | _ => bMulI v u a
theorem VRs.rep {K : PySem.W.Frag} {r : Nat → Addr} {n : Nat} {H : Hp} {l : List PV} {xs : List V} (h : VRs K r n H l xs) : ∀ k : Nat, VRs K r n H (List.replicate k l).flatten (List.replicate k xs).flatten
  | 0 => .nil
  | k + 1 => by
    rw [List.replicate_succ, List.replicate_succ, List.flatten_cons, List.flatten_cons]
    exact h.app (VRs.rep h k)
theorem op_bMul : OpR X (binaryOp .Mult) (rB X.K bMul) := by
  refine op_by fun r v u a v' a' H x y Q S h1 h2 e k => ?_
  cases h1 with
  | tup ht hs =>
    cases h2 with
    | int n =>
      rename_i l p xs
      cases l with
      | nil => cases e
      | cons v0 l0 =>
        have e' : (if 2 ≤ n ∧ n ≤ 1000 ∧ (v0 :: l0).length ≤ 1000 then some (PV.tup (List.replicate n.toNat (v0 :: l0)).flatten, a) else none) = some (v', a') := e
        split at e'
        · rename_i hq
          cases e'
          refine ⟨_, op_repF, p, n, xs, rfl, rfl, ht.sq, ?_, hq.1, hq.2.1, (by rw [← hs.length]; exact hq.2.2), fun us t nt => out_t k S (hs.rep _) nt⟩
          intro z
          subst z
          cases hs
        · cases e'
    | _ => cases e
  | int i => exact ⟨_, op_bMulI, r, _, u, a, v', a', S, .int i, h2, e, k⟩
  | _ => cases e
def bMod : PV → PV → AH → Option (PV × AH) := bI (fun _ j => decide (0 < j)) fun i j => i % j
theorem op_bMod : OpR X (binaryOp .Mod) (rB X.K bMod) := op_bI op_mod fun _ _ h => of_decide_eq_true h
def bDiv : PV → PV → AH → Option (PV × AH) := bI (fun _ j => decide (0 < j) && decide (j < 1073741824)) fun i j => i / j
theorem op_bDiv : OpR X (binaryOp .FloorDiv) (rB X.K bDiv) := op_bI op_fdiv fun _ _ h => by
  simp only [Bool.and_eq_true, decide_eq_true_eq] at h
  exact h
def bPow : PV → PV → AH → Option (PV × AH) := bI (fun i j => decide (0 ≤ j) && decide (j ≤ 1000000) && decide (i.natAbs < 2 ^ 64)) fun i j => i ^ j.toNat
theorem op_bPow : OpR X (binaryOp .Pow) (rB X.K bPow) := op_bI op_pow fun _ _ h => by
  simp only [Bool.and_eq_true, decide_eq_true_eq] at h
  exact ⟨h.1.1, h.1.2, h.2⟩
def bXor : PV → PV → AH → Option (PV × AH) := bI (fun _ _ => true) fun i j => Builtin.bitXor i j
theorem op_bXor : OpR X (binaryOp .BitXor) (rB X.K bXor) := op_bI (C := fun _ _ => True) (OpR.dist op_xor fun x y H Q ⟨i, j, e1, e2, _, q⟩ => ⟨i, j, e1, e2, q⟩) fun _ _ _ => trivial

/-! ### comparisons -/
def DEP : Nat := 20
def cEq (v u : PV) (a : AH) : Option (PV × AH) := match toD a DEP v with
  | some d => match toD a DEP u with
    | some e => some (.bl (PyData.eqv d e), a)
    | none => none
  | none => none
def cNe (v u : PV) (a : AH) : Option (PV × AH) := match toD a DEP v with
  | some d => match toD a DEP u with
    | some e => some (.bl (!PyData.eqv d e), a)
    | none => none
  | none => none
theorem op_cEq (hu : X.A.units + 64 < cLine) : OpR X (compareOp .Eq) (rB X.K cEq) := by
  intro pins s σ H x y v u Q I rx ry q
  obtain ⟨r, w1, w2, a, v', a', S, h1, h2, e, k⟩ := q
  unfold cEq at e
  split at e
  · rename_i d1 e1
    split at e
    · rename_i d2 e2
      cases e
      obtain ⟨p1, p2, p3⟩ := toD_dp S _ _ _ _ e1 h1
      obtain ⟨q1, q2, q3⟩ := toD_dp S _ _ _ _ e2 h2
      obtain ⟨as, r1⟩ := Dp.reads I d1 x v p1 rx
      obtain ⟨bs, r2⟩ := Dp.reads I d2 y u q1 ry
      refine SeqAt.eq_plain r1 r2 p2 q2 ?_ ⟨.bl _, H, I, rfl, out_v k S (.bl _)⟩
      have p3' : d1.depth ≤ 20 := p3
      have : min d1.depth d2.depth ≤ 20 := Nat.le_trans (Nat.min_le_left _ _) p3'
      omega
    · cases e
  · cases e
theorem op_cNe (hu : X.A.units + 64 < cLine) : OpR X (compareOp .NotEq) (rB X.K cNe) := by
  intro pins s σ H x y v u Q I rx ry q
  obtain ⟨r, w1, w2, a, v', a', S, h1, h2, e, k⟩ := q
  unfold cNe at e
  split at e
  · rename_i d1 e1
    split at e
    · rename_i d2 e2
      cases e
      obtain ⟨p1, p2, p3⟩ := toD_dp S _ _ _ _ e1 h1
      obtain ⟨q1, q2, q3⟩ := toD_dp S _ _ _ _ e2 h2
      obtain ⟨as, r1⟩ := Dp.reads I d1 x v p1 rx
      obtain ⟨bs, r2⟩ := Dp.reads I d2 y u q1 ry
      refine SeqAt.ne_plain r1 r2 p2 q2 ?_ ⟨.bl _, H, I, rfl, out_v k S (.bl _)⟩
      have p3' : d1.depth ≤ 20 := p3
      have : min d1.depth d2.depth ≤ 20 := Nat.le_trans (Nat.min_le_left _ _) p3'
      omega
    · cases e
  · cases e
/-- two ints compared -/
def cI (g : Int → Int → Bool) (v u : PV) (a : AH) : Option (PV × AH) := match v with
  | .int i => match u with
    | .int j => some (.bl (g i j), a)
    | _ => none
  | _ => none
theorem op_cI {f : Value → Value → Sem Value} {g : Int → Int → Bool} (ho : OpR X f (rI0 fun i j => .bl (g i j))) : OpR X f (rB X.K (cI g)) := by
  refine op_by fun r v u a v' a' H x y Q S h1 h2 e k => ?_
  cases h1 with
  | int i =>
    cases h2 with
    | int j =>
      have e' : some (PV.bl (g i j), a) = some (v', a') := e
      cases e'
      exact ⟨_, ho, i, j, rfl, rfl, out_v k S (.bl _)⟩
    | _ => cases e
  | _ => cases e
def cLt : PV → PV → AH → Option (PV × AH) := cI fun i j => decide (i < j)
def cLe : PV → PV → AH → Option (PV × AH) := cI fun i j => decide (i ≤ j)
def cGt : PV → PV → AH → Option (PV × AH) := cI fun i j => decide (j < i)
def cGe : PV → PV → AH → Option (PV × AH) := cI fun i j => decide (j ≤ i)
theorem op_cLt : OpR X (compareOp .Lt) (rB X.K cLt) := op_cI op_lt
theorem op_cLe : OpR X (compareOp .LtE) (rB X.K cLe) := op_cI op_le
theorem op_cGt : OpR X (compareOp .Gt) (rB X.K cGt) := op_cI op_gt
theorem op_cGe : OpR X (compareOp .GtE) (rB X.K cGe) := op_cI op_ge
/-- is None; is True, is False -/
def cIs (neg : Bool) (v u : PV) (a : AH) : Option (PV × AH) := match u with
  | .non => match v with
    | .non => some (.bl (!neg), a)
    | _ => some (.bl neg, a)
  | .bl b => match v with
    | .bl c => some (.bl (Bool.xor neg (c == b)), a)
    | _ => none
  | _ => none
theorem op_cIs : OpR X (compareOp .Is) (rB X.K (cIs false)) := by
  refine op_by fun r v u a v' a' H x y Q S h1 h2 e k => ?_
  cases h2 with
  | non =>
    refine ⟨_, op_isN, rfl, ?_⟩
    cases h1 with
    | non => cases e; exact out_v k S (.bl _)
    | _ => cases e; exact out_v k S (.bl _)
  | bl b =>
    cases h1 with
    | bl c =>
      cases e
      refine ⟨_, op_is_bl, c, b, rfl, rfl, ?_⟩
      have z := out_v k S (.bl _)
      rw [Bool.false_xor, Bool.beq_eq_decide_eq] at z
      exact z
    | _ => cases e
  | _ => cases e
theorem op_cIsN : OpR X (compareOp .IsNot) (rB X.K (cIs true)) := by
  refine op_by fun r v u a v' a' H x y Q S h1 h2 e k => ?_
  cases h2 with
  | non =>
    refine ⟨_, op_notN, rfl, ?_⟩
    cases h1 with
    | non => cases e; exact out_v k S (.bl _)
    | _ => cases e; exact out_v k S (.bl _)
  | bl b =>
    cases h1 with
    | bl c =>
      cases e
      refine ⟨_, op_isnot_bl, c, b, rfl, rfl, ?_⟩
      have z := out_v k S (.bl _)
      rw [Bool.true_xor, Bool.beq_eq_decide_eq] at z
      exact z
    | _ => cases e
  | _ => cases e
end
end VI
end
section
set_option maxRecDepth 100000
set_option maxHeartbeats 4000000
/-! Operations by plain values: in, subscripts, slices, dicts. -/
namespace VI
open PySem PySem.Spec PyProof.Rows L2

/-! ### dicts -/
def keyOf : PV → Option Key
  | .int i => some (.inl i)
  | .str x => some (.inr x)
  | _ => none
def keyEq : Key → Key → Bool
  | .inl i, .inl j => decide (i = j)
  | .inr x, .inr y => decide (x = y)
  | .inl _, .inr _ => false
  | .inr _, .inl _ => false
theorem keyEq_is (a b : Key) : keyEq a b = decide (a = b) := by
  cases a with
  | inl i =>
    cases b with
    | inl j =>
      show decide (i = j) = _
      by_cases e : i = j
      · subst e; simp
      · rw [decide_eq_false e, decide_eq_false (fun z => e (Sum.inl.inj z))]
    | inr y => exact (decide_eq_false (fun z => nomatch z)).symm
  | inr x =>
    cases b with
    | inl j => exact (decide_eq_false (fun z => nomatch z)).symm
    | inr y =>
      show decide (x = y) = _
      by_cases e : x = y
      · subst e; simp
      · rw [decide_eq_false e, decide_eq_false (fun z => e (Sum.inr.inj z))]
def dlook : List (Key × PV) → Key → Option PV
  | [], _ => none
  | (k, v) :: l, q => match keyEq k q with
    | true => some v
    | false => dlook l q
/-- the value at q is v now; the pairs that stand keep their places -/
def dset : List (Key × PV) → Key → PV → List (Key × PV)
  | [], _, _ => []
  | (k, w) :: l, q, v => match keyEq k q with
    | true => (k, v) :: dset l q v
    | false => (k, w) :: dset l q v
def dput (l : List (Key × PV)) (q : Key) (v : PV) : List (Key × PV) := match dlook l q with
  | some _ => dset l q v
  | none => l ++ [(q, v)]
section
variable {K : PySem.W.Frag} {r : Nat → Addr} {n : Nat} {H : Hp}
theorem keyOf_rel {v : PV} {x : V} {q : Key} (h : VR K r n H v x) (e : keyOf v = some q) : x = kV q := by
  cases h with
  | int i => cases e; rfl
  | str y => cases e; rfl
  | _ => cases e
theorem dlook_some : ∀ {l : List (Key × PV)} {xs : List (Key × V)} {q : Key} {v : PV}, FR K r n H l xs → dlook l q = some v → ∃ x, valV xs q = some x ∧ VR K r n H v x
  | _, _, _, _, .nil, e => by cases e
  | _, _, q, v, .cons (k := k) h hs, e => by
    unfold dlook at e
    rw [keyEq_is] at e
    by_cases z : k = q
    · rw [decide_eq_true z] at e
      cases e
      exact ⟨_, valV_pos z, h⟩
    · rw [decide_eq_false z] at e
      obtain ⟨x, h1, h2⟩ := dlook_some hs e
      exact ⟨x, by rw [valV_neg z]; exact h1, h2⟩
theorem dlook_none : ∀ {l : List (Key × PV)} {xs : List (Key × V)} {q : Key}, FR K r n H l xs → dlook l q = none → valV xs q = none
  | _, _, _, .nil, _ => rfl
  | _, _, q, .cons (k := k) h hs, e => by
    unfold dlook at e
    rw [keyEq_is] at e
    by_cases z : k = q
    · rw [decide_eq_true z] at e; cases e
    · rw [decide_eq_false z] at e
      rw [valV_neg z]
      exact dlook_none hs e
theorem dlook_is {l : List (Key × PV)} {xs : List (Key × V)} {q : Key} (h : FR K r n H l xs) : (dlook l q).isSome = (valV xs q).isSome := by
  cases e : dlook l q with
  | none => rw [dlook_none h e]; rfl
  | some v => obtain ⟨x, h1, _⟩ := dlook_some h e; rw [h1]; rfl
theorem dset_rel {v : PV} {x : V} (hv : VR K r n H v x) (q : Key) : ∀ {l : List (Key × PV)} {xs : List (Key × V)}, FR K r n H l xs → FR K r n H (dset l q v) (xs.map fun kv => if kv.1 = q then (kv.1, x) else kv)
  | _, _, .nil => .nil
  | _, _, .cons (k := k) (x := y) h hs => by
    unfold dset
    rw [keyEq_is, List.map_cons]
    by_cases z : k = q
    · rw [decide_eq_true z]
      show FR K r n H _ ((if k = q then (k, x) else (k, y)) :: _)
      rw [if_pos z]
      exact .cons hv (dset_rel hv q hs)
    · rw [decide_eq_false z]
      show FR K r n H _ ((if k = q then (k, x) else (k, y)) :: _)
      rw [if_neg z]
      exact .cons h (dset_rel hv q hs)
theorem FR.app {κ : Type} : ∀ {l : List (κ × PV)} {xs : List (κ × V)}, FR K r n H l xs → ∀ {m : List (κ × PV)} {ys : List (κ × V)}, FR K r n H m ys → FR K r n H (l ++ m) (xs ++ ys)
  | _, _, .nil, _, _, h => h
  | _, _, .cons h hs, _, _, g => .cons h (FR.app hs g)
theorem FR.length {κ : Type} : ∀ {l : List (κ × PV)} {xs : List (κ × V)}, FR K r n H l xs → l.length = xs.length
  | _, _, .nil => rfl
  | _, _, .cons _ hs => by rw [List.length_cons, List.length_cons, FR.length hs]
theorem dput_rel {l : List (Key × PV)} {xs : List (Key × V)} {q : Key} {v : PV} {x : V} (h : FR K r n H l xs) (hv : VR K r n H v x) : FR K r n H (dput l q v) (putK xs q x) := by
  unfold dput putK
  rw [valV_any]
  cases e : dlook l q with
  | none =>
    rw [dlook_none h e]
    exact h.app (.cons hv .nil)
  | some w =>
    obtain ⟨y, h1, _⟩ := dlook_some h e
    rw [h1]
    exact dset_rel hv q h
end
/-! ### in -/
def inD (neg : Bool) (v u : PV) (a : AH) : Option (PV × AH) := match toD a DEP v with
  | some d => match toD a DEP u with
    | some (.list ds) => some (.bl (Bool.xor neg (ds.any fun y => PyData.eqv y d)), a)
    | some (.tuple ds) => some (.bl (Bool.xor neg (ds.any fun y => PyData.eqv y d)), a)
    | _ => none
  | none => none
def cIn (neg : Bool) (v u : PV) (a : AH) : Option (PV × AH) := match u with
  | .ref i => match a.get i with
    | some (.dct kvs) => match keyOf v with
      | some q => some (.bl (Bool.xor neg (dlook kvs q).isSome), a)
      | none => none
    | _ => inD neg v u a
  | _ => inD neg v u a
section
variable {X : Cx}
theorem plain_list {ds : List PyData} (h : (PyData.list ds).plain = true) : PyData.plainAll ds = true := h
theorem op_inD (hu : X.A.units + 64 < cLine) : OpR X (compareOp .In) (rB X.K (inD false)) := by
  intro pins s σ H x y v u Q I rx ry q
  obtain ⟨r, w1, w2, a, v', a', S, h1, h2, e, k⟩ := q
  unfold inD at e
  split at e
  · rename_i d e1
    obtain ⟨p1, p2, p3⟩ := toD_dp S _ _ _ _ e1 h1
    obtain ⟨as, r1⟩ := Dp.reads I d x v p1 rx
    have p3' : d.depth ≤ 20 := p3
    split at e
    · rename_i ds e2
      cases e
      obtain ⟨q1, q2, q3⟩ := toD_dp S _ _ _ _ e2 h2
      obtain ⟨bs, r2⟩ := Dp.reads I _ y u q1 ry
      refine SeqAt.in_list_data r2 r1 q2 p2 ?_ ⟨.bl _, H, I, rfl, ?_⟩
      · have := Nat.min_le_right (PyData.depthAll ds) d.depth
        omega
      · have z := out_v k S (.bl _)
        rw [Bool.false_xor] at z
        exact z
    · rename_i ds e2
      cases e
      obtain ⟨q1, q2, q3⟩ := toD_dp S _ _ _ _ e2 h2
      obtain ⟨bs, r2⟩ := Dp.reads I _ y u q1 ry
      refine SeqAt.in_tuple_data r2 r1 q2 p2 ?_ ⟨.bl _, H, I, rfl, ?_⟩
      · have := Nat.min_le_right (PyData.depthAll ds) d.depth
        omega
      · have z := out_v k S (.bl _)
        rw [Bool.false_xor] at z
        exact z
    · cases e
  · cases e
theorem op_notInD (hu : X.A.units + 64 < cLine) : OpR X (compareOp .NotIn) (rB X.K (inD true)) := by
  intro pins s σ H x y v u Q I rx ry q
  obtain ⟨r, w1, w2, a, v', a', S, h1, h2, e, k⟩ := q
  unfold inD at e
  split at e
  · rename_i d e1
    obtain ⟨p1, p2, p3⟩ := toD_dp S _ _ _ _ e1 h1
    obtain ⟨as, r1⟩ := Dp.reads I d x v p1 rx
    have p3' : d.depth ≤ 20 := p3
    split at e
    · rename_i ds e2
      cases e
      obtain ⟨q1, q2, q3⟩ := toD_dp S _ _ _ _ e2 h2
      obtain ⟨bs, r2⟩ := Dp.reads I _ y u q1 ry
      refine SeqAt.notIn_list_data r2 r1 q2 p2 ?_ ⟨.bl _, H, I, rfl, ?_⟩
      · have := Nat.min_le_right (PyData.depthAll ds) d.depth
        omega
      · have z := out_v k S (.bl _)
        rw [Bool.true_xor] at z
        exact z
    · rename_i ds e2
      cases e
      obtain ⟨q1, q2, q3⟩ := toD_dp S _ _ _ _ e2 h2
      obtain ⟨bs, r2⟩ := Dp.reads I _ y u q1 ry
      refine SeqAt.notIn_tuple_data r2 r1 q2 p2 ?_ ⟨.bl _, H, I, rfl, ?_⟩
      · have := Nat.min_le_right (PyData.depthAll ds) d.depth
        omega
      · have z := out_v k S (.bl _)
        rw [Bool.true_xor] at z
        exact z
    · cases e
  · cases e
theorem DGet.rel {K : PySem.W.Frag} {r : Nat → Addr} {a : AH} {H : Hp} {i : Nat} {kvs : List (Key × PV)} (S : SR K r a H) (e : a.get i = some (.dct kvs)) (q : Key) : ∃ xs, H (r i) = some (.dK xs) ∧ FR K r a.n H kvs xs ∧ DGet H (r i) (kV q) (valV xs q) := by
  obtain ⟨xs, h, hs⟩ := S.dct e
  exact ⟨xs, h, hs, DGet.k h⟩
theorem op_cIn (hu : X.A.units + 64 < cLine) : OpR X (compareOp .In) (rB X.K (cIn false)) := by
  intro pins s σ H x y v u Q I rx ry q
  obtain ⟨r, w1, w2, a, v', a', S, h1, h2, e, k⟩ := q
  unfold cIn at e
  split at e
  · split at e
    · rename_i i kvs e1
      split at e
      · rename_i q eq
        cases e
        cases h2 with
        | ref hi =>
          obtain ⟨xs, hx, hs, g⟩ := DGet.rel S e1 q
          rw [keyOf_rel h1 eq] at rx
          cases ry
          refine d_in (by omega) I g rx fun s' I' => ⟨.bl _, H, I', rfl, ?_⟩
          have z := out_v k S (.bl _)
          rw [Bool.false_xor, dlook_is hs] at z
          exact z
      · cases e
    · exact op_inD hu pins s σ H x y v u Q I rx ry ⟨r, w1, _, a, v', a', S, h1, h2, e, k⟩
  · exact op_inD hu pins s σ H x y v u Q I rx ry ⟨r, w1, _, a, v', a', S, h1, h2, e, k⟩
theorem op_cNotIn (hu : X.A.units + 64 < cLine) : OpR X (compareOp .NotIn) (rB X.K (cIn true)) := by
  intro pins s σ H x y v u Q I rx ry q
  obtain ⟨r, w1, w2, a, v', a', S, h1, h2, e, k⟩ := q
  unfold cIn at e
  split at e
  · split at e
    · rename_i i kvs e1
      split at e
      · rename_i q eq
        cases e
        cases h2 with
        | ref hi =>
          obtain ⟨xs, hx, hs, g⟩ := DGet.rel S e1 q
          rw [keyOf_rel h1 eq] at rx
          cases ry
          refine d_notIn (by omega) I g rx fun s' I' => ⟨.bl _, H, I', rfl, ?_⟩
          have z := out_v k S (.bl _)
          rw [Bool.true_xor, dlook_is hs] at z
          exact z
      · cases e
    · exact op_notInD hu pins s σ H x y v u Q I rx ry ⟨r, w1, _, a, v', a', S, h1, h2, e, k⟩
  · exact op_notInD hu pins s σ H x y v u Q I rx ry ⟨r, w1, _, a, v', a', S, h1, h2, e, k⟩
/-! ### subscripts -/
theorem atI_rel {K : PySem.W.Frag} {r : Nat → Addr} {n : Nat} {H : Hp} {l : List PV} {xs : List V} (h : VRs K r n H l xs) {i : Int} {v : PV} (e : atI l i = some v) : ∃ x, atI xs i = some x ∧ VR K r n H v x := by
  unfold atI at e ⊢
  rw [← h.length]
  cases q : ixN l.length i with
  | none => rw [q] at e; cases e
  | some j =>
    rw [q] at e
    exact h.get e
def ixO (v u : PV) (a : AH) : Option (PV × AH) := match v with
  | .tup l => match u with
    | .int i => (atI l i).map fun w => (w, a)
    | _ => none
  | .rol l => match u with
    | .int i => (atI l i).map fun w => (w, a)
    | _ => none
  | .ref j => match a.get j with
    | some (.lst l) => match u with
      | .int i => (atI l i).map fun w => (w, a)
      | _ => none
    | some (.dct kvs) => match keyOf u with
      | some q => (dlook kvs q).map fun w => (w, a)
      | none => none
    | _ => none
  | _ => none
theorem ix_O (hu : X.A.units + 64 < cLine) : IxR X (rB X.K ixO) := by
  intro value slice pins s σ H x y v u Q I rx ry q hsub
  obtain ⟨r, w1, w2, a, v', a', S, h1, h2, e, k⟩ := q
  cases h1 with
  | tup ht hs =>
    rename_i l p xs
    cases h2 with
    | int i =>
      have e' : (atI l i).map (fun w => (w, a)) = some (v', a') := e
      obtain ⟨w, e1, e2⟩ := Option.map_eq_some_iff.mp e'
      cases e2
      obtain ⟨z, hz, hv⟩ := atI_rel hs e1
      exact ix_tup value slice pins s σ H _ _ v u Q I rx ry ⟨p, xs, i, z, rfl, rfl, ht.sq, hz, out_v k S hv⟩ hsub
    | _ => cases e
  | rol ht hs =>
    rename_i l p xs
    cases h2 with
    | int i =>
      have e' : (atI l i).map (fun w => (w, a)) = some (v', a') := e
      obtain ⟨w, e1, e2⟩ := Option.map_eq_some_iff.mp e'
      cases e2
      obtain ⟨z, hz, hv⟩ := atI_rel hs e1
      exact ix_list value slice pins s σ H _ _ v u Q I rx ry ⟨p, xs, i, z, rfl, rfl, ht.sq, hz, out_v k S hv⟩ hsub
    | _ => cases e
  | ref hi =>
    rename_i j
    unfold ixO at e
    simp only at e
    split at e
    · rename_i l e0
      obtain ⟨xs, hx, hs⟩ := S.lst e0
      cases h2 with
      | int i =>
        obtain ⟨w, e1, e2⟩ := Option.map_eq_some_iff.mp e
        cases e2
        obtain ⟨z, hz, hv⟩ := atI_rel hs e1
        exact ix_list value slice pins s σ H _ _ v u Q I rx ry ⟨_, xs, i, z, rfl, rfl, SqL.of hx, hz, out_v k S hv⟩ hsub
      | _ => cases e
    · rename_i kvs e0
      split at e
      · rename_i q eq
        obtain ⟨w, e1, e2⟩ := Option.map_eq_some_iff.mp e
        cases e2
        obtain ⟨xs, hx, hs, g⟩ := DGet.rel S e0 q
        obtain ⟨z, hz, hv⟩ := dlook_some hs e1
        rw [hz] at g
        rw [keyOf_rel h2 eq] at ry
        cases rx
        exact tail_any (dict_typeIs I g) PySem.F.slot_dict_getitem.lookup (d_getItem (by omega) I g ry fun w' s' I' rw' => ⟨z, H, I', rw', out_v k S hv⟩) hsub
      · cases e
    · cases e
  | _ => cases e
/-! ### slices -/
def cutP (l : List PV) (lo hi : Option Int) : List PV := (l.drop (HT.sIx l.length 0 lo)).take (HT.sIx l.length l.length hi - HT.sIx l.length 0 lo)
theorem cutP_rel {K : PySem.W.Frag} {r : Nat → Addr} {n : Nat} {H : Hp} {l : List PV} {xs : List V} (h : VRs K r n H l xs) (lo hi : Option Int) : VRs K r n H (cutP l lo hi) (cutV xs lo hi) := by
  unfold cutP cutV
  rw [← h.length]
  exact (h.drop _).take _
/-- the parts of a slice, by values -/
def partO : Option PV → Option (Option Int)
  | none => some none
  | some (.int i) => some (some i)
  | some _ => none
def slO (v : PV) (lo hi : Option Int) (a : AH) : Option (PV × AH) := match v with
  | .tup l => some (.tup (cutP l lo hi), a)
  | .rol l => some (.ref a.n, a.new (.lst (cutP l lo hi)))
  | .ref j => match a.get j with
    | some (.lst l) => some (.ref a.n, a.new (.lst (cutP l lo hi)))
    | _ => none
  | _ => none
def rSl (K : PySem.W.Frag) : V → Option Int → Option Int → Hp → VK → Prop := fun x lo hi H Q => ∃ r v a v' a', SR K r a H ∧ VR K r a.n H v x ∧ slO v lo hi a = some (v', a') ∧ ∀ r' H' x', Mo K r a.n H r' a'.n H' → SR K r' a' H' → VR K r' a'.n H' v' x' → Q x' H'
theorem sIx_whole {n : Nat} {lo hi : Option Int} (h : HT.sIx n 0 lo = 0 ∧ HT.sIx n n hi = n) {l : List PV} (hl : l.length = n) : cutP l lo hi = l := by
  unfold cutP
  rw [hl, h.1, h.2, List.drop_zero, Nat.sub_zero, ← hl]
  exact List.take_length
theorem sl_O : SlR X (rSl X.K) := by
  intro pins s σ H x v vl vu lo hi sl Q I rx hs pl pu q
  obtain ⟨r, w1, a, v', a', S, h1, e, k⟩ := q
  cases h1 with
  | tup ht hr =>
    rename_i l p xs
    have e' : some (PV.tup (cutP l lo hi), a) = some (v', a') := e
    cases e'
    cases rx
    obtain ⟨us, rv, hti, hz⟩ := I.tuple (ht.sq : SqT X.K H p xs)
    have hlen : us.toArray.size = xs.length := by rw [List.size_toArray]; exact rv.length.symm
    by_cases hw : HT.sIx xs.length 0 lo = 0 ∧ HT.sIx xs.length xs.length hi = xs.length
    · refine ⟨"tuple", _, PyProof.Rows.slot_tuple_getitem.lookup, hti.typeIs, getItem_tuple_whole hti hs pl pu (by rw [hlen]; exact hw) ⟨.ref p, H, I, rfl, ?_⟩⟩
      refine out_v k S ?_
      rw [sIx_whole hw hr.length]
      exact .tup ht hr
    · refine ⟨"tuple", _, PyProof.Rows.slot_tuple_getitem.lookup, hti.typeIs, HT.getItem_tuple_cut hti hs pl pu (by rw [hlen]; exact hw) ?_ (by rw [hlen]; exact hz)⟩
      rw [hlen]
      exact laidQ I (((rv.drop _).take _) : Vals (cutV xs lo hi) _) (Nat.le_trans (cutV_length xs lo hi) hz) fun q nq => out_t k S (cutP_rel hr lo hi) nq
  | rol ht hr =>
    rename_i l p xs
    have e' : some (PV.ref a.n, a.new (.lst (cutP l lo hi))) = some (v', a') := e
    cases e'
    exact sl_list pins s σ H _ v vl vu lo hi sl Q I rx hs pl pu ⟨p, xs, rfl, ht.sq, fun q nq => out_l k S (cutP_rel hr lo hi) nq⟩
  | ref hj =>
    rename_i j
    unfold slO at e
    simp only at e
    split at e
    · rename_i l e0
      cases e
      obtain ⟨xs, hx, hr⟩ := S.lst e0
      exact sl_list pins s σ H _ v vl vu lo hi sl Q I rx hs pl pu ⟨_, xs, rfl, SqL.of hx, fun q nq => out_l k S (cutP_rel hr lo hi) nq⟩
    · cases e
  | _ => cases e
end
end VI
end
section
set_option maxRecDepth 100000
set_option maxHeartbeats 4000000
/-! Expressions by plain values. -/
namespace VI
open PySem PySem.Spec PyProof.Rows L2

def slot : Env → Nat → Option PV
  | [], _ => none
  | o :: _, 0 => o
  | _ :: e, i + 1 => slot e i
theorem slot_get : ∀ {e : Env} {i : Nat} {v : PV}, slot e i = some v → e[i]? = some (some v)
  | o :: _, 0, v, h => by
    have h' : o = some v := h
    rw [h'] <;> rfl
  | _ :: e, i + 1, v, h => by
    have z := slot_get (e := e) (i := i) (v := v) h
    simpa using z
def eVar (i : Nat) : FE := fun e a => match slot e i with
  | some v => .ok v a
  | none => .no
def eC (v : PV) : FE := fun _ a => .ok v a
def lf : Option (PV × AH) → R PV
  | some (v, a) => .ok v a
  | none => .no
def eBin (f : PV → PV → AH → Option (PV × AH)) (fa fb : FE) : FE := fun e a => (fa e a).bind fun v a1 => (fb e a1).bind fun u a2 => lf (f v u a2)
def eNeg (fa : FE) : FE := fun e a => (fa e a).bind fun v a1 => match v with
  | .int i => .ok (.int (-i)) a1
  | _ => .no
/-- x op y op' z -/
def eCh (f g : PV → PV → AH → Option (PV × AH)) (fa fb fc : FE) : FE := fun e a => (fa e a).bind fun v a1 => (fb e a1).bind fun u a2 => (lf (f v u a2)).bind fun b a3 => match b with
  | .bl true => (fc e a3).bind fun w a4 => lf (g u w a4)
  | .bl false => .ok (.bl false) a3
  | _ => .no
def eAnd (fa fb : FE) : FE := fun e a => (fa e a).bind fun v a1 => match v with
  | .bl true => fb e a1
  | .bl false => .ok (.bl false) a1
  | _ => .no
def eOr (fa fb : FE) : FE := fun e a => (fa e a).bind fun v a1 => match v with
  | .bl true => .ok (.bl true) a1
  | .bl false => fb e a1
  | _ => .no
def eNot (fa : FE) : FE := fun e a => (fa e a).bind fun v a1 => match v with
  | .bl b => .ok (.bl (!b)) a1
  | _ => .no
def eIf (ft fa fb : FE) : FE := fun e a => (ft e a).bind fun v a1 => match v with
  | .bl true => fa e a1
  | .bl false => fb e a1
  | _ => .no
def aNil : FA := fun _ a => .ok [] a
def aCons (fa : FE) (fr : FA) : FA := fun e a => (fa e a).bind fun v a1 => (fr e a1).bind fun vs a2 => .ok (v :: vs) a2
def eTup (fs : FA) : FE := fun e a => (fs e a).bind fun vs a1 => if vs.length ≤ LIM then .ok (.tup vs) a1 else .no
def eLst (fs : FA) : FE := fun e a => (fs e a).bind fun vs a1 => if vs.length ≤ LIM then .ok (.ref a1.n) (a1.new (.lst vs)) else .no
def eCB (f : List PV → AH → Option (PV × AH)) (fs : FA) : FE := fun e a => (fs e a).bind fun vs a1 => lf (f vs a1)
def eCall (F : FN) (fs : FA) : FE := fun e a => (fs e a).bind F
/-- the parts of a slice -/
abbrev FO := Env → AH → R (Option Int)
def oNone : FO := fun _ a => .ok none a
def oSome (f : FE) : FO := fun e a => (f e a).bind fun v a1 => match v with
  | .int i => .ok (some i) a1
  | _ => .no
def eSl (fa : FE) (fl fh : FO) : FE := fun e a => (fa e a).bind fun v a1 => (fl e a1).bind fun lo a2 => (fh e a2).bind fun hi a3 => lf (slO v lo hi a3)

section
variable {X : Cx} {W : WX} {fa fb fc ft : FE} {fs fr : FA} {a b c e : Expr} {es : List Expr} {pos : Pos}
theorem v_var (i : Nat) {x : Str} (hN : X.N[i]? = some x := by rfl) (hv : Vis X.env.scope x := by first | exact Or.inl rfl | exact Or.inr (Or.inl rfl) | exact Or.inr (Or.inr rfl)) (hd : (x == ("__debug__" : Str)) = false := by decide)
    (hcd : (x == ("__classdict__" : Str)) = false := by decide) : PE X (.Name x pos) (tO X.K W (eVar i)) := pe_of (pe_var hN hv hd hcd) fun s H Q ⟨r, e, a, T, h⟩ => by
  unfold eVar at h
  cases q : slot e i with
  | none => rw [q] at h; exact h.elim
  | some v =>
    rw [q] at h
    obtain ⟨x, h1, h2⟩ := T.er i v (slot_get q)
    exact ⟨x, h1, h.here T.sr h2⟩
theorem v_c {t : TE} {v : PV} {x : V} (h : PE X e (tC x)) (hv : ∀ r n H, VR X.K r n H v x) : PE X e (tO X.K W (eC v)) := pe_of h fun s H Q ⟨r, e, a, T, h⟩ => h.here T.sr (hv _ _ _)
theorem v_int {i : Int} {j : Nat} : PE X (.Constant (.int i) j pos) (tO X.K W (eC (.int i))) := v_c (t := tC (.int i)) pe_int fun _ _ _ => .int i
theorem v_bl {b : Bool} {j : Nat} : PE X (.Constant (.bool b) j pos) (tO X.K W (eC (.bl b))) := v_c (t := tC (.bl b)) pe_bl fun _ _ _ => .bl b
theorem v_non {j : Nat} : PE X (.Constant .none j pos) (tO X.K W (eC .non)) := v_c (t := tC .non) pe_non fun _ _ _ => .non
theorem v_str {x : Str} {j : Nat} : PE X (.Constant (.str x) j pos) (tO X.K W (eC (.str x))) := v_c (t := tC (.str x)) pe_str fun _ _ _ => .str x
/-- a module's number -/
theorem v_gint {x : Str} {i : Int} (hm : ∃ t, X.mg x = some (.int i t)) (hg : Gl X x := by rfl) (hd : (x == ("__debug__" : Str)) = false := by decide) : PE X (.Name x pos) (tO X.K W (eC (.int i))) := by
  obtain ⟨t, hm⟩ := hm
  exact v_c (t := tC (.int i)) (pe_glob hg hm (show RelV (.int i) (.int i t) from ⟨t, rfl⟩) hd) fun _ _ _ => .int i
/-- two values, then an operation -/
theorem v_op {f : Value → Value → Sem Value} {g : PV → PV → AH → Option (PV × AH)} {s : L2.St} {H : Hp} {Q : VK} (h : tO X.K W (eBin g fa fb) s H Q) : tOp (rB X.K g) (tO X.K W fa) (tO X.K W fb) s H Q := by
  obtain ⟨r, e, a, T, h⟩ := h
  refine tO_mono (tO_bind T h) fun x H1 ⟨r1, v, a1, m1, T1, hv, h1⟩ => ?_
  refine tO_mono (tO_bind T1 h1) fun y H2 ⟨r2, u, a2, m2, T2, hu, h2⟩ => ?_
  cases q : g v u a2 with
  | none => rw [q] at h2; exact h2.elim
  | some p =>
    rw [q] at h2
    exact ⟨r2, v, u, a2, p.1, p.2, T2.sr, hv.mo m2, hu, q, h2⟩
theorem v_bin {op : Operator} {g : PV → PV → AH → Option (PV × AH)} (ho : OpR X (binaryOp op) (rB X.K g)) (ha : PE X a (tO X.K W fa)) (hb : PE X b (tO X.K W fb)) : PE X (.BinOp a op b pos) (tO X.K W (eBin g fa fb)) :=
  pe_of (pe_op ho ha hb) fun _ _ _ h => v_op (f := binaryOp op) h
theorem v_cmp {op : CmpOp} {g : PV → PV → AH → Option (PV × AH)} (ho : OpR X (compareOp op) (rB X.K g)) (ha : PE X a (tO X.K W fa)) (hb : PE X b (tO X.K W fb)) (hm : behindInMarks op b = false := by rfl) : PE X (.Compare a [op] [b] pos) (tO X.K W (eBin g fa fb)) :=
  pe_of (pe_cmpR ho ha hb hm) fun _ _ _ h => v_op (f := compareOp op) h
theorem vt_cmp {op : CmpOp} {g : PV → PV → AH → Option (PV × AH)} (ho : OpR X (compareOp op) (rB X.K g)) (ha : PE X a (tO X.K W fa)) (hb : PE X b (tO X.K W fb)) (hm : behindInMarks op b = false := by rfl) : PT X (.Compare a [op] [b] pos) (tB (tO X.K W (eBin g fa fb))) :=
  pt_of (pt_cmpR ho ha hb hm) fun _ _ _ h => v_op (f := compareOp op) h
theorem v_chop {g g' : PV → PV → AH → Option (PV × AH)} {s : L2.St} {H : Hp} {Q : VK} (h : tO X.K W (eCh g g' fa fb fc) s H Q) : tChain (rB X.K g) (rB X.K g') (tO X.K W fa) (tO X.K W fb) (tO X.K W fc) s H Q := by
  obtain ⟨r, e, a, T, h⟩ := h
  refine tO_mono (tO_bind T h) fun x H1 ⟨r1, v, a1, m1, T1, hv, h1⟩ => ?_
  refine tO_mono (tO_bind T1 h1) fun y H2 ⟨r2, u, a2, m2, T2, hu, h2⟩ => ?_
  cases q : g v u a2 with
  | none => rw [q] at h2; exact h2.elim
  | some p =>
    rw [q] at h2
    obtain ⟨b, a3⟩ := p
    refine ⟨r2, v, u, a2, b, a3, T2.sr, hv.mo m2, hu, q, fun r3 H3 z m3 S3 hz => ?_⟩
    cases hz with
    | bl c =>
      refine ⟨c, rfl, ?_⟩
      cases c with
      | false =>
        rw [if_neg Bool.false_ne_true]
        have h3 : Fin X.K (fun c d H' => W c d s H') r2 a2.n H2 (relV X.K) Q (.ok (.bl false) a3) := h2
        exact h3 r3 H3 _ m3 S3 (.bl _)
      | true =>
        rw [if_pos rfl]
        have h3 : Fin X.K (fun c d H' => W c d s H') r2 a2.n H2 (relV X.K) Q ((fc e a3).bind fun w a4 => lf (g' u w a4)) := h2
        have T3 := T2.mo m3 S3
        refine tO_mono (tO_bind T3 (Fin.later m3 h3)) fun w H4 ⟨r4, w', a4, m4, T4, hw, h4⟩ => ?_
        cases q' : g' u w' a4 with
        | none => rw [q'] at h4; exact h4.elim
        | some p' =>
          rw [q'] at h4
          exact ⟨r4, u, w', a4, p'.1, p'.2, T4.sr, (hu.mo m3).mo m4, hw, q', h4⟩
    | _ => exact h2.elim
theorem v_chain {op op' : CmpOp} {g g' : PV → PV → AH → Option (PV × AH)} (ho : OpR X (compareOp op) (rB X.K g)) (ho' : OpR X (compareOp op') (rB X.K g')) (ha : PE X a (tO X.K W fa)) (hb : PE X b (tO X.K W fb)) (hc : PE X c (tO X.K W fc)) (hm : lastMarks [op, op'] [b, c] = false := by rfl) :
    PE X (.Compare a [op, op'] [b, c] pos) (tO X.K W (eCh g g' fa fb fc)) := pe_of (pe_chain ho ho' ha hb hc hm) fun _ _ _ h => v_chop h
theorem vt_chain {op op' : CmpOp} {g g' : PV → PV → AH → Option (PV × AH)} (ho : OpR X (compareOp op) (rB X.K g)) (ho' : OpR X (compareOp op') (rB X.K g')) (ha : PE X a (tO X.K W fa)) (hb : PE X b (tO X.K W fb)) (hc : PE X c (tO X.K W fc)) (hm : lastMarks [op, op'] [b, c] = false := by rfl) :
    PT X (.Compare a [op, op'] [b, c] pos) (tB (tO X.K W (eCh g g' fa fb fc))) := pt_of (pt_chain ho ho' ha hb hc hm) fun _ _ _ h => v_chop h
/-- a value, by which one goes on -/
theorem v_neg (ha : PE X a (tO X.K W fa)) : PE X (.UnaryOp .USub a pos) (tO X.K W (eNeg fa)) := pe_of (pe_un un_neg ha) fun s H Q ⟨r, e, a, T, h⟩ => by
  refine tO_mono (tO_bind T h) fun x H1 ⟨r1, v, a1, m1, T1, hv, h1⟩ => ?_
  cases hv with
  | int i =>
    have h2 : Fin X.K (fun c d H' => W c d s H') r1 a1.n H1 (relV X.K) Q (.ok (.int (-i)) a1) := h1
    exact ⟨i, rfl, h2.here T1.sr (.int _)⟩
  | _ => exact h1.elim
/-- tests -/
theorem vt_val {t : FE} (h : PE X e (tO X.K W t)) (he : ∀ whole, isTrue e X.env whole = (do let v ← whole; standAt e.pos; holding [v] (truthy v)) := by intro _; rfl) : PT X e (tB (tO X.K W t)) := pt_val h he
theorem tB_mono {t : FE} {s : L2.St} {H : Hp} {Q Q' : Bool → Hp → Prop} (h : tB (tO X.K W t) s H Q) (q : ∀ c H', Q c H' → Q' c H') : tB (tO X.K W t) s H Q' := tO_mono h fun x H1 ⟨c, e, z⟩ => ⟨c, e, q _ _ z⟩
theorem v_andT {s : L2.St} {H : Hp} {Q : Bool → Hp → Prop} (h : tB (tO X.K W (eAnd fa fb)) s H Q) : tAnd (tB (tO X.K W fa)) (tB (tO X.K W fb)) s H Q := by
  obtain ⟨r, e, a, T, h⟩ := h
  refine tO_mono (tO_bind T h) fun x H1 ⟨r1, v, a1, m1, T1, hv, h1⟩ => ?_
  cases hv with
  | bl c =>
    refine ⟨c, rfl, ?_⟩
    cases c with
    | true =>
      rw [if_pos rfl]
      exact ⟨r1, e, a1, T1, h1⟩
    | false =>
      rw [if_neg Bool.false_ne_true]
      have h2 : Fin X.K (fun c d H' => W c d s H') r1 a1.n H1 (relV X.K) (fun x H1 => ∃ c, x = V.bl c ∧ Q c H1) (.ok (.bl false) a1) := h1
      obtain ⟨c, ec, q⟩ := h2.here T1.sr (.bl _)
      cases ec
      exact q
  | _ => exact h1.elim
theorem v_orT {s : L2.St} {H : Hp} {Q : Bool → Hp → Prop} (h : tB (tO X.K W (eOr fa fb)) s H Q) : tOr (tB (tO X.K W fa)) (tB (tO X.K W fb)) s H Q := by
  obtain ⟨r, e, a, T, h⟩ := h
  refine tO_mono (tO_bind T h) fun x H1 ⟨r1, v, a1, m1, T1, hv, h1⟩ => ?_
  cases hv with
  | bl c =>
    refine ⟨c, rfl, ?_⟩
    cases c with
    | false =>
      rw [if_neg Bool.false_ne_true]
      exact ⟨r1, e, a1, T1, h1⟩
    | true =>
      rw [if_pos rfl]
      have h2 : Fin X.K (fun c d H' => W c d s H') r1 a1.n H1 (relV X.K) (fun x H1 => ∃ c, x = V.bl c ∧ Q c H1) (.ok (.bl true) a1) := h1
      obtain ⟨c, ec, q⟩ := h2.here T1.sr (.bl _)
      cases ec
      exact q
  | _ => exact h1.elim
theorem vw_and1 (h : PT X a (tB (tO X.K W fa))) : PW X (.BoolOp .And [a] pos) (tB (tO X.K W fa)) := pw_and1 h
theorem vw_or1 (h : PT X a (tB (tO X.K W fa))) : PW X (.BoolOp .Or [a] pos) (tB (tO X.K W fa)) := pw_or1 h
theorem vw_and (ha : PT X a (tB (tO X.K W fa))) (hb : PW X (.BoolOp .And (b :: es) pos) (tB (tO X.K W fb))) : PW X (.BoolOp .And (a :: b :: es) pos) (tB (tO X.K W (eAnd fa fb))) := pw_of (pw_and ha hb) fun _ _ _ h => v_andT h
theorem vw_or (ha : PT X a (tB (tO X.K W fa))) (hb : PW X (.BoolOp .Or (b :: es) pos) (tB (tO X.K W fb))) : PW X (.BoolOp .Or (a :: b :: es) pos) (tB (tO X.K W (eOr fa fb))) := pw_of (pw_or ha hb) fun _ _ _ h => v_orT h
theorem vt_not (ha : PT X a (tB (tO X.K W fa))) : PT X (.UnaryOp .Not a pos) (tB (tO X.K W (eNot fa))) := pt_of (pt_not ha) fun s H Q ⟨r, e, a, T, h⟩ => by
  refine tO_mono (tO_bind T h) fun x H1 ⟨r1, v, a1, m1, T1, hv, h1⟩ => ?_
  cases hv with
  | bl c =>
    have h2 : Fin X.K (fun c d H' => W c d s H') r1 a1.n H1 (relV X.K) (fun x H1 => ∃ c, x = V.bl c ∧ Q c H1) (.ok (.bl (!c)) a1) := h1
    obtain ⟨d, ec, q⟩ := h2.here T1.sr (.bl _)
    cases ec
    exact ⟨c, rfl, q⟩
  | _ => exact h1.elim
theorem v_one {op : BoolOp} (h : PE X a (tO X.K W fa)) : PE X (.BoolOp op [a] pos) (tO X.K W fa) := pe_one h
theorem v_and (ha : PE X a (tO X.K W fa)) (hb : PE X (.BoolOp .And (b :: es) pos) (tO X.K W fb)) : PE X (.BoolOp .And (a :: b :: es) pos) (tO X.K W (eAnd fa fb)) := pe_of (pe_and ha hb) fun s H Q ⟨r, e, a, T, h⟩ => by
  refine tO_mono (tO_bind T h) fun x H1 ⟨r1, v, a1, m1, T1, hv, h1⟩ => ?_
  cases hv with
  | bl c =>
    refine ⟨c, rfl, ?_⟩
    cases c with
    | true => rw [if_pos rfl]; exact ⟨r1, e, a1, T1, h1⟩
    | false =>
      rw [if_neg Bool.false_ne_true]
      have h2 : Fin X.K (fun c d H' => W c d s H') r1 a1.n H1 (relV X.K) Q (.ok (.bl false) a1) := h1
      exact h2.here T1.sr (.bl _)
  | _ => exact h1.elim
theorem v_or (ha : PE X a (tO X.K W fa)) (hb : PE X (.BoolOp .Or (b :: es) pos) (tO X.K W fb)) : PE X (.BoolOp .Or (a :: b :: es) pos) (tO X.K W (eOr fa fb)) := pe_of (pe_or ha hb) fun s H Q ⟨r, e, a, T, h⟩ => by
  refine tO_mono (tO_bind T h) fun x H1 ⟨r1, v, a1, m1, T1, hv, h1⟩ => ?_
  cases hv with
  | bl c =>
    refine ⟨c, rfl, ?_⟩
    cases c with
    | false => rw [if_neg Bool.false_ne_true]; exact ⟨r1, e, a1, T1, h1⟩
    | true =>
      rw [if_pos rfl]
      have h2 : Fin X.K (fun c d H' => W c d s H') r1 a1.n H1 (relV X.K) Q (.ok (.bl true) a1) := h1
      exact h2.here T1.sr (.bl _)
  | _ => exact h1.elim
theorem v_not (ha : PE X a (tO X.K W fa)) : PE X (.UnaryOp .Not a pos) (tO X.K W (eNot fa)) := pe_of (pe_not ha) fun s H Q ⟨r, e, a, T, h⟩ => by
  refine tO_mono (tO_bind T h) fun x H1 ⟨r1, v, a1, m1, T1, hv, h1⟩ => ?_
  cases hv with
  | bl c =>
    have h2 : Fin X.K (fun c d H' => W c d s H') r1 a1.n H1 (relV X.K) Q (.ok (.bl (!c)) a1) := h1
    exact ⟨c, rfl, h2.here T1.sr (.bl _)⟩
  | _ => exact h1.elim
theorem v_if (ht : PT X c (tB (tO X.K W ft))) (ha : PE X a (tO X.K W fa)) (hb : PE X b (tO X.K W fb)) : PE X (.IfExp c a b pos) (tO X.K W (eIf ft fa fb)) := pe_of (pe_ifExp ht ha hb) fun s H Q ⟨r, e, a, T, h⟩ => by
  refine tO_mono (tO_bind T h) fun x H1 ⟨r1, v, a1, m1, T1, hv, h1⟩ => ?_
  cases hv with
  | bl c =>
    refine ⟨c, rfl, ?_⟩
    cases c with
    | true => rw [if_pos rfl]; exact ⟨r1, e, a1, T1, h1⟩
    | false => rw [if_neg Bool.false_ne_true]; exact ⟨r1, e, a1, T1, h1⟩
  | _ => exact h1.elim
/-- arguments -/
theorem va_nil : PA X [] (tOs X.K W aNil) := pa_of pa_nil fun s H Q ⟨r, e, a, T, h⟩ => by
  have h2 : Fin X.K (fun c d H' => W c d s H') r a.n H (relVs X.K) Q (.ok [] a) := h
  exact h2 r H [] .refl T.sr .nil
theorem va_cons (ha : PE X e (tO X.K W fa)) (hr : PA X es (tOs X.K W fr)) (hs : starEach (e :: es) X.env = (false, eval e X.env) :: starEach es X.env := by rfl) : PA X (e :: es) (tOs X.K W (aCons fa fr)) := pa_of (pa_cons ha hr hs) fun s H Q ⟨r, e, a, T, h⟩ => by
  refine tO_mono (tO_bind T h) fun x H1 ⟨r1, v, a1, m1, T1, hv, h1⟩ => ?_
  refine tOs_mono (tOs_bind T1 h1) fun xs H2 ⟨r2, vs, a2, m2, T2, hvs, h2⟩ => ?_
  have h3 : Fin X.K (fun c d H' => W c d s H') r2 a2.n H2 (relVs X.K) Q (.ok (v :: vs) a2) := h2
  exact h3 r2 H2 _ .refl T2.sr (.cons (hv.mo m2) hvs)
/-- a display whose tuple's object is known -/
def tTupF (t : TA) : TE := fun σ H Q => t σ H fun xs H1 => xs.length ≤ sizeLine ∧ ∀ us p, H1 p = none → Q (.ref p) (upd H1 p (hoT us xs))
theorem pe_tupF {j : Nat} {t : TA} (h : PA X es t) : PE X (.Tuple es j pos) (tTupF t) := by
  refine ⟨fun pins s σ H Q I hq => ?_⟩
  refine wpAny_Tuple_spliced (thn (h.run pos pins s σ H _ I hq) fun us s1 ⟨xs, H1, I1, rv, z, q⟩ => ?_)
  exact ⟨by rw [← rv.length]; exact z, laidQ I1 rv z (q us)⟩
theorem v_tup {j : Nat} (h : PA X es (tOs X.K W fs)) : PE X (.Tuple es j pos) (tO X.K W (eTup fs)) := pe_of (pe_tupF h) fun s H Q ⟨r, e, a, T, h⟩ => by
  refine tOs_mono (tOs_bind T h) fun xs H1 ⟨r1, vs, a1, m1, T1, hvs, h1⟩ => ?_
  by_cases hl : vs.length ≤ LIM
  · rw [if_pos hl] at h1
    have h2 : Fin X.K (fun c d H' => W c d s H') r1 a1.n H1 (relV X.K) Q (.ok (.tup vs) a1) := h1
    exact ⟨by rw [← hvs.length]; exact lim_le hl, fun us p hp => out_t h2 T1.sr hvs hp⟩
  · rw [if_neg hl] at h1
    exact h1.elim
theorem v_lst (h : PA X es (tOs X.K W fs)) : PE X (.List es pos) (tO X.K W (eLst fs)) := pe_of (pe_lst h) fun s H Q ⟨r, e, a, T, h⟩ => by
  refine tOs_mono (tOs_bind T h) fun xs H1 ⟨r1, vs, a1, m1, T1, hvs, h1⟩ => ?_
  by_cases hl : vs.length ≤ LIM
  · rw [if_pos hl] at h1
    have h2 : Fin X.K (fun c d H' => W c d s H') r1 a1.n H1 (relV X.K) Q (.ok (.ref a1.n) (a1.new (.lst vs))) := h1
    exact ⟨by rw [← hvs.length]; exact lim_le hl, fun p hp => out_l h2 T1.sr hvs hp⟩
  · rw [if_neg hl] at h1
    exact h1.elim
/-- subscripts, slices -/
theorem v_ix (hu : X.A.units + 64 < cLine) (ha : PE X a (tO X.K W fa)) (hb : PE X b (tO X.K W fb)) (hs : PlainIx b := by exact fun _ _ => rfl) : PE X (.Subscript a b pos) (tO X.K W (eBin ixO fa fb)) := pe_of (pe_ix (ix_O hu) ha hb hs) fun _ _ _ h => v_op (f := fun _ _ => pure .none) h
/-- the reading of a slice's part -/
def tOo (K : PySem.W.Frag) (W : WX) (f : FO) : TO := fun s H Q => ∃ r e a, ST K r e a s H ∧ Fin K (fun c d H' => W c d s H') r a.n H (fun _ _ _ (o x : Option Int) => x = o) Q (f e a)
theorem vo_none : PO X none (tOo X.K W oNone) := ⟨fun pins s σ H Q I ⟨r, e, a, T, h⟩ => po_none.run pins s σ H Q I (by
  have h2 : Fin X.K (fun c d H' => W c d σ H') r a.n H (fun _ _ _ (o x : Option Int) => x = o) Q (.ok none a) := h
  exact h2 r H none .refl T.sr rfl)⟩
theorem vo_some (hf : PE X e (tO X.K W fa)) : PO X (some e) (tOo X.K W (oSome fa)) := ⟨fun pins s σ H Q I ⟨r, e, a, T, h⟩ => (po_some hf).run pins s σ H Q I (by
  refine tO_mono (tO_bind T h) fun x H1 ⟨r1, v, a1, m1, T1, hv, h1⟩ => ?_
  cases hv with
  | int i =>
    have h2 : Fin X.K (fun c d H' => W c d σ H') r1 a1.n H1 (fun _ _ _ (o x : Option Int) => x = o) Q (.ok (some i) a1) := h1
    exact ⟨i, rfl, h2 r1 H1 _ .refl T1.sr rfl⟩
  | _ => exact h1.elim)⟩
theorem tOo_bind {f : FO} {s : L2.St} {H : Hp} {Q : VK} {r : Nat → Addr} {e : Env} {a : AH} {g : Option Int → AH → R PV} (T : ST X.K r e a s H) (h : Fin X.K (fun c d H' => W c d s H') r a.n H (relV X.K) Q ((f e a).bind g)) :
    tOo X.K W f s H fun o H1 => ∃ r1 a1, Mo X.K r a.n H r1 a1.n H1 ∧ ST X.K r1 e a1 s H1 ∧ Fin X.K (fun c d H' => W c d s H') r1 a1.n H1 (relV X.K) Q (g o a1) := by
  refine ⟨r, e, a, T, ?_⟩
  cases q : f e a with
  | ok v a1 =>
    rw [q] at h
    exact fun r1 H1 x m S hx => by
      cases hx
      exact ⟨r1, a1, m, T.mo m S, Fin.later m h⟩
  | er c fs a1 =>
    rw [q] at h
    exact h
  | no =>
    rw [q] at h
    exact h.elim
theorem tOo_mono {f : FO} {s : L2.St} {H : Hp} {Q Q' : Option Int → Hp → Prop} (h : tOo X.K W f s H Q) (q : ∀ x H', Q x H' → Q' x H') : tOo X.K W f s H Q' := let ⟨r, e, a, T, h⟩ := h; ⟨r, e, a, T, h.mono q⟩
theorem v_sl {lo hi : Option Expr} {fl fh : FO} {p2 : Pos} (ha : PE X a (tO X.K W fa)) (hl : PO X lo (tOo X.K W fl)) (hh : PO X hi (tOo X.K W fh)) : PE X (.Subscript a (.Slice lo hi none p2) pos) (tO X.K W (eSl fa fl fh)) := pe_of (pe_slice sl_O ha hl hh) fun s H Q ⟨r, e, a, T, h⟩ => by
  refine tO_mono (tO_bind T h) fun x H1 ⟨r1, v, a1, m1, T1, hv, h1⟩ => ?_
  refine tOo_mono (tOo_bind T1 h1) fun l H2 ⟨r2, a2, m2, T2, h2⟩ => ?_
  refine tOo_mono (tOo_bind T2 h2) fun u H3 ⟨r3, a3, m3, T3, h3⟩ => ?_
  cases q : slO v l u a3 with
  | none => rw [q] at h3; exact h3.elim
  | some p =>
    rw [q] at h3
    exact ⟨r3, v, a3, p.1, p.2, T3.sr, (hv.mo m2).mo m3, q, h3⟩
/-- a built-in by name -/
theorem v_cb {x : Str} {p : Pos} {id : String} {f : List PV → AH → Option (PV × AH)} (hc : CallR X (.builtin id) (rC X.K f)) (hm : X.mg x = none) (hv : bootBuiltins x = some (.builtin id)) (ha : PA X (e :: es) (tOs X.K W fs)) (hg : Gl X x := by rfl)
    (hn : x ≠ "__name__" := by decide) (hd : (x == ("__debug__" : Str)) = false := by decide) (he : starEach (e :: es) X.env = (false, eval e X.env) :: starEach es X.env := by rfl) (hpl : (backTo pos (starEach es X.env)).any (·.1) = false := by rfl) :
    PE X (.Call (.Name x p) (e :: es) [] pos) (tO X.K W (eCB f fs)) := pe_of (pe_callB hc hg hm hv ha hn hd he hpl) fun s H Q ⟨r, e, a, T, h⟩ => by
  refine tOs_mono (tOs_bind T h) fun xs H1 ⟨r1, vs, a1, m1, T1, hvs, h1⟩ => ?_
  cases q : f vs a1 with
  | none => rw [q] at h1; exact h1.elim
  | some p => rw [q] at h1; exact ⟨r1, vs, a1, p.1, p.2, T1.sr, hvs, q, h1⟩
theorem v_ct {x : Str} {p : Pos} {ty : String} {f : List PV → AH → Option (PV × AH)} (hc : CallR X (.type ty) (rC X.K f)) (hm : X.mg x = none) (hv : bootBuiltins x = some (.type ty)) (ha : PA X (e :: es) (tOs X.K W fs)) (hg : Gl X x := by rfl)
    (hn : x ≠ "__name__" := by decide) (hd : (x == ("__debug__" : Str)) = false := by decide) (he : starEach (e :: es) X.env = (false, eval e X.env) :: starEach es X.env := by rfl) (hpl : (backTo pos (starEach es X.env)).any (·.1) = false := by rfl) :
    PE X (.Call (.Name x p) (e :: es) [] pos) (tO X.K W (eCB f fs)) := pe_of (pe_callTy hc hg hm hv ha hn hd he hpl) fun s H Q ⟨r, e, a, T, h⟩ => by
  refine tOs_mono (tOs_bind T h) fun xs H1 ⟨r1, vs, a1, m1, T1, hvs, h1⟩ => ?_
  cases q : f vs a1 with
  | none => rw [q] at h1; exact h1.elim
  | some p => rw [q] at h1; exact ⟨r1, vs, a1, p.1, p.2, T1.sr, hvs, q, h1⟩
/-- what a def that computes F promises -/
def spF (K : PySem.W.Frag) (F : FN) : Sp := fun xs H Q E => ∃ r vs a, SR K r a H ∧ VRs K r a.n H vs xs ∧ Fin K E r a.n H (relV K) Q (F vs a)
/-- f(e, ..) -/
theorem v_call {x : Str} {p : Pos} {k : Nat} {f : Addr} {fd : FuncData} {ps : List Str} {F : FN} (hF : FnOk X.prog X.w X.K X.mg X.base (L2.CX X.prog X.w) k f fd ps (spF X.K F)) (hr : Room k X.A) (tk : Takes X W) (hm : X.mg x = some (.ref f)) (hk : PySem.W.keepIn X.K (.ref f) = true) (hb : Binds X.K fd ps [])
    (ha : PA X (e :: es) (tOs X.K W fs)) (hg : Gl X x := by rfl) (hdb : (x == ("__debug__" : Str)) = false := by decide) (he : starEach (e :: es) X.env = (false, eval e X.env) :: starEach es X.env := by rfl) (hpl : (backTo pos (starEach es X.env)).any (·.1) = false := by rfl) :
    PE X (.Call (.Name x p) (e :: es) [] pos) (tO X.K W (eCall F fs)) := pe_of (pe_callS hF hr hg hm hk hb (passAt tk) ha hdb he hpl) fun s H Q ⟨r, e, a, T, h⟩ => by
  refine tOs_mono (tOs_bind T h) fun xs H1 ⟨r1, vs, a1, m1, T1, hvs, h1⟩ => ?_
  exact ⟨r1, vs, a1, T1.sr, hvs, h1⟩
end
end VI
end
section
set_option maxRecDepth 100000
set_option maxHeartbeats 4000000
/-! Statements by plain values. -/
namespace VI
open PySem PySem.Spec PyProof.Rows L2

/-- how a statement ends: with the slots, with a value, with an exception, or unknown -/
inductive RS where
  | nx (e : Env) (a : AH) | rt (v : PV) (a : AH) | bk (e : Env) (a : AH) | ct (e : Env) (a : AH) | er (c : Str) (fs : List (Str × PV)) (e : Env) (a : AH) | no
abbrev GS := Env → AH → RS
/-- what is wanted of it -/
def FinS (K : PySem.W.Frag) (W : WX) (D : Ends) (r : Nat → Addr) (n : Nat) (H : Hp) : RS → Prop
  | .nx e a => ∀ r' s' H', Mo K r n H r' a.n H' → ST K r' e a s' H' → D.nx s' H'
  | .bk e a => ∀ r' s' H', Mo K r n H r' a.n H' → ST K r' e a s' H' → D.bk s' H'
  | .ct e a => ∀ r' s' H', Mo K r n H r' a.n H' → ST K r' e a s' H' → D.ct s' H'
  | .rt v a => ∀ r' H' x, Mo K r n H r' a.n H' → SR K r' a H' → VR K r' a.n H' v x → D.rt x H'
  | .er c fs e a => ∀ r' s' H' d, Mo K r n H r' a.n H' → ST K r' e a s' H' → DR K r' a.n H' d fs → W (.ref (He.ga K c)) d s' H'
  | .no => False
def tX (K : PySem.W.Frag) (W : WX) (f : GS) : TS := fun D s H => ∃ r e a, ST K r e a s H ∧ FinS K W D r a.n H (f e a)
theorem FinS.later {K : PySem.W.Frag} {W : WX} {D : Ends} {r r1 : Nat → Addr} {n n1 : Nat} {H H1 : Hp} {o : RS} (m : Mo K r n H r1 n1 H1) (h : FinS K W D r n H o) : FinS K W D r1 n1 H1 o := by
  cases o with
  | nx e a => exact fun r' s' H' m' T => h r' s' H' (m.trans m') T
  | bk e a => exact fun r' s' H' m' T => h r' s' H' (m.trans m') T
  | ct e a => exact fun r' s' H' m' T => h r' s' H' (m.trans m') T
  | rt v a => exact fun r' H' x m' S hx => h r' H' x (m.trans m') S hx
  | er c fs e a => exact fun r' s' H' d m' T hd => h r' s' H' d (m.trans m') T hd
  | no => exact h.elim
/-- an expression, then a statement's end -/
def xB {α : Type} (e : Env) : R α → (α → AH → RS) → RS
  | .ok v a, k => k v a
  | .er c fs a, _ => .er c fs e a
  | .no, _ => .no
/-- a statement, then another -/
def RS.seq : RS → GS → RS
  | .nx e a, k => k e a
  | o, _ => o
section
variable {K : PySem.W.Frag} {W : WX} {D : Ends} {s : L2.St} {H : Hp} {r : Nat → Addr} {e : Env} {a : AH}
theorem xB_bind {f : FE} {g : PV → AH → RS} (T : ST K r e a s H) (h : FinS K W D r a.n H (xB e (f e a) g)) :
    tO K W f s H fun x H1 => ∃ r1 v a1, Mo K r a.n H r1 a1.n H1 ∧ ST K r1 e a1 s H1 ∧ VR K r1 a1.n H1 v x ∧ FinS K W D r1 a1.n H1 (g v a1) := by
  refine ⟨r, e, a, T, ?_⟩
  cases q : f e a with
  | ok v a1 =>
    rw [q] at h
    exact fun r1 H1 x m S hx => ⟨r1, v, a1, m, T.mo m S, hx, FinS.later m h⟩
  | er c fs a1 =>
    rw [q] at h
    have h' : FinS K W D r a.n H (.er c fs e a1) := h
    exact fun r' H' d m S hd => h' r' s H' d m (T.mo m S) hd
  | no =>
    rw [q] at h
    exact h.elim
theorem xB_binds {f : FA} {g : List PV → AH → RS} (T : ST K r e a s H) (h : FinS K W D r a.n H (xB e (f e a) g)) :
    tOs K W f s H fun x H1 => ∃ r1 v a1, Mo K r a.n H r1 a1.n H1 ∧ ST K r1 e a1 s H1 ∧ VRs K r1 a1.n H1 v x ∧ FinS K W D r1 a1.n H1 (g v a1) := by
  refine ⟨r, e, a, T, ?_⟩
  cases q : f e a with
  | ok v a1 =>
    rw [q] at h
    exact fun r1 H1 x m S hx => ⟨r1, v, a1, m, T.mo m S, hx, FinS.later m h⟩
  | er c fs a1 =>
    rw [q] at h
    have h' : FinS K W D r a.n H (.er c fs e a1) := h
    exact fun r' H' d m S hd => h' r' s H' d m (T.mo m S) hd
  | no =>
    rw [q] at h
    exact h.elim
end
/-! ### small ones -/
def sNil : GS := fun e a => .nx e a
def sSeq (f g : GS) : GS := fun e a => (f e a).seq g
def sDrop (f : FE) : GS := fun e a => xB e (f e a) fun _ a1 => .nx e a1
def sRet (f : FE) : GS := fun e a => xB e (f e a) fun v a1 => .rt v a1
def sRetN : GS := fun _ a => .rt .non a
def sBrk : GS := fun e a => .bk e a
def sCnt : GS := fun e a => .ct e a
def sIf (ft : FE) (f g : GS) : GS := fun e a => xB e (ft e a) fun v a1 => match v with
  | .bl true => f e a1
  | .bl false => g e a1
  | _ => .no
/-- slot i is v -/
def put : Env → Nat → PV → Env
  | [], _, _ => []
  | _ :: e, 0, v => some v :: e
  | o :: e, i + 1, v => o :: put e i v
theorem put_is : ∀ (e : Env) (i : Nat) (v : PV), put e i v = e.set i (some v)
  | [], _, _ => by simp [put]
  | _ :: _, 0, _ => rfl
  | _ :: e, i + 1, v => by rw [put, put_is e i v] <;> rfl
def sSet (i : Nat) (f : FE) : GS := fun e a => xB e (f e a) fun v a1 => .nx (put e i v) a1
theorem ST.set {K : PySem.W.Frag} {r : Nat → Addr} {e : Env} {a : AH} {s : L2.St} {H : Hp} (T : ST K r e a s H) (i : Nat) {v : PV} {x : V} (hv : VR K r a.n H v x) : ST K r (put e i v) a (s.set i (some x)) H := by
  rw [put_is]
  exact ⟨T.sr, T.er.set i T.ln hv, by rw [List.length_set, List.length_set]; exact T.ln⟩
/-- a, b = x, y -/
def sPar (i j : Nat) (f : FA) : GS := fun e a => xB e (f e a) fun vs a1 => match vs with
  | [v, w] => .nx (put (put e i v) j w) a1
  | _ => .no
def sPar3 (i j k : Nat) (f : FA) : GS := fun e a => xB e (f e a) fun vs a1 => match vs with
  | [v, w, u] => .nx (put (put (put e i v) j w) k u) a1
  | _ => .no
section
variable {X : Cx} {W : WX} {fa fb ft : FE} {fs : FA} {f g : GS} {ex c : Expr} {st : Stmt} {sts p q : List Stmt} {pos : Pos}
theorem sx_nil : PSs X [] (tX X.K W sNil) := pss_of pss_nil fun D s H ⟨r, e, a, T, h⟩ => by
  have h2 : FinS X.K W D r a.n H (.nx e a) := h
  exact h2 r s H .refl T
/-- the ends behind the first of two -/
theorem FinS.seq {K : PySem.W.Frag} {D : Ends} {r : Nat → Addr} {n : Nat} {H : Hp} {o : RS} (h : FinS K W D r n H (o.seq g)) : FinS K W { D with nx := fun s H => tX K W g D s H } r n H o := by
  cases o with
  | nx e a => exact fun r' s' H' m T => ⟨r', e, a, T, FinS.later m (show FinS K W D r n H (g e a) from h)⟩
  | bk e a => exact h
  | ct e a => exact h
  | rt v a => exact h
  | er c fs e a => exact h
  | no => exact h
theorem sx_cons (h1 : PS X st (tX X.K W f)) (h2 : PSs X sts (tX X.K W g)) : PSs X (st :: sts) (tX X.K W (sSeq f g)) := pss_of (pss_cons h1 h2) fun D s H ⟨r, e, a, T, h⟩ => ⟨r, e, a, T, h.seq⟩
theorem sx_one (h1 : PS X st (tX X.K W f)) : PSs X [st] (tX X.K W f) := pss_one h1
theorem sx_drop (he : PE X ex (tO X.K W fa)) (hs : swapsWith ex none pos.line X.env = pure false := by rfl) : PS X (.Expr ex pos) (tX X.K W (sDrop fa)) := ps_of (ps_expr he hs) fun D s H ⟨r, e, a, T, h⟩ => by
  refine tO_mono (xB_bind T h) fun x H1 ⟨r1, v, a1, m1, T1, hv, h1⟩ => ?_
  have h2 : FinS X.K W D r1 a1.n H1 (.nx e a1) := h1
  exact h2 r1 s H1 .refl T1
theorem sx_doc {x : Str} {j : Nat} {pos' : Pos} : PS X (.Expr (.Constant (.str x) j pos) pos') (tX X.K W sNil) := ps_of ps_doc fun D s H ⟨r, e, a, T, h⟩ => by
  have h2 : FinS X.K W D r a.n H (.nx e a) := h
  exact h2 r s H .refl T
theorem sx_pass : PS X (.Pass pos) (tX X.K W sNil) := ps_of ps_pass fun D s H ⟨r, e, a, T, h⟩ => by
  have h2 : FinS X.K W D r a.n H (.nx e a) := h
  exact h2 r s H .refl T
theorem sx_brk : PS X (.Break pos) (tX X.K W sBrk) := ps_of ps_break fun D s H ⟨r, e, a, T, h⟩ => by
  have h2 : FinS X.K W D r a.n H (.bk e a) := h
  exact h2 r s H .refl T
theorem sx_cnt : PS X (.Continue pos) (tX X.K W sCnt) := ps_of ps_continue fun D s H ⟨r, e, a, T, h⟩ => by
  have h2 : FinS X.K W D r a.n H (.ct e a) := h
  exact h2 r s H .refl T
theorem sx_ret (he : PE X ex (tO X.K W fa)) : PS X (.Return (some ex) pos) (tX X.K W (sRet fa)) := ps_of (ps_ret he) fun D s H ⟨r, e, a, T, h⟩ => by
  refine tO_mono (xB_bind T h) fun x H1 ⟨r1, v, a1, m1, T1, hv, h1⟩ => ?_
  have h2 : FinS X.K W D r1 a1.n H1 (.rt v a1) := h1
  exact h2 r1 H1 x .refl T1.sr hv
theorem sx_retN : PS X (.Return none pos) (tX X.K W sRetN) := ps_of ps_retN fun D s H ⟨r, e, a, T, h⟩ => by
  have h2 : FinS X.K W D r a.n H (.rt .non a) := h
  exact h2 r H .non .refl T.sr .non
theorem sx_if (hc : PT X c (tB (tO X.K W ft))) (ha : PSs X p (tX X.K W f)) (hb : PSs X q (tX X.K W g)) : PS X (.If c p q pos) (tX X.K W (sIf ft f g)) := ps_of (ps_if hc ha hb) fun D s H ⟨r, e, a, T, h⟩ => by
  refine tO_mono (xB_bind T h) fun x H1 ⟨r1, v, a1, m1, T1, hv, h1⟩ => ?_
  cases hv with
  | bl b =>
    refine ⟨b, rfl, ?_⟩
    cases b with
    | true => rw [if_pos rfl]; exact ⟨r1, e, a1, T1, h1⟩
    | false => rw [if_neg Bool.false_ne_true]; exact ⟨r1, e, a1, T1, h1⟩
  | _ => exact h1.elim
theorem sx_set (i : Nat) {x : Str} {pos' : Pos} (hN : X.N.Nodup) (he : PE X ex (tO X.K W fa)) (hi : X.N[i]? = some x := by rfl) (hx : Loc X.env.scope x := by first | exact Or.inl rfl | exact Or.inr rfl) (hs : swapsWith ex (some (.Name x pos')) pos.line X.env = pure false := by rfl)
    (hf : X.fn x = true ∨ X.env.scope.names.lookup x = some .local := by first | exact .inl rfl | exact .inr rfl | assumption) : PS X (.Assign [.Name x pos'] ex pos) (tX X.K W (sSet i fa)) := ps_of (ps_set hN hi hx he hs hf) fun D s H ⟨r, e, a, T, h⟩ => by
  refine tO_mono (xB_bind T h) fun x H1 ⟨r1, v, a1, m1, T1, hv, h1⟩ => ?_
  have h2 : FinS X.K W D r1 a1.n H1 (.nx (put e i v) a1) := h1
  exact h2 r1 _ H1 .refl (T1.set i hv)
theorem sx_par (i j : Nat) {x y : Str} {a b : Expr} {px py pt pt2 : Pos} {kt k2 : Nat} (hc : X.calm = true) (hN : X.N.Nodup) (ha : PA X [a, b] (tOs X.K W fs)) (hi : X.N[i]? = some x := by rfl) (hj : X.N[j]? = some y := by rfl) (hij : i ≠ j := by decide)
    (hx : X.env.scope.names.lookup x = some .local := by rfl) (hy : X.env.scope.names.lookup y = some .local := by rfl)
    (hw : swappedStores [.Tuple [.Name x px, .Name y py] kt pt] (.Tuple [a, b] k2 pt2) X.env = pure (some [x, y]) := by rfl)
    (hs : swapsWithSole [.Tuple [.Name x px, .Name y py] kt pt] (.Tuple [a, b] k2 pt2) pos.line X.env = pure false := by rfl) :
    PS X (.Assign [.Tuple [.Name x px, .Name y py] kt pt] (.Tuple [a, b] k2 pt2) pos) (tX X.K W (sPar i j fs)) := ps_of (ps_par hc hN hi hj hij hx hy ha hw hs) fun D s H ⟨r, e, a, T, h⟩ => by
  refine tOs_mono (xB_binds T h) fun x H1 ⟨r1, v, a1, m1, T1, hv, h1⟩ => ?_
  cases hv with
  | nil => exact h1.elim
  | cons h1' t1 =>
    cases t1 with
    | nil => exact h1.elim
    | cons h2' t2 =>
      cases t2 with
      | cons _ _ => exact h1.elim
      | nil =>
        refine ⟨_, _, rfl, ?_⟩
        have h2 : FinS X.K W D r1 a1.n H1 (.nx (put (put e i _) j _) a1) := h1
        exact h2 r1 _ H1 .refl ((T1.set i h1').set j h2')
theorem sx_par3 (i j l : Nat) {x y z : Str} {a b c : Expr} {px py pz pt pt2 : Pos} {kt k2 : Nat} (hc : X.calm = true) (hN : X.N.Nodup) (ha : PA X [a, b, c] (tOs X.K W fs)) (hi : X.N[i]? = some x := by rfl) (hj : X.N[j]? = some y := by rfl) (hl : X.N[l]? = some z := by rfl) (hij : i ≠ j := by decide) (hil : i ≠ l := by decide) (hjl : j ≠ l := by decide)
    (hx : X.env.scope.names.lookup x = some .local := by rfl) (hy : X.env.scope.names.lookup y = some .local := by rfl) (hz : X.env.scope.names.lookup z = some .local := by rfl)
    (hw : swappedStores [.Tuple [.Name x px, .Name y py, .Name z pz] kt pt] (.Tuple [a, b, c] k2 pt2) X.env = pure (some [x, y, z]) := by rfl)
    (hs : swapsWithSole [.Tuple [.Name x px, .Name y py, .Name z pz] kt pt] (.Tuple [a, b, c] k2 pt2) pos.line X.env = pure false := by rfl) :
    PS X (.Assign [.Tuple [.Name x px, .Name y py, .Name z pz] kt pt] (.Tuple [a, b, c] k2 pt2) pos) (tX X.K W (sPar3 i j l fs)) := ps_of (ps_par3 hc hN hi hj hl hij hil hjl hx hy hz ha hw hs) fun D s H ⟨r, e, a, T, h⟩ => by
  refine tOs_mono (xB_binds T h) fun x H1 ⟨r1, v, a1, m1, T1, hv, h1⟩ => ?_
  cases hv with
  | nil => exact h1.elim
  | cons h1' t1 =>
    cases t1 with
    | nil => exact h1.elim
    | cons h2' t2 =>
      cases t2 with
      | nil => exact h1.elim
      | cons h3' t3 =>
        cases t3 with
        | cons _ _ => exact h1.elim
        | nil =>
          refine ⟨_, _, _, rfl, ?_⟩
          have h2 : FinS X.K W D r1 a1.n H1 (.nx (put (put (put e i _) j _) l _) a1) := h1
          exact h2 r1 _ H1 .refl (((T1.set i h1').set j h2').set l h3')
end
/-! ### targets -/
abbrev GT := PV → Env → AH → RS
/-- a target's ends: only the next -/
abbrev gD (Q : L2.St → Hp → Prop) : Ends := ⟨Q, fun _ _ => False, fun _ _ => False, fun _ _ => False⟩
/-- v stands for x; w: or x is a pair whose object nobody knows, to be taken apart at once -/
def Vx (w : Bool) (K : PySem.W.Frag) (r : Nat → Addr) (n : Nat) (H : Hp) (v : PV) (x : V) : Prop := VR K r n H v x ∨ (w = true ∧ ∃ l b xs, v = .tup l ∧ x = .ref b ∧ SqT K H b xs ∧ VRs K r n H l xs)
def tG (K : PySem.W.Frag) (W : WX) (w : Bool) (g : GT) : TG := fun x s H Q => ∃ r e a v, ST K r e a s H ∧ Vx w K r a.n H v x ∧ FinS K W (gD Q) r a.n H (g v e a)
theorem Vx.vr {K : PySem.W.Frag} {r : Nat → Addr} {n : Nat} {H : Hp} {v : PV} {x : V} (h : Vx false K r n H v x) : VR K r n H v x := by
  rcases h with h | ⟨h, _⟩
  · exact h
  · cases h
def tGs (K : PySem.W.Frag) (W : WX) (g : List PV → Env → AH → RS) : TGs := fun xs s H Q => ∃ r e a vs, ST K r e a s H ∧ VRs K r a.n H vs xs ∧ FinS K W (gD Q) r a.n H (g vs e a)
def gNm (i : Nat) : GT := fun v e a => .nx (put e i v) a
abbrev GTs := List PV → Env → AH → RS
def gNo : GTs := fun vs e a => match vs with
  | [] => .nx e a
  | _ => .no
def gCo (g : GT) (k : GTs) : GTs := fun vs e a => match vs with
  | v :: l => (g v e a).seq (k l)
  | [] => .no
def gTu (n : Nat) (k : GTs) : GT := fun v e a => match v with
  | .tup l => match Nat.beq l.length n with
    | true => k l e a
    | false => .no
  | _ => .no
theorem pg_of {X : Cx} {t : Expr} {g g' : TG} (h : PG X t g) (k : ∀ v s H Q, g' v s H Q → g v s H Q) : PG X t g' := ⟨fun pins s σ H v u Q I r q => h.run pins s σ H v u Q I r (k _ _ _ _ q)⟩
theorem pgs_of {X : Cx} {t : List Expr} {g g' : TGs} (h : PGs X t g) (k : ∀ v s H Q, g' v s H Q → g v s H Q) : PGs X t g' := ⟨fun pins s σ H v u Q I r q => h.run pins s σ H v u Q I r (k _ _ _ _ q)⟩
/-- only the next is wanted of a target -/
def noEnd : RS → Prop
  | .nx _ _ => True
  | .er _ _ _ _ => True
  | _ => False
section
variable {X : Cx} {W : WX} {fa fb ft : FE} {fs : FA} {f : GS} {g : GT} {k : GTs} {ex c tg : Expr} {tgs : List Expr} {pos : Pos}
theorem g_nm (i : Nat) {x : Str} (hN : X.N.Nodup) (hi : X.N[i]? = some x := by rfl) (hx : Loc X.env.scope x := by first | exact Or.inl rfl | exact Or.inr rfl) (hf : X.fn x = true ∨ X.env.scope.names.lookup x = some .local := by first | exact .inl rfl | exact .inr rfl | assumption) :
    PG X (.Name x pos) (tG X.K W false (gNm i)) := pg_of (pg_name hN hi hx hf) fun x s H Q ⟨r, e, a, v, T, hv, h⟩ => by
  have h2 : FinS X.K W (gD Q) r a.n H (.nx (put e i v) a) := h
  exact h2 r _ H .refl (T.set i hv.vr)
theorem g_nil : PGs X [] (tGs X.K W gNo) := pgs_of pgs_nil fun x s H Q ⟨r, e, a, vs, T, hv, h⟩ => by
  cases hv with
  | nil =>
    have h2 : FinS X.K W (gD Q) r a.n H (.nx e a) := h
    exact ⟨rfl, h2 r _ H .refl T⟩
  | cons _ _ => exact h.elim
theorem FinS.tgt {K : PySem.W.Frag} {Q Q' : L2.St → Hp → Prop} {r : Nat → Addr} {n : Nat} {H : Hp} {o : RS} {k : GS} (h : FinS K W (gD Q) r n H (o.seq k)) (q : ∀ e a r' s' H', o = .nx e a → Mo K r n H r' a.n H' → ST K r' e a s' H' → FinS K W (gD Q) r' a.n H' (k e a) → Q' s' H') : FinS K W (gD Q') r n H o := by
  cases o with
  | nx e a => exact fun r' s' H' m T => q e a r' s' H' rfl m T (FinS.later m (show FinS K W (gD Q) r n H (k e a) from h))
  | bk e a =>
    have h2 : FinS K W (gD Q) r n H (.bk e a) := h
    exact h2
  | ct e a =>
    have h2 : FinS K W (gD Q) r n H (.ct e a) := h
    exact h2
  | rt v a =>
    have h2 : FinS K W (gD Q) r n H (.rt v a) := h
    exact h2
  | er c fs e a => exact h
  | no => exact h.elim
theorem g_cons (h1 : PG X tg (tG X.K W false g)) (h2 : PGs X tgs (tGs X.K W k)) (hs : (assignEach (tg :: tgs) X.env).map (·.2) = assign tg X.env :: (assignEach tgs X.env).map (·.2) := by rfl) : PGs X (tg :: tgs) (tGs X.K W (gCo g k)) :=
  pgs_of (pgs_cons h1 h2 hs) fun x s H Q ⟨r, e, a, vs, T, hv, h⟩ => by
  cases hv with
  | nil => exact h.elim
  | cons hv hvs =>
    rename_i v l x xs
    refine ⟨_, _, rfl, r, e, a, _, T, .inl hv, ?_⟩
    exact FinS.tgt (k := k _) h fun e1 a1 r1 s1 H1 _ m1 T1 h1 => ⟨r1, e1, a1, _, T1, hvs.mo m1, h1⟩
theorem g_tup {w : Bool} {n j : Nat} (hc : X.calm = true) (h : PGs X tgs (tGs X.K W k)) (hn : (assignEach tgs X.env).length = n := by rfl) (hst : (assignEach tgs X.env).findIdx? (·.1) = none := by rfl) : PG X (.Tuple tgs j pos) (tG X.K W w (gTu n k)) :=
  pg_of (pg_tup hc h hn hst) fun x s H Q ⟨r, e, a, v, T, hv, h⟩ => by
  have go : ∀ l b xs, v = .tup l → x = .ref b → SqT X.K H b xs → VRs X.K r a.n H l xs → gTup X.K n (tGs X.K W k) x s H Q := by
    intro l b xs e1 e2 hq hs
    subst e1 e2
    have h' : FinS X.K W (gD Q) r a.n H (match Nat.beq l.length n with | true => k l e a | false => .no) := h
    rw [Tr.beq_nat] at h'
    by_cases hl : l.length = n
    · rw [decide_eq_true hl] at h'
      exact ⟨_, _, rfl, hq, by rw [← hs.length]; exact hl, r, e, a, l, T, hs, h'⟩
    · rw [decide_eq_false hl] at h'
      exact h'.elim
  rcases hv with hv | ⟨_, l, b, xs, e1, e2, hq, hs⟩
  · cases hv with
    | tup ht hs => exact go _ _ _ rfl rfl ht.sq hs
    | _ => exact h.elim
  · exact go _ _ _ e1 e2 hq hs
/-- only the next is left of a target -/
def RS.only : RS → RS
  | .nx e a => .nx e a
  | .er c fs e a => .er c fs e a
  | _ => .no
theorem FinS.only {K : PySem.W.Frag} {D : Ends} {r : Nat → Addr} {n : Nat} {H : Hp} {o : RS} (h : FinS K W D r n H o.only) : FinS K W (gD D.nx) r n H o := by
  cases o with
  | nx e a => exact h
  | er c fs e a => exact h
  | no => exact h.elim
  | _ => exact h.elim
/-- target = value -/
def sAsg (f : FE) (g : GT) : GS := fun e a => xB e (f e a) fun v a1 => (g v e a1).only
theorem sx_asg (he : PE X ex (tO X.K W fa)) (hg : PG X tg (tG X.K W false g)) (hs : swapsWithSole [tg] ex pos.line X.env = pure false := by rfl) (hw : swappedStores [tg] ex X.env = pure none := by rfl)
    (h1 : (assignEach [tg] X.env).map (·.2) = [assign tg X.env] := by rfl) : PS X (.Assign [tg] ex pos) (tX X.K W (sAsg fa g)) := ps_of (ps_asg he hg hs hw h1) fun D s H ⟨r, e, a, T, h⟩ => by
  refine tO_mono (xB_bind T h) fun x H1 ⟨r1, v, a1, m1, T1, hv, h1⟩ => ?_
  exact ⟨r1, e, a1, v, T1, .inl hv, h1.only⟩
/-! ### while -/
/-- f: turns at most -/
def whl (c : FE) (body : GS) : Nat → GS
  | 0 => fun _ _ => .no
  | f + 1 => fun e a => xB e (c e a) fun v a1 => match v with
    | .bl true => match body e a1 with
      | .nx e2 a2 => whl c body f e2 a2
      | .ct e2 a2 => whl c body f e2 a2
      | .bk e2 a2 => .nx e2 a2
      | o => o
    | .bl false => .nx e a1
    | _ => .no
def sWhl (fu : Env → AH → Nat) (c : FE) (body : GS) : GS := fun e a => whl c body (fu e a) e a
theorem sx_while (fu : Env → AH → Nat) {body : List Stmt} {c : Expr} (hp : PassesOwn (model X.prog X.w) X.A X.env X.xe) (hc : PT X c (tB (tO X.K W ft))) (hb : PSs X body (tX X.K W f)) : PS X (.While c body [] pos) (tX X.K W (sWhl fu ft f)) := ps_of (ps_while hp hc hb) fun D s H ⟨r, e, a, T, h⟩ => by
  refine ⟨fun m s H => ∃ r e a, ST X.K r e a s H ∧ FinS X.K W D r a.n H (whl ft f m e a), ⟨_, r, e, a, T, h⟩, ?_⟩
  rintro m s H ⟨r, e, a, T, h⟩
  cases m with
  | zero => exact h.elim
  | succ m =>
    refine tO_mono (xB_bind T h) fun x H1 ⟨r1, v, a1, m1, T1, hv, h1⟩ => ?_
    cases hv with
    | bl b =>
      refine ⟨b, rfl, ?_⟩
      cases b with
      | false =>
        rw [if_neg Bool.false_ne_true]
        have h2 : FinS X.K W D r1 a1.n H1 (.nx e a1) := h1
        exact h2 r1 s H1 .refl T1
      | true =>
        rw [if_pos rfl]
        refine ⟨_, fun s' H' z => ⟨m, Nat.lt_succ_self m, z⟩, r1, e, a1, T1, ?_⟩
        have h2 : FinS X.K W D r1 a1.n H1 (match f e a1 with | .nx e2 a2 => whl ft f m e2 a2 | .ct e2 a2 => whl ft f m e2 a2 | .bk e2 a2 => .nx e2 a2 | o => o) := h1
        cases q : f e a1 with
        | nx e2 a2 => rw [q] at h2; exact fun r' s' H' m' T' => ⟨r', e2, a2, T', FinS.later m' h2⟩
        | ct e2 a2 => rw [q] at h2; exact fun r' s' H' m' T' => ⟨r', e2, a2, T', FinS.later m' h2⟩
        | bk e2 a2 => rw [q] at h2; exact h2
        | rt v2 a2 => rw [q] at h2; exact h2
        | er c2 fs2 e2 a2 => rw [q] at h2; exact h2
        | no => rw [q] at h2; exact h2
    | _ => exact h1.elim
/-! ### for -/
/-- what a loop walks: values; a list of the heap, from a place on; numbers; pairs -/
inductive PIt where
  | seq (l : List PV) | hl (i k : Nat) | rg (lo : Int) (n : Nat)
  | en (k : Int) (l : List PV) | enh (i k : Nat) | zp (l m : List PV) | zh (i j k : Nat) | kv (l : List (Key × PV)) | pr (l : List (PV × PV))
def atN : List PV → Nat → Option PV
  | [], _ => none
  | v :: _, 0 => some v
  | _ :: l, k + 1 => atN l k
theorem atN_is : ∀ (l : List PV) (k : Nat), atN l k = l[k]?
  | [], _ => by simp [atN]
  | _ :: _, 0 => rfl
  | _ :: l, k + 1 => by rw [atN, atN_is l k]; simp
/-- the next turn: it stops, or gives a value -/
def nxt (p : PIt) (a : AH) : Option (Option (PV × PIt)) := match p with
  | .seq l => match l with
    | [] => some none
    | v :: l => some (some (v, .seq l))
  | .hl i k => match a.get i with
    | some (.lst l) => match atN l k with
      | some v => some (some (v, .hl i (k + 1)))
      | none => some none
    | _ => none
  | .rg lo n => match n with
    | 0 => some none
    | n + 1 => some (some (.int lo, .rg (lo + 1) n))
  | .en k l => match l with
    | [] => some none
    | v :: l => some (some (.tup [.int k, v], .en (k + 1) l))
  | .enh i k => match a.get i with
    | some (.lst l) => match atN l k with
      | some v => some (some (.tup [.int k, v], .enh i (k + 1)))
      | none => some none
    | _ => none
  | .zp l m => match l with
    | [] => some none
    | v :: l => match m with
      | [] => some none
      | w :: m => some (some (.tup [v, w], .zp l m))
  | .pr l => match l with
    | [] => some none
    | (v, w) :: l => some (some (.tup [v, w], .pr l))
  | _ => none
/-- J walks what p tells, by P -/
structure Wk (K : PySem.W.Frag) (w : Bool) (J : It) (P : Nat → PIt → (Nat → Addr) → Nat → Hp → Prop) : Prop where
  mo : ∀ {i p r n H r' n' H'}, Mo K r n H r' n' H' → P i p r n H → P i p r' n' H'
  stop : ∀ {i p r a H}, SR K r a H → P i p r a.n H → nxt p a = some none → J.stop i H
  go : ∀ {i p r a H v p'}, SR K r a H → P i p r a.n H → nxt p a = some (some (v, p')) → J.go i H ∧ ∀ x H', J.yld i H x H' → ∃ r', Mo K r a.n H r' a.n H' ∧ SR K r' a H' ∧ Vx w K r' a.n H' v x ∧ P (i + 1) p' r' a.n H'
def relI (K : PySem.W.Frag) (w : Bool) : (Nat → Addr) → Nat → Hp → PIt → It → Prop := fun r n H p J => ∃ P, Wk K w J P ∧ P 0 p r n H
abbrev FI := Env → AH → R PIt
def tI (K : PySem.W.Frag) (W : WX) (w : Bool) (f : FI) : TI := fun s H R => ∃ r e a, ST K r e a s H ∧ Fin K (fun c d H' => W c d s H') r a.n H (relI K w) R (f e a)
theorem tI_mono {K : PySem.W.Frag} {W : WX} {w : Bool} {f : FI} {s : L2.St} {H : Hp} {Q Q' : It → Hp → Prop} (h : tI K W w f s H Q) (q : ∀ x H', Q x H' → Q' x H') : tI K W w f s H Q' := let ⟨r, e, a, T, h⟩ := h; ⟨r, e, a, T, h.mono q⟩
theorem xB_bindI {K : PySem.W.Frag} {W : WX} {w : Bool} {D : Ends} {s : L2.St} {H : Hp} {r : Nat → Addr} {e : Env} {a : AH} {f : FI} {g : PIt → AH → RS} (T : ST K r e a s H) (h : FinS K W D r a.n H (xB e (f e a) g)) :
    tI K W w f s H fun x H1 => ∃ r1 v a1, Mo K r a.n H r1 a1.n H1 ∧ ST K r1 e a1 s H1 ∧ relI K w r1 a1.n H1 v x ∧ FinS K W D r1 a1.n H1 (g v a1) := by
  refine ⟨r, e, a, T, ?_⟩
  cases q : f e a with
  | ok v a1 =>
    rw [q] at h
    exact fun r1 H1 x m S hx => ⟨r1, v, a1, m, T.mo m S, hx, FinS.later m h⟩
  | er c fs a1 =>
    rw [q] at h
    have h' : FinS K W D r a.n H (.er c fs e a1) := h
    exact fun r' H' d m S hd => h' r' s H' d m (T.mo m S) hd
  | no =>
    rw [q] at h
    exact h.elim
/-- f: turns at most -/
def forL (g : GT) (body : GS) : Nat → PIt → GS
  | 0, _ => fun _ _ => .no
  | f + 1, p => fun e a => match nxt p a with
    | none => .no
    | some none => .nx e a
    | some (some (v, p')) => ((g v e a).only).seq fun e1 a1 => match body e1 a1 with
      | .nx e2 a2 => forL g body f p' e2 a2
      | .ct e2 a2 => forL g body f p' e2 a2
      | .bk e2 a2 => .nx e2 a2
      | o => o
def lenO : Option AO → Nat
  | some (.lst l) => l.length
  | _ => 0
def turns (a : AH) : PIt → Nat
  | .seq l => l.length + 1
  | .hl i _ => lenO (a.get i) + 1
  | .rg _ n => n + 1
  | .en _ l => l.length + 1
  | .enh i _ => lenO (a.get i) + 1
  | .zp l _ => l.length + 1
  | .pr l => l.length + 1
  | _ => 0
def sFor (fi : FI) (g : GT) (body : GS) : GS := fun e a => xB e (fi e a) fun p a1 => forL g body (turns a1 p) p e a1
theorem sx_for {w : Bool} {iter : Expr} {body : List Stmt} {fi : FI} (hp : PassesOwn (model X.prog X.w) X.A X.env X.xe) (hc : X.calm = true) (hi : PI X tg iter (tI X.K W w fi)) (hg : PG X tg (tG X.K W w g)) (hb : PSs X body (tX X.K W f))
    (hs : ∀ x, foldedSetIterable iter X.env x = pure x := by intro _; rfl) : PS X (.For tg iter body [] pos) (tX X.K W (sFor fi g f)) := ps_of (ps_for hp hc hi hg hb hs) fun D s H ⟨r, e, a, T, h⟩ => by
  refine tI_mono (xB_bindI T h) fun J H1 ⟨r1, p, a1, m1, T1, ⟨P, hw, hP⟩, h1⟩ => ?_
  refine ⟨fun i m s H => ∃ r e a p, ST X.K r e a s H ∧ P i p r a.n H ∧ FinS X.K W D r a.n H (forL g f m p e a), ⟨_, r1, e, a1, p, T1, hP, h1⟩, ?_⟩
  rintro i m s H ⟨r, e, a, p, T, hP, h⟩
  cases m with
  | zero => exact h.elim
  | succ m =>
    cases q : nxt p a with
    | none => unfold forL at h; rw [q] at h; exact h.elim
    | some o =>
      cases o with
      | none =>
        unfold forL at h; rw [q] at h
        have h2 : FinS X.K W D r a.n H (.nx e a) := h
        exact .inl ⟨hw.stop T.sr hP q, h2 r s H .refl T⟩
      | some o =>
        obtain ⟨v, p'⟩ := o
        unfold forL at h; rw [q] at h
        obtain ⟨hgo, hy⟩ := hw.go T.sr hP q
        refine .inr ⟨hgo, _, fun s' H' z => ⟨m, Nat.lt_succ_self m, z⟩, fun x H' y => ?_⟩
        obtain ⟨r2, m2, S2, hx, hP2⟩ := hy x H' y
        have h2 : FinS X.K W D r a.n H (((g v e a).only).seq fun e1 a1 => match f e1 a1 with | .nx e2 a2 => forL g f m p' e2 a2 | .ct e2 a2 => forL g f m p' e2 a2 | .bk e2 a2 => .nx e2 a2 | o => o) := h
        refine ⟨r2, e, a, v, T.mo m2 S2, hx, ?_⟩
        have h3 := FinS.later m2 h2
        cases q1 : g v e a with
        | no => rw [q1] at h3; exact h3.elim
        | er c fs e1 a1 => rw [q1] at h3; exact h3
        | nx e1 a1 =>
          rw [q1] at h3
          intro r3 s3 H3 m3 T3
          refine ⟨r3, e1, a1, T3, ?_⟩
          have h4 : FinS X.K W D r2 a.n H' (match f e1 a1 with | .nx e2 a2 => forL g f m p' e2 a2 | .ct e2 a2 => forL g f m p' e2 a2 | .bk e2 a2 => .nx e2 a2 | o => o) := h3
          have h5 := FinS.later m3 h4
          have hP3 := hw.mo m3 hP2
          cases q2 : f e1 a1 with
          | nx e2 a2 => rw [q2] at h5; exact fun r' s' H' m' T' => ⟨r', e2, a2, p', T', hw.mo m' hP3, FinS.later m' h5⟩
          | ct e2 a2 => rw [q2] at h5; exact fun r' s' H' m' T' => ⟨r', e2, a2, p', T', hw.mo m' hP3, FinS.later m' h5⟩
          | bk e2 a2 => rw [q2] at h5; exact h5
          | rt v2 a2 => rw [q2] at h5; exact h5
          | er c2 fs2 e2 a2 => rw [q2] at h5; exact h5
          | no => rw [q2] at h5; exact h5
        | _ => rw [q1] at h3; exact h3.elim
end
end VI
end
section
set_option maxRecDepth 100000
set_option maxHeartbeats 4000000
/-! What loops walk, by plain values. -/
namespace VI
open PySem PySem.Spec PyProof.Rows L2

theorem VRs.uncons {K : PySem.W.Frag} {r : Nat → Addr} {n : Nat} {H : Hp} {v : PV} {l : List PV} {ys : List V} (h : VRs K r n H (v :: l) ys) : ∃ x xs, ys = x :: xs ∧ VR K r n H v x ∧ VRs K r n H l xs := by
  cases h with
  | cons hv hs => exact ⟨_, _, rfl, hv, hs⟩
theorem drop_cons {α : Type} : ∀ {xs : List α} {i : Nat} {x : α} {rest : List α}, xs.drop i = x :: rest → xs[i]? = some x ∧ xs.drop (i + 1) = rest
  | [], i, x, rest, h => by simp at h
  | y :: xs, 0, x, rest, h => by simp at h; obtain ⟨rfl, rfl⟩ := h; simp
  | y :: xs, i + 1, x, rest, h => by
    have h' : xs.drop i = x :: rest := by simpa using h
    obtain ⟨a, b⟩ := drop_cons h'
    exact ⟨by simpa using a, by simpa using b⟩
theorem drop_nil {α : Type} {xs : List α} {i : Nat} (h : xs.drop i = []) : xs.length ≤ i := by simpa using h
section
variable {K : PySem.W.Frag}
theorem SqT.inj1 {H : Hp} {b : Addr} {xs ys : List V} (h : Tp H b xs) (g : Tp H b ys) : xs = ys := by
  obtain ⟨o, e, _⟩ := h
  obtain ⟨o', e', _⟩ := g
  rw [e] at e'
  cases e'
  rfl
/-- a tuple -/
def PSeqT (b : Addr) : Nat → PIt → (Nat → Addr) → Nat → Hp → Prop := fun i p r n H => ∃ l xs, p = .seq l ∧ Tp H b xs ∧ VRs K r n H l (xs.drop i)
theorem wk_seqT {w : Bool} (b : Addr) : Wk K w (Itt K b) (PSeqT (K := K) b) where
  mo := fun m ⟨l, xs, e, ht, hs⟩ => ⟨l, xs, e, m.tup ht, hs.mo m⟩
  stop := fun {i p r a H} S ⟨l, xs, e, ht, hs⟩ q => by
    subst e
    cases l with
    | nil =>
      have z := hs.length
      exact ⟨xs, ht.sq, by simp at z; omega⟩
    | cons v l => cases q
  go := fun {i p r a H v p'} S ⟨l, xs, e, ht, hs⟩ q => by
    subst e
    cases l with
    | nil => cases q
    | cons v0 l =>
      cases q
      obtain ⟨x, rest, e, hv, hs'⟩ := hs.uncons
      obtain ⟨e1, e2⟩ := drop_cons e
      refine ⟨⟨xs, x, ht.sq, e1⟩, fun y H' ⟨eH, hy⟩ => ?_⟩
      subst eH
      have := hy xs ht.sq
      rw [e1] at this
      cases this
      exact ⟨r, .refl, S, .inl hv, l, xs, rfl, ht, by rw [e2]; exact hs'⟩
/-- a list that nobody writes -/
def PSeqL (b : Addr) : Nat → PIt → (Nat → Addr) → Nat → Hp → Prop := fun i p r n H => ∃ l xs, p = .seq l ∧ Lk K H b xs ∧ VRs K r n H l (xs.drop i)
theorem wk_seqL {w : Bool} (b : Addr) : Wk K w (Itl K b) (PSeqL (K := K) b) where
  mo := fun m ⟨l, xs, e, ht, hs⟩ => ⟨l, xs, e, m.rol ht, hs.mo m⟩
  stop := fun {i p r a H} S ⟨l, xs, e, ht, hs⟩ q => by
    subst e
    cases l with
    | nil =>
      have z := hs.length
      exact ⟨xs, ht.sq, by simp at z; omega⟩
    | cons v l => cases q
  go := fun {i p r a H v p'} S ⟨l, xs, e, ht, hs⟩ q => by
    subst e
    cases l with
    | nil => cases q
    | cons v0 l =>
      cases q
      obtain ⟨x, rest, e, hv, hs'⟩ := hs.uncons
      obtain ⟨e1, e2⟩ := drop_cons e
      refine ⟨⟨xs, x, ht.sq, e1⟩, fun y H' ⟨eH, hy⟩ => ?_⟩
      subst eH
      have := hy xs ht.sq
      rw [e1] at this
      cases this
      exact ⟨r, .refl, S, .inl hv, l, xs, rfl, ht, by rw [e2]; exact hs'⟩
/-- a list of the heap -/
def PHl (b : Addr) : Nat → PIt → (Nat → Addr) → Nat → Hp → Prop := fun i p r n H => ∃ j, j < n ∧ p = .hl j i ∧ b = r j
theorem wk_hl {w : Bool} (b : Addr) : Wk K w (Itl K b) (PHl b) where
  mo := fun m ⟨j, hj, e, hb⟩ => ⟨j, Nat.lt_of_lt_of_le hj m.le, e, hb.trans (m.at_ j hj).symm⟩
  stop := fun {i p r a H} S ⟨j, hj, e, hb⟩ q => by
    subst e hb
    have q' : (match a.get j with | some (.lst l) => (match atN l i with | some v => some (some (v, PIt.hl j (i + 1))) | none => some none) | _ => none) = some none := q
    split at q'
    · rename_i l e1
      split at q'
      · cases q'
      · rename_i e2
        obtain ⟨xs, hx, rx⟩ := S.lst e1
        rw [atN_is] at e2
        have z := rx.length
        exact ⟨xs, SqL.of hx, by have := List.getElem?_eq_none_iff.mp e2; omega⟩
    · cases q'
  go := fun {i p r a H v p'} S ⟨j, hj, e, hb⟩ q => by
    subst e hb
    have q' : (match a.get j with | some (.lst l) => (match atN l i with | some v => some (some (v, PIt.hl j (i + 1))) | none => some none) | _ => none) = some (some (v, p')) := q
    split at q'
    · rename_i l e1
      split at q'
      · rename_i v0 e2
        cases q'
        obtain ⟨xs, hx, rx⟩ := S.lst e1
        rw [atN_is] at e2
        obtain ⟨x, e3, hv⟩ := rx.get e2
        refine ⟨⟨xs, x, SqL.of hx, e3⟩, fun y H' ⟨eH, hy⟩ => ?_⟩
        subst eH
        have := hy xs (SqL.of hx)
        rw [e3] at this
        cases this
        exact ⟨r, .refl, S, .inl hv, j, hj, rfl, rfl⟩
      · cases q'
    · cases q'
/-- numbers -/
def PRg (lo : Int) (k : Nat) : Nat → PIt → (Nat → Addr) → Nat → Hp → Prop := fun i p r n H => ∃ m, p = .rg (lo + i) m ∧ i + m = k
theorem wk_rg {w : Bool} (lo : Int) (k : Nat) : Wk K w (Itr lo k) (PRg lo k) where
  mo := fun m ⟨j, e, hb⟩ => ⟨j, e, hb⟩
  stop := fun {i p r a H} S ⟨j, e, hb⟩ q => by
    subst e
    cases j with
    | zero => show k ≤ i; omega
    | succ j => cases q
  go := fun {i p r a H v p'} S ⟨j, e, hb⟩ q => by
    subst e
    cases j with
    | zero => cases q
    | succ j =>
      cases q
      refine ⟨(show i < k by omega), fun y H' ⟨eH, hy⟩ => ?_⟩
      subst eH hy
      refine ⟨r, .refl, S, .inl (.int _), j, ?_, by omega⟩
      have : lo + (i : Int) + 1 = lo + ((i + 1 : Nat) : Int) := by omega
      rw [this]
/-- a list of the heap, numbered -/
theorem wk_enh (b : Addr) : Wk K true (Ite K b) (fun i p r n H => ∃ j, j < n ∧ p = .enh j i ∧ b = r j) where
  mo := fun m ⟨j, hj, e, hb⟩ => ⟨j, Nat.lt_of_lt_of_le hj m.le, e, hb.trans (m.at_ j hj).symm⟩
  stop := fun {i p r a H} S ⟨j, hj, e, hb⟩ q => by
    subst e hb
    have q' : (match a.get j with | some (.lst l) => (match atN l i with | some v => some (some (PV.tup [.int i, v], PIt.enh j (i + 1))) | none => some none) | _ => none) = some none := q
    split at q'
    · rename_i l e1
      split at q'
      · cases q'
      · rename_i e2
        obtain ⟨xs, hx, rx⟩ := S.lst e1
        rw [atN_is] at e2
        have z := rx.length
        exact ⟨xs, SqL.of hx, by have := List.getElem?_eq_none_iff.mp e2; omega⟩
    · cases q'
  go := fun {i p r a H v p'} S ⟨j, hj, e, hb⟩ q => by
    subst e hb
    have q' : (match a.get j with | some (.lst l) => (match atN l i with | some v => some (some (PV.tup [.int i, v], PIt.enh j (i + 1))) | none => some none) | _ => none) = some (some (v, p')) := q
    split at q'
    · rename_i l e1
      split at q'
      · rename_i v0 e2
        cases q'
        obtain ⟨xs, hx, rx⟩ := S.lst e1
        rw [atN_is] at e2
        obtain ⟨x, e3, hv⟩ := rx.get e2
        refine ⟨⟨xs, x, SqL.of hx, e3⟩, fun y H' ⟨t, x', ey, hn, eH, hy⟩ => ?_⟩
        subst ey eH
        have := hy xs (SqL.of hx)
        rw [e3] at this
        cases this
        have m := mo_up (K := K) (r := r) (n := a.n) hn (.tup [.int (i : Nat), x])
        exact ⟨r, m, S.up hn _, .inr ⟨rfl, _, _, _, rfl, rfl, SqT.of upd_same, .cons (.int _) (.cons (hv.mo m) .nil)⟩, j, hj, rfl, rfl⟩
      · cases q'
    · cases q'
end
def fVal (f : FE) : FI := fun e a => (f e a).bind fun v a1 => match v with
  | .tup l => .ok (.seq l) a1
  | .rol l => .ok (.seq l) a1
  | .ref i => match a1.get i with
    | some (.lst _) => .ok (.hl i 0) a1
    | _ => .no
  | _ => .no
@[irreducible] def smallI (j : Int) : Bool := decide (-(2 ^ 62) ≤ j) && decide (j < 2 ^ 62)
theorem smallI_ok {j : Int} (h : smallI j = true) : -(2 ^ 62) ≤ j ∧ j < 2 ^ 62 := by
  unfold smallI at h
  simpa [Bool.and_eq_true, decide_eq_true_eq] using h
def fRng1 (f : FA) : FI := fun e a => (f e a).bind fun vs a1 => match vs with
  | [.int j] => match smallI j with
    | true => .ok (.rg 0 j.toNat) a1
    | false => .no
  | _ => .no
def fRng2 (f : FA) : FI := fun e a => (f e a).bind fun vs a1 => match vs with
  | [.int i, .int j] => match smallI i && smallI j with
    | true => .ok (.rg i (j - i).toNat) a1
    | false => .no
  | _ => .no
def fEnm (f : FA) : FI := fun e a => (f e a).bind fun vs a1 => match vs with
  | [.ref i] => match a1.get i with
    | some (.lst _) => .ok (.enh i 0) a1
    | _ => .no
  | _ => .no
section
variable {X : Cx} {W : WX} {fa : FE} {fs : FA} {tg ex c : Expr} {pos : Pos} {w : Bool}
/-- a list or a tuple, walked -/
def iVal (K : PySem.W.Frag) (te : TE) : TI := fun σ H R => te σ H fun x H1 => ∃ a xs, x = .ref a ∧ ((SqL K H1 a xs ∧ R (Itl K a) H1) ∨ (SqT K H1 a xs ∧ R (Itt K a) H1))
theorem pi_val {te : TE} (he : PE X ex te) : PI X tg ex (iVal X.K te) := by
  refine ⟨fun pins s σ H R I h => thn (he.run pins s σ H _ I h) fun v s1 ⟨x, H1, I1, r1, a, xs, e, q1⟩ => ?_⟩
  subst e
  cases r1
  have own : ∀ b ∈ [s1.heap.objs.size], FpOk X pins H1 b := fun b hb => by
    rw [List.mem_singleton.mp hb]
    exact I1.fpOk (Nat.le_refl _) (I1.hok.fresh (Nat.le_refl _))
  have kp : ∀ o : Obj, Inv X pins σ H1 { s1 with heap := s1.heap.push o } := fun o =>
    I1.kept (t' := s1.toks) fun _ _ g => Heap.get?_push_of_some _ g
  rcases q1 with ⟨hq, q⟩ | ⟨hq, q⟩
  · obtain ⟨its, _, p, _⟩ := I1.list hq
    exact wpAny_pyIter_list p.isList ⟨_, _, _, _, H1, rfl, kp _, turn_list a _,
      ⟨_, Heap.get?_push_size _ rfl, rfl, rfl⟩, own, q⟩
  · obtain ⟨its, _, p, _⟩ := I1.tuple hq
    exact wpAny_pyIter_tuple (show s1.heap.IsTuple a its.toArray from p) ⟨_, _, _, _, H1, rfl, kp _, turn_tuple a _,
      ⟨_, Heap.get?_push_size _ rfl, rfl, rfl⟩, own, q⟩
theorem vi_val (he : PE X ex (tO X.K W fa)) : PI X tg ex (tI X.K W w (fVal fa)) := ⟨fun pins s σ H R I ⟨r, e, a, T, h⟩ => (pi_val he).run pins s σ H R I (by
  refine tO_mono (tO_bind T h) fun x H1 ⟨r1, v, a1, m1, T1, hv, h1⟩ => ?_
  cases hv with
  | tup ht hs =>
    rename_i l b xs _
    have h2 : Fin X.K (fun c d H' => W c d σ H') r1 a1.n H1 (relI X.K w) R (.ok (.seq l) a1) := h1
    exact ⟨b, xs, rfl, .inr ⟨ht.sq, h2 r1 H1 _ .refl T1.sr ⟨_, wk_seqT b, l, xs, rfl, ht, hs⟩⟩⟩
  | rol ht hs =>
    rename_i l b xs _
    have h2 : Fin X.K (fun c d H' => W c d σ H') r1 a1.n H1 (relI X.K w) R (.ok (.seq l) a1) := h1
    exact ⟨b, xs, rfl, .inl ⟨ht.sq, h2 r1 H1 _ .refl T1.sr ⟨_, wk_seqL b, l, xs, rfl, ht, hs⟩⟩⟩
  | ref hi =>
    rename_i i _
    have h2 : Fin X.K (fun c d H' => W c d σ H') r1 a1.n H1 (relI X.K w) R (match a1.get i with | some (.lst _) => .ok (.hl i 0) a1 | _ => .no) := h1
    split at h2
    · rename_i l e1
      obtain ⟨xs, hx, rx⟩ := T1.sr.lst e1
      exact ⟨r1 i, xs, rfl, .inl ⟨SqL.of hx, h2 r1 H1 _ .refl T1.sr ⟨_, wk_hl (r1 i), i, hi, rfl, rfl⟩⟩⟩
    · exact h2.elim
  | _ => exact h1.elim)⟩
theorem tI_of {wi wi' : TI} (h : PI X tg ex wi) (k : ∀ s H R, wi' s H R → wi s H R) : PI X tg ex wi' := ⟨fun pins s σ H R I q => h.run pins s σ H R I (k _ _ _ q)⟩
theorem vs_one {K : PySem.W.Frag} {r : Nat → Addr} {n : Nat} {H : Hp} {v : PV} {ys : List V} (h : VRs K r n H [v] ys) : ∃ x, ys = [x] ∧ VR K r n H v x := by
  cases h with
  | cons h t => cases t; exact ⟨_, rfl, h⟩
theorem vs_two {K : PySem.W.Frag} {r : Nat → Addr} {n : Nat} {H : Hp} {v w : PV} {ys : List V} (h : VRs K r n H [v, w] ys) : ∃ x y, ys = [x, y] ∧ VR K r n H v x ∧ VR K r n H w y := by
  cases h with
  | cons h t =>
    obtain ⟨y, rfl, g⟩ := vs_one t
    exact ⟨_, _, rfl, h, g⟩
theorem vs_three {K : PySem.W.Frag} {r : Nat → Addr} {n : Nat} {H : Hp} {v w u : PV} {ys : List V} (h : VRs K r n H [v, w, u] ys) : ∃ x y z, ys = [x, y, z] ∧ VR K r n H v x ∧ VR K r n H w y ∧ VR K r n H u z := by
  cases h with
  | cons h t =>
    obtain ⟨y, z, rfl, g, k⟩ := vs_two t
    exact ⟨_, _, _, rfl, h, g, k⟩
theorem vr_int {K : PySem.W.Frag} {r : Nat → Addr} {n : Nat} {H : Hp} {i : Int} {x : V} (h : VR K r n H (.int i) x) : x = .int i := by
  cases h; rfl
theorem vr_str {K : PySem.W.Frag} {r : Nat → Addr} {n : Nat} {H : Hp} {i : Str} {x : V} (h : VR K r n H (.str i) x) : x = .str i := by
  cases h; rfl
theorem vr_ref {K : PySem.W.Frag} {r : Nat → Addr} {n : Nat} {H : Hp} {i : Nat} {x : V} (h : VR K r n H (.ref i) x) : i < n ∧ x = .ref (r i) := by
  cases h with
  | ref h => exact ⟨h, rfl⟩
theorem vi_rng1 {p : Pos} (hm : X.mg "range" = none) (ha : PA X [ex] (tOs X.K W fs)) (hg : Gl X "range" := by rfl) (hs : starEach [ex] X.env = [(false, eval ex X.env)] := by rfl) : PI X tg (.Call (.Name "range" p) [ex] [] pos) (tI X.K W w (fRng1 fs)) :=
  tI_of (pi_range1 hg hm ha hs) fun s H R ⟨r, e, a, T, h⟩ => by
  refine tOs_mono (tOs_bind T h) fun xs H1 ⟨r1, vs, a1, m1, T1, hvs, h1⟩ => ?_
  split at h1
  · rename_i j
    obtain ⟨x, rfl, hx⟩ := vs_one hvs
    cases vr_int hx
    split at h1
    · rename_i e
      have h2 : Fin X.K (fun c d H' => W c d s H') r1 a1.n H1 (relI X.K w) R (.ok (.rg 0 j.toNat) a1) := h1
      exact ⟨j, rfl, (smallI_ok e).1, (smallI_ok e).2, h2 r1 H1 _ .refl T1.sr ⟨_, wk_rg 0 j.toNat, j.toNat, rfl, Nat.zero_add _⟩⟩
    · exact h1.elim
  · exact h1.elim
theorem vi_rng2 {p : Pos} {ey : Expr} (hm : X.mg "range" = none) (ha : PA X [ex, ey] (tOs X.K W fs)) (hg : Gl X "range" := by rfl) (hs : starEach [ex, ey] X.env = [(false, eval ex X.env), (false, eval ey X.env)] := by rfl) (hs2 : starEach [ey] X.env = [(false, eval ey X.env)] := by rfl) :
    PI X tg (.Call (.Name "range" p) [ex, ey] [] pos) (tI X.K W w (fRng2 fs)) := tI_of (pi_range2 hg hm ha hs hs2) fun s H R ⟨r, e, a, T, h⟩ => by
  refine tOs_mono (tOs_bind T h) fun xs H1 ⟨r1, vs, a1, m1, T1, hvs, h1⟩ => ?_
  split at h1
  · rename_i i j
    obtain ⟨x, y, rfl, hx, hy⟩ := vs_two hvs
    cases vr_int hx
    cases vr_int hy
    split at h1
    · rename_i e
      rw [Bool.and_eq_true] at e
      have h2 : Fin X.K (fun c d H' => W c d s H') r1 a1.n H1 (relI X.K w) R (.ok (.rg i (j - i).toNat) a1) := h1
      refine ⟨i, j, rfl, ⟨(smallI_ok e.1).1, (smallI_ok e.1).2, smallI_ok e.2⟩, h2 r1 H1 _ .refl T1.sr ⟨_, wk_rg i (j - i).toNat, (j - i).toNat, ?_, Nat.zero_add _⟩⟩
      rw [Int.ofNat_zero, Int.add_zero]
    · exact h1.elim
  · exact h1.elim
theorem vi_enm {p : Pos} {elts : List Expr} {kk : Nat} {tpos : Pos} (hm : X.mg "enumerate" = none) (ha : PA X [ex] (tOs X.K W fs)) (hg : Gl X "enumerate" := by rfl) (hs : starEach [ex] X.env = [(false, eval ex X.env)] := by rfl) :
    PI X (.Tuple elts kk tpos) (.Call (.Name "enumerate" p) [ex] [] pos) (tI X.K W true (fEnm fs)) := tI_of (pi_enum hg hm ha hs) fun s H R ⟨r, e, a, T, h⟩ => by
  refine tOs_mono (tOs_bind T h) fun xs H1 ⟨r1, vs, a1, m1, T1, hvs, h1⟩ => ?_
  split at h1
  · rename_i i
    obtain ⟨x, rfl, hx⟩ := vs_one hvs
    obtain ⟨hi, rfl⟩ := vr_ref hx
    split at h1
    · rename_i l e1
      obtain ⟨ys, hy, ry⟩ := T1.sr.lst e1
      have h2 : Fin X.K (fun c d H' => W c d s H') r1 a1.n H1 (relI X.K true) R (.ok (.enh i 0) a1) := h1
      exact ⟨_, ys, rfl, SqL.of hy, h2 r1 H1 _ .refl T1.sr ⟨_, wk_enh (r1 i), i, hi, rfl, rfl⟩⟩
    · exact h1.elim
  · exact h1.elim
end
end VI
end
section
set_option maxRecDepth 100000
set_option maxHeartbeats 4000000
/-! Built-in functions by plain values. -/
namespace VI
open PySem PySem.Spec PyProof.Rows L2

theorem call_by {X : Cx} {f : Value} {g : List PV → AH → Option (PV × AH)}
    (h : ∀ (r : Nat → Addr) (vs : List PV) (a : AH) (v' : PV) (a' : AH) (H : Hp) (xs : List V) (Q : VK), SR X.K r a H → VRs X.K r a.n H vs xs → g vs a = some (v', a') → (∀ r' H' x', Mo X.K r a.n H r' a'.n H' → SR X.K r' a' H' → VR X.K r' a'.n H' v' x' → Q x' H') →
      ∃ rr : List V → Hp → VK → Prop, CallR X f rr ∧ rr xs H Q) : CallR X f (rC X.K g) := by
  intro pins s σ H xs us Q I rx q
  obtain ⟨r, vs, a, v', a', S, h1, e, k⟩ := q
  obtain ⟨rr, hc, hr⟩ := h r vs a v' a' H xs Q S h1 e k
  exact hc pins s σ H xs us Q I rx hr
section
variable {X : Cx}
/-! ### len -/
def bLen (vs : List PV) (a : AH) : Option (PV × AH) := match vs with
  | [v] => match v with
    | .tup l => some (.int l.length, a)
    | .rol l => some (.int l.length, a)
    | .str x => if x.length ≤ LIM then some (.int x.length, a) else none
    | .ref i => match a.get i with
      | some (.lst l) => some (.int l.length, a)
      | some (.dct l) => some (.int l.length, a)
      | _ => none
    | _ => none
  | _ => none
theorem c_len : CallR X (.builtin "len") (rC X.K bLen) := by
  refine call_by fun r vs a v' a' H xs Q S h e k => ?_
  unfold bLen at e
  split at e
  · rename_i v
    obtain ⟨x, rfl, hx⟩ := vs_one h
    cases hx with
    | tup ht hs => cases e; exact ⟨_, call_len, _, _, rfl, .inr ⟨_, ht.sq, hs.length⟩, out_v k S (.int _)⟩
    | rol ht hs => cases e; exact ⟨_, call_len, _, _, rfl, .inl ⟨_, ht.sq, hs.length⟩, out_v k S (.int _)⟩
    | str x =>
      have e' : (if x.length ≤ LIM then some (PV.int x.length, a) else none) = some (v', a') := e
      split at e'
      · rename_i hl
        cases e'
        exact ⟨_, call_len, _, _, rfl, ⟨lim_le hl, rfl⟩, out_v k S (.int _)⟩
      · cases e'
    | @ref i hi =>
      have e' : (match a.get i with | some (.lst l) => some (PV.int l.length, a) | some (.dct l) => some (PV.int l.length, a) | _ => none) = some (v', a') := e
      split at e'
      · rename_i l e1
        cases e'
        obtain ⟨ys, hy, ry⟩ := S.lst e1
        exact ⟨_, call_len, _, _, rfl, .inl ⟨ys, SqL.of hy, ry.length⟩, out_v k S (.int _)⟩
      · rename_i l e1
        cases e'
        obtain ⟨ys, hy, ry⟩ := S.dct e1
        have z := out_v k S (.int _)
        rw [ry.length] at z
        exact ⟨_, call_lenD, _, ys, rfl, hy, z⟩
      · cases e'
    | _ => cases e
  · cases e
/-! ### tuple, list -/
/-- a list's items in a new tuple, its object known -/
def rTupF (K : PySem.W.Frag) : List V → Hp → VK → Prop := fun xs H Q => ∃ p ys, xs = [.ref p] ∧ SqL K H p ys ∧ ∀ us l, H l = none → Q (.ref l) (upd H l (hoT us ys))
theorem call_tupF : CallR X (.type "tuple") (rTupF X.K) := by
  intro pins s σ H xs us Q I r ⟨p, ys, e0, hq, q⟩
  subst e0
  obtain ⟨u, rfl, rx⟩ := vals1 r
  cases rx
  obtain ⟨its, rv, pl, hz⟩ := I.list hq
  have hlen := rv.length
  refine call_tuple_list pl.isList (fun h' kp => ?_) (by simp only [List.size_toArray] <;> omega)
  exact laidQ (s := { s with heap := h' }) (I.kept (t' := s.toks) kp) rv hz (q its)
def bTuple (vs : List PV) (a : AH) : Option (PV × AH) := match vs with
  | [v] => match v with
    | .tup l => some (.tup l, a)
    | .rol l => some (.tup l, a)
    | .ref i => match a.get i with
      | some (.lst l) => some (.tup l, a)
      | _ => none
    | _ => none
  | _ => none
theorem c_tuple : CallR X (.type "tuple") (rC X.K bTuple) := by
  refine call_by fun r vs a v' a' H xs Q S h e k => ?_
  unfold bTuple at e
  split at e
  · rename_i v
    obtain ⟨x, rfl, hx⟩ := vs_one h
    cases hx with
    | tup ht hs => cases e; exact ⟨_, call_tupleT, _, _, rfl, ht.sq, out_v k S (.tup ht hs)⟩
    | rol ht hs => cases e; exact ⟨_, call_tupF, _, _, rfl, ht.sq, fun us l hl => out_t k S hs hl⟩
    | @ref i hi =>
      have e' : (match a.get i with | some (.lst l) => some (PV.tup l, a) | _ => none) = some (v', a') := e
      split at e'
      · rename_i l e1
        cases e'
        obtain ⟨ys, hy, ry⟩ := S.lst e1
        exact ⟨_, call_tupF, _, _, rfl, SqL.of hy, fun us l hl => out_t k S ry hl⟩
      · cases e'
    | _ => cases e
  · cases e
def bList (vs : List PV) (a : AH) : Option (PV × AH) := match vs with
  | [v] => match v with
    | .tup l => some (.ref a.n, a.new (.lst l))
    | .rol l => some (.ref a.n, a.new (.lst l))
    | .ref i => match a.get i with
      | some (.lst l) => some (.ref a.n, a.new (.lst l))
      | _ => none
    | _ => none
  | _ => none
theorem c_list : CallR X (.type "list") (rC X.K bList) := by
  refine call_by fun r vs a v' a' H xs Q S h e k => ?_
  unfold bList at e
  split at e
  · rename_i v
    obtain ⟨x, rfl, hx⟩ := vs_one h
    cases hx with
    | tup ht hs => cases e; exact ⟨_, call_list_of, _, _, rfl, .inr ht.sq, fun l hl => out_l k S hs hl⟩
    | rol ht hs => cases e; exact ⟨_, call_list_of, _, _, rfl, .inl ht.sq, fun l hl => out_l k S hs hl⟩
    | @ref i hi =>
      have e' : (match a.get i with | some (.lst l) => some (PV.ref a.n, a.new (.lst l)) | _ => none) = some (v', a') := e
      split at e'
      · rename_i l e1
        cases e'
        obtain ⟨ys, hy, ry⟩ := S.lst e1
        exact ⟨_, call_list_of, _, _, rfl, .inl (SqL.of hy), fun l hl => out_l k S ry hl⟩
      · cases e'
    | _ => cases e
  · cases e
/-! ### int, abs, two ints -/
def bInt (vs : List PV) (a : AH) : Option (PV × AH) := match vs with
  | [v] => match v with
    | .int i => some (.int i, a)
    | .bl b => some (.int (if b then 1 else 0), a)
    | _ => none
  | _ => none
theorem c_int : CallR X (.type "int") (rC X.K bInt) := by
  refine call_by fun r vs a v' a' H xs Q S h e k => ?_
  unfold bInt at e
  split at e
  · rename_i v
    obtain ⟨x, rfl, hx⟩ := vs_one h
    cases hx with
    | int i => cases e; exact ⟨_, call_int1, .inl ⟨_, rfl, out_v k S (.int _)⟩⟩
    | bl b => cases e; exact ⟨_, call_int1, .inr ⟨_, rfl, out_v k S (.int _)⟩⟩
    | _ => cases e
  · cases e
def bAbs (vs : List PV) (a : AH) : Option (PV × AH) := match vs with
  | [v] => match v with
    | .int i => some (.int (if i < 0 then -i else i), a)
    | _ => none
  | _ => none
theorem c_abs : CallR X (.builtin "abs") (rC X.K bAbs) := by
  refine call_by fun r vs a v' a' H xs Q S h e k => ?_
  unfold bAbs at e
  split at e
  · rename_i v
    obtain ⟨x, rfl, hx⟩ := vs_one h
    cases hx with
    | int i => cases e; exact ⟨_, call_abs, _, rfl, out_v k S (.int _)⟩
    | _ => cases e
  · cases e
/-! ### all, any, sum -/
def allBl : List PV → Option (List Bool)
  | [] => some []
  | .bl b :: l => match allBl l with
    | some bs => some (b :: bs)
    | none => none
  | _ => none
theorem allBl_rel {K : PySem.W.Frag} {r : Nat → Addr} {n : Nat} {H : Hp} : ∀ {l : List PV} {xs : List V} {bs : List Bool}, allBl l = some bs → VRs K r n H l xs → xs = bs.map V.bl
  | [], _, _, e, .nil => by cases e; rfl
  | v :: l, _, bs, e, .cons h hs => by
    cases h with
    | bl b =>
      have e' : (match allBl l with | some bs => some (b :: bs) | none => none) = some bs := e
      split at e'
      · rename_i bs' e1
        cases e'
        rw [allBl_rel e1 hs] <;> rfl
      · cases e'
    | _ => cases e
def allInt : List PV → Option (List Int)
  | [] => some []
  | .int b :: l => match allInt l with
    | some bs => some (b :: bs)
    | none => none
  | _ => none
theorem allInt_rel {K : PySem.W.Frag} {r : Nat → Addr} {n : Nat} {H : Hp} : ∀ {l : List PV} {xs : List V} {bs : List Int}, allInt l = some bs → VRs K r n H l xs → xs = bs.map V.int
  | [], _, _, e, .nil => by cases e; rfl
  | v :: l, _, bs, e, .cons h hs => by
    cases h with
    | int b =>
      have e' : (match allInt l with | some bs => some (b :: bs) | none => none) = some bs := e
      split at e'
      · rename_i bs' e1
        cases e'
        rw [allInt_rel e1 hs] <;> rfl
      · cases e'
    | _ => cases e
/-- a list of the heap, alone -/
def oneL (vs : List PV) (a : AH) : Option (List PV) := match vs with
  | [v] => match v with
    | .ref i => match a.get i with
      | some (.lst l) => some l
      | _ => none
    | .rol l => some l
    | _ => none
  | _ => none
theorem oneL_rel {K : PySem.W.Frag} {r : Nat → Addr} {a : AH} {H : Hp} {vs l : List PV} {xs : List V} (S : SR K r a H) (h : VRs K r a.n H vs xs) (e : oneL vs a = some l) : ∃ p ys, xs = [.ref p] ∧ SqL K H p ys ∧ VRs K r a.n H l ys := by
  unfold oneL at e
  split at e
  · rename_i v
    obtain ⟨x, rfl, hx⟩ := vs_one h
    cases hx with
    | @ref i hi =>
      have e' : (match a.get i with | some (.lst l) => some l | _ => none) = some l := e
      split at e'
      · rename_i l e1
        cases e'
        obtain ⟨ys, hy, ry⟩ := S.lst e1
        exact ⟨_, ys, rfl, SqL.of hy, ry⟩
      · cases e'
    | rol ht hs => cases e; exact ⟨_, _, rfl, ht.sq, hs⟩
    | _ => cases e
  · cases e
def bAll (vs : List PV) (a : AH) : Option (PV × AH) := match oneL vs a with
  | some l => match allBl l with
    | some bs => some (.bl (bs.all id), a)
    | none => none
  | none => none
theorem c_all (hc : X.calm = true) : CallR X (.builtin "all") (rC X.K bAll) := by
  refine call_by fun r vs a v' a' H xs Q S h e k => ?_
  unfold bAll at e
  split at e
  · rename_i l e1
    split at e
    · rename_i bs e2
      cases e
      obtain ⟨p, ys, rfl, hq, hs⟩ := oneL_rel S h e1
      have := allBl_rel e2 hs
      subst this
      exact ⟨_, cr_all hc, p, bs, rfl, hq, out_v k S (.bl _)⟩
    · cases e
  · cases e
def bAny (vs : List PV) (a : AH) : Option (PV × AH) := match oneL vs a with
  | some l => match allBl l with
    | some bs => some (.bl (bs.any id), a)
    | none => none
  | none => none
theorem c_any (hc : X.calm = true) : CallR X (.builtin "any") (rC X.K bAny) := by
  refine call_by fun r vs a v' a' H xs Q S h e k => ?_
  unfold bAny at e
  split at e
  · rename_i l e1
    split at e
    · rename_i bs e2
      cases e
      obtain ⟨p, ys, rfl, hq, hs⟩ := oneL_rel S h e1
      have := allBl_rel e2 hs
      subst this
      exact ⟨_, cr_any hc, p, bs, rfl, hq, out_v k S (.bl _)⟩
    · cases e
  · cases e
def bSum (vs : List PV) (a : AH) : Option (PV × AH) := match oneL vs a with
  | some l => match allInt l with
    | some bs => some (.int bs.sum, a)
    | none => none
  | none => none
theorem c_sum (hc : X.calm = true) : CallR X (.builtin "sum") (rC X.K bSum) := by
  refine call_by fun r vs a v' a' H xs Q S h e k => ?_
  unfold bSum at e
  split at e
  · rename_i l e1
    split at e
    · rename_i bs e2
      cases e
      obtain ⟨p, ys, rfl, hq, hs⟩ := oneL_rel S h e1
      have := allInt_rel e2 hs
      subst this
      exact ⟨_, cr_sum hc, p, bs, rfl, hq, out_v k S (.int _)⟩
    · cases e
  · cases e
end
/-! ### data without lists -/
def toP : Nat → PV → Option PyData
  | 0, _ => none
  | f + 1, v => match v with
    | .non => some .none
    | .bl b => some (.bool b)
    | .int i => some (.int i)
    | .str x => some (.str x)
    | .tup l => (mapO (toP f) l).map .tuple
    | _ => none
def ofD : Nat → PyData → PV
  | 0, _ => .non
  | f + 1, d => match d with
    | .none => .non
    | .bool b => .bl b
    | .int i => .int i
    | .str x => .str x
    | .tuple l => .tup (l.map (ofD f))
    | _ => .non
theorem mapO_back {α β : Type} {f : α → Option β} {g : β → α} (h : ∀ x y, f x = some y → g y = x) : ∀ (l : List α) (m : List β), mapO f l = some m → m.map g = l
  | [], _, e => by cases e; rfl
  | x :: l, _, e => by
    obtain ⟨y, m, e1, e2, rfl⟩ := mapO_cons e
    rw [List.map_cons, h _ _ e1, mapO_back h l m e2]
theorem toP_ofD : ∀ (f : Nat) (v : PV) (d : PyData), toP f v = some d → ofD f d = v
  | 0, _, _, e => by cases e
  | f + 1, v, d, e => by
    cases v with
    | non => cases e; rfl
    | bl b => cases e; rfl
    | int b => cases e; rfl
    | str b => cases e; rfl
    | tup l =>
      have e' : (mapO (toP f) l).map PyData.tuple = some d := e
      obtain ⟨ds, e1, rfl⟩ := Option.map_eq_some_iff.mp e'
      have := mapO_back (toP_ofD f) l ds e1
      show PV.tup (ds.map (ofD f)) = _
      rw [this]
    | _ => cases e
theorem mapO_imp {α β : Type} {f g : α → Option β} (h : ∀ x y, f x = some y → g x = some y) : ∀ (l : List α) (m : List β), mapO f l = some m → mapO g l = some m
  | [], _, e => e
  | x :: l, _, e => by
    obtain ⟨y, m, e1, e2, rfl⟩ := mapO_cons e
    unfold mapO
    rw [h _ _ e1, mapO_imp h l m e2]
theorem toP_toD (a : AH) : ∀ (f : Nat) (v : PV) (d : PyData), toP f v = some d → toD a f v = some d
  | 0, _, _, e => by cases e
  | f + 1, v, d, e => by
    cases v with
    | tup l =>
      have e' : (mapO (toP f) l).map PyData.tuple = some d := e
      obtain ⟨ds, e1, rfl⟩ := Option.map_eq_some_iff.mp e'
      have := mapO_imp (toP_toD a f) l ds e1
      show (mapO (toD a f) l).map PyData.tuple = _
      rw [this] <;> rfl
    | non => exact e
    | bl b => exact e
    | int b => exact e
    | str b => exact e
    | ref i => cases e
    | rol l => cases e
    | exc _ _ _ => cases e
theorem mapO_get {α β : Type} {f : α → Option β} : ∀ {l : List α} {m : List β}, mapO f l = some m → ∀ (i : Nat) (x : α), l[i]? = some x → ∃ y, m[i]? = some y ∧ f x = some y
  | [], _, _, i, x, h => by simp at h
  | x :: l, _, e, 0, y, h => by
    obtain ⟨z, m, e1, e2, rfl⟩ := mapO_cons e
    simp at h
    subst h
    exact ⟨z, rfl, e1⟩
  | x :: l, _, e, i + 1, y, h => by
    obtain ⟨z, m, e1, e2, rfl⟩ := mapO_cons e
    obtain ⟨w, h1, h2⟩ := mapO_get e2 i y (by simpa using h)
    exact ⟨w, by simpa using h1, h2⟩
theorem mapO_len {α β : Type} {f : α → Option β} : ∀ {l : List α} {m : List β}, mapO f l = some m → m.length = l.length
  | [], _, e => by cases e; rfl
  | x :: l, _, e => by
    obtain ⟨z, m, e1, e2, rfl⟩ := mapO_cons e
    rw [List.length_cons, List.length_cons, mapO_len e2]
end VI
end
section
set_option maxRecDepth 100000
set_option maxHeartbeats 4000000
/-! min, max, sorted, repr of data. -/
namespace VI
open PySem PySem.Spec PyProof.Rows L2 PySem.W

section
variable {prog : Program} {w : World} {A : Around} {E : Value → Shared → Prop} {s : Shared}
/-- min(a, b) of data -/
theorem min2_data {a b : Value} {x y : PyData} {as : List Addr} {Q : Value → Shared → Prop} (hh : A.handled = none) (hr : ReadsAll s.heap [a, b] [x, y] as) (ha : AlikeAll [x, y]) (hu : A.units + 1 + PyData.depthAll [x, y] < cLine)
    (h : ∀ (i : Nat) v h' tk bs, [a, b][i]? = some v → Reads h' v (minD x [y]) bs → (∀ c o, s.heap.get? c = some o → h'.get? c = some o) → Q v { s with heap := h', toks := tk }) :
    wpAny (model prog w) A (call (.builtin "min") [a, b]) Q E s := by
  have nm : (toString "min" ++ toString ".loop" : String) = "min.loop" := by decide
  refine call_function_tree F.kind_min F.plain_min F.entry_min
    (F.args_min2 a b) ?_
  refine wpAny_bind (wpAny_of_eq (a := [none, none]) rfl ?_)
  refine wpAny_bind (m := newTuple [a, b]) (wpAny_newObj_type ?_)
  obtain ⟨s1, hs1⟩ : ∃ s1 : Shared, s1 = { s with heap := s.heap.push { cls := .type "tuple", data := .seq [a, b].toArray } } := ⟨_, rfl⟩
  have k1 : ∀ c o, s.heap.get? c = some o → s1.heap.get? c = some o := fun c o e => by rw [hs1]; exact Heap.get?_push_of_some _ e
  have hl : s1.heap.IsTuple s.heap.objs.size [a, b].toArray := by rw [hs1]; exact ⟨_, Heap.get?_push_size _ rfl, rfl, _, rfl⟩
  have hr1 : ReadsAll s1.heap [a, b].toArray.toList [x, y] as := PyProof.Rows.ReadsAll.keeps k1 hr
  rw [← hs1]
  refine wpAny_bind (iter_tupleW (A := A.in1) hh hl fun s2 e W st hfp hw hk => ?_)
  refine wpAny_bind (wpAny_newObj_type ?_)
  rw [nm]
  have fresh : s2.heap.objs.size ∉ [s1.heap.objs.size, s.heap.objs.size] :=
    fun hm => Nat.lt_irrefl _ (hfp _ hm)
  refine wpAny_pure ⟨plainId_quiet F.plain_min_loop _, ?_⟩
  refine codeAny_min_loop_firstH W s1.heap hw _
    (cmpIn_lt (A := A.in1) hr1 ha (by show A.units + 1 + _ < _; exact hu))
    s2.heap.objs.size fresh (fresh_in hk) _ (by show 0 < [a, b].toArray.size; exact Nat.zero_lt_succ _)
    (fun c o g => Heap.get?_push_of_some _ (hk c o g))
    (W.frame 0 s2 _ s2.toks st (Nat.le_refl _) fun c _ o g => Heap.get?_push_of_some _ g)
    (Heap.get?_push_size _ rfl) fun v s' hP hm => ?_
  have m := Moved.drop_new (tk := s2.toks) hm (Nat.le_refl _)
  obtain ⟨h', tk, rfl, hk'⟩ := moved_old e rfl m
  obtain ⟨bs, r, _, _, _⟩ := readsAll_atA hr1 _ v hP
  have e2 := (argBest_fold dataLt PyData.none x [y] 1 (Nat.le_refl _)).2
  have e3 : Q v { s with heap := h', toks := tk } := h _ v h' tk bs (by rw [List.getElem?_toArray] at hP; exact hP) (by
    refine reads_keeps hk' ?_
    unfold minD
    rw [show List.take 1 [y] = [y] from rfl] at e2
    rw [← e2]
    exact r) fun c o g => hk' c o (k1 c o g)
  rw [hs1]
  exact e3
theorem max2_data {a b : Value} {x y : PyData} {as : List Addr} {Q : Value → Shared → Prop} (hh : A.handled = none) (hr : ReadsAll s.heap [a, b] [x, y] as) (ha : AlikeAll [x, y]) (hu : A.units + 1 + PyData.depthAll [x, y] < cLine)
    (h : ∀ (i : Nat) v h' tk bs, [a, b][i]? = some v → Reads h' v (maxD x [y]) bs → (∀ c o, s.heap.get? c = some o → h'.get? c = some o) → Q v { s with heap := h', toks := tk }) :
    wpAny (model prog w) A (call (.builtin "max") [a, b]) Q E s := by
  have nm : (toString "max" ++ toString ".loop" : String) = "max.loop" := by decide
  refine call_function_tree F.kind_max F.plain_max F.entry_max
    (F.args_max2 a b) ?_
  refine wpAny_bind (wpAny_of_eq (a := [none, none]) rfl ?_)
  refine wpAny_bind (m := newTuple [a, b]) (wpAny_newObj_type ?_)
  obtain ⟨s1, hs1⟩ : ∃ s1 : Shared, s1 = { s with heap := s.heap.push { cls := .type "tuple", data := .seq [a, b].toArray } } := ⟨_, rfl⟩
  have k1 : ∀ c o, s.heap.get? c = some o → s1.heap.get? c = some o := fun c o e => by rw [hs1]; exact Heap.get?_push_of_some _ e
  have hl : s1.heap.IsTuple s.heap.objs.size [a, b].toArray := by rw [hs1]; exact ⟨_, Heap.get?_push_size _ rfl, rfl, _, rfl⟩
  have hr1 : ReadsAll s1.heap [a, b].toArray.toList [x, y] as := PyProof.Rows.ReadsAll.keeps k1 hr
  rw [← hs1]
  refine wpAny_bind (iter_tupleW (A := A.in1) hh hl fun s2 e W st hfp hw hk => ?_)
  refine wpAny_bind (wpAny_newObj_type ?_)
  rw [nm]
  have fresh : s2.heap.objs.size ∉ [s1.heap.objs.size, s.heap.objs.size] :=
    fun hm => Nat.lt_irrefl _ (hfp _ hm)
  refine wpAny_pure ⟨plainId_quiet F.plain_max_loop _, ?_⟩
  refine codeAny_max_loop_firstH W s1.heap hw _
    (cmpIn_gt (A := A.in1) hr1 ha (by show A.units + 1 + _ < _; exact hu))
    s2.heap.objs.size fresh (fresh_in hk) _ (by show 0 < [a, b].toArray.size; exact Nat.zero_lt_succ _)
    (fun c o g => Heap.get?_push_of_some _ (hk c o g))
    (W.frame 0 s2 _ s2.toks st (Nat.le_refl _) fun c _ o g => Heap.get?_push_of_some _ g)
    (Heap.get?_push_size _ rfl) fun v s' hP hm => ?_
  have m := Moved.drop_new (tk := s2.toks) hm (Nat.le_refl _)
  obtain ⟨h', tk, rfl, hk'⟩ := moved_old e rfl m
  obtain ⟨bs, r, _, _, _⟩ := readsAll_atA hr1 _ v hP
  have e2 := (argBest_fold (fun p q => dataLt q p) PyData.none x [y] 1 (Nat.le_refl _)).2
  have e3 : Q v { s with heap := h', toks := tk } := h _ v h' tk bs (by rw [List.getElem?_toArray] at hP; exact hP) (by
    refine reads_keeps hk' ?_
    unfold maxD
    rw [show List.take 1 [y] = [y] from rfl] at e2
    rw [← e2]
    exact r) fun c o g => hk' c o (k1 c o g)
  rw [hs1]
  exact e3
end
/-! ### by values -/
def isNo : PyData → Bool
  | .none => true
  | _ => false
def alikeL (ds : List PyData) : Bool := (ds.all fun x => ds.all fun y => alike x y) && ds.all fun x => !isNo x
theorem alikeL_ok {ds : List PyData} (h : alikeL ds = true) : AlikeAll ds := by
  unfold alikeL at h
  rw [Bool.and_eq_true, List.all_eq_true, List.all_eq_true] at h
  refine ⟨fun x hx y hy => (List.all_eq_true.mp (h.1 x hx)) y hy, fun x hx e => ?_⟩
  have := h.2 x hx
  rw [e] at this
  cases this
theorem depthAll_le {n : Nat} : ∀ {ds : List PyData}, (∀ d, d ∈ ds → d.depth ≤ n) → PyData.depthAll ds ≤ n
  | [], _ => Nat.zero_le _
  | d :: ds, h => by
    rw [PyData.depthAll]
    exact Nat.max_le.mpr ⟨h d List.mem_cons_self, depthAll_le fun e he => h e (List.mem_cons_of_mem _ he)⟩
/-- the best of some -/
def pick (m : PyData → List PyData → PyData) (l : List PV) : Option PV := match mapO (toP DEP) l with
  | some (d :: ds) => match alikeL (d :: ds) with
    | true => some (ofD DEP (m d ds))
    | false => none
  | _ => none
section
variable {X : Cx} {pins : List (Addr × Obj)} {σ : L2.St} {H : Hp} {s : Shared}
theorem toP_all {r : Nat → Addr} {a : AH} {l : List PV} {ds : List PyData} {xs : List V} (S : SR X.K r a H) (e : mapO (toP DEP) l = some ds) (hs : VRs X.K r a.n H l xs) : DpAll X.K H xs ds ∧ PyData.plainAll ds = true ∧ PyData.depthAll ds ≤ DEP := dps_of (fun v x d e1 hv => toD_dp S _ v x d (toP_toD a _ v d e1) hv) l xs ds e hs
/-- what came is the item that the plain side knows -/
theorem pick_ok {r : Nat → Addr} {a : AH} {l : List PV} {ds : List PyData} {xs : List V} {us : List Value} {i : Nat} {v : Value} {m : PyData} {h' : Heap} {bs : List Addr} (I : Inv X pins σ H s) (S : SR X.K r a H) (e : mapO (toP DEP) l = some ds) (hs : VRs X.K r a.n H l xs) (rv : Vals xs us)
    (hv : us[i]? = some v) (hr : Reads h' v m bs) (k : ∀ c o, s.heap.get? c = some o → h'.get? c = some o) : ∃ y, VR X.K r a.n H (ofD DEP m) y ∧ RelV y v := by
  have hlen := hs.length
  have hlen2 := rv.length
  have hi : i < us.length := by
    rcases Nat.lt_or_ge i us.length with h | h
    · exact h
    · rw [List.getElem?_eq_none h] at hv; cases hv
  have hl : i < l.length := by omega
  obtain ⟨d, hd1, hd2⟩ := mapO_get e i l[i] (by simp [hl])
  obtain ⟨y, hy1, hy2⟩ := hs.get (i := i) (v := l[i]) (by simp [hl])
  obtain ⟨u, hu1, hu2⟩ := rv.get hy1
  rw [hv] at hu1
  cases hu1
  obtain ⟨p1, _, _⟩ := toD_dp S _ _ _ _ (toP_toD a _ _ _ hd2) hy2
  obtain ⟨as, q⟩ := Dp.reads I d y v p1 hu2
  obtain ⟨ed, _⟩ := PyProof.Rows.reads_det (fun c o g _ => k c o g) q hr
  rw [ed, toP_ofD _ _ _ hd2]
  exact ⟨y, hy2, hu2⟩
end
/-- a list or a tuple, alone -/
def oneS (vs : List PV) (a : AH) : Option (List PV) := match vs with
  | [v] => match v with
    | .ref i => match a.get i with
      | some (.lst l) => some l
      | _ => none
    | .rol l => some l
    | .tup l => some l
    | _ => none
  | _ => none
theorem oneS_rel {K : PySem.W.Frag} {r : Nat → Addr} {a : AH} {H : Hp} {vs l : List PV} {xs : List V} (S : SR K r a H) (h : VRs K r a.n H vs xs) (e : oneS vs a = some l) : ∃ p ys, xs = [.ref p] ∧ (SqL K H p ys ∨ SqT K H p ys) ∧ VRs K r a.n H l ys := by
  unfold oneS at e
  split at e
  · rename_i v
    obtain ⟨x, rfl, hx⟩ := vs_one h
    cases hx with
    | @ref i hi =>
      have e' : (match a.get i with | some (.lst l) => some l | _ => none) = some l := e
      split at e'
      · rename_i l e1
        cases e'
        obtain ⟨ys, hy, ry⟩ := S.lst e1
        exact ⟨_, ys, rfl, .inl (SqL.of hy), ry⟩
      · cases e'
    | rol ht hs => cases e; exact ⟨_, _, rfl, .inl ht.sq, hs⟩
    | tup ht hs => cases e; exact ⟨_, _, rfl, .inr ht.sq, hs⟩
    | _ => cases e
  · cases e
/-- min: of a list or a tuple; of two -/
def bMin (vs : List PV) (a : AH) : Option (PV × AH) := match vs with
  | [v, u] => match v, u with
    | .int i, .int j => some (.int (if j < i then j else i), a)
    | _, _ => match pick minD [v, u] with
      | some x => some (x, a)
      | none => none
  | _ => match oneS vs a with
    | some l => match pick minD l with
      | some x => some (x, a)
      | none => none
    | none => none
def bMax (vs : List PV) (a : AH) : Option (PV × AH) := match vs with
  | [v, u] => match v, u with
    | .int i, .int j => some (.int (if j > i then j else i), a)
    | _, _ => match pick maxD [v, u] with
      | some x => some (x, a)
      | none => none
  | _ => match oneS vs a with
    | some l => match pick maxD l with
      | some x => some (x, a)
      | none => none
    | none => none
theorem pick_is {m : PyData → List PyData → PyData} {l : List PV} {x : PV} (h : pick m l = some x) : ∃ d ds, mapO (toP DEP) l = some (d :: ds) ∧ alikeL (d :: ds) = true ∧ x = ofD DEP (m d ds) := by
  unfold pick at h
  split at h
  · rename_i d ds e
    split at h
    · rename_i e2
      cases h
      exact ⟨d, ds, e, e2, rfl⟩
    · cases h
  · cases h
section
variable {X : Cx}
def rP2 (K : PySem.W.Frag) (m : PyData → List PyData → PyData) : List V → Hp → VK → Prop := fun xs H Q => ∃ r a v u x y d e, SR K r a H ∧ xs = [x, y] ∧ VRs K r a.n H [v, u] xs ∧ mapO (toP DEP) [v, u] = some [d, e] ∧ alikeL [d, e] = true ∧ ∀ z, VR K r a.n H (ofD DEP (m d [e])) z → Q z H
def rP1 (K : PySem.W.Frag) (m : PyData → List PyData → PyData) : List V → Hp → VK → Prop := fun xs H Q => ∃ r a p l ys d ds, SR K r a H ∧ xs = [.ref p] ∧ (SqL K H p ys ∨ SqT K H p ys) ∧ VRs K r a.n H l ys ∧ mapO (toP DEP) l = some (d :: ds) ∧ alikeL (d :: ds) = true ∧ ∀ z, VR K r a.n H (ofD DEP (m d ds)) z → Q z H
theorem room_d {n : Nat} (hu : X.A.units + 64 < cLine) (h : n ≤ DEP) : X.A.units + 1 + n < cLine := by
  have : n ≤ 20 := h
  omega
theorem c_min2 (hc : X.calm = true) (hu : X.A.units + 64 < cLine) : CallR X (.builtin "min") (rP2 X.K minD) := by
  intro pins s σ H xs us Q I rx ⟨r, a, v, u, x, y, d, e, S, e0, hs, e1, e2, q⟩
  subst e0
  obtain ⟨u1, u2, rfl, r1, r2⟩ := vals2 rx
  obtain ⟨p1, _, p3⟩ := toP_all S e1 hs
  obtain ⟨as, hr⟩ := Dp.readsAll I _ _ _ p1 rx
  refine min2_data (I.ok.hd hc) hr (alikeL_ok e2) (room_d hu p3) fun i v h' tk bs hv hr' k => ?_
  obtain ⟨z, hz, rz⟩ := pick_ok I S e1 hs rx hv hr' k
  exact ⟨z, H, I.kept k, rz, q z hz⟩
theorem c_max2 (hc : X.calm = true) (hu : X.A.units + 64 < cLine) : CallR X (.builtin "max") (rP2 X.K maxD) := by
  intro pins s σ H xs us Q I rx ⟨r, a, v, u, x, y, d, e, S, e0, hs, e1, e2, q⟩
  subst e0
  obtain ⟨u1, u2, rfl, r1, r2⟩ := vals2 rx
  obtain ⟨p1, _, p3⟩ := toP_all S e1 hs
  obtain ⟨as, hr⟩ := Dp.readsAll I _ _ _ p1 rx
  refine max2_data (I.ok.hd hc) hr (alikeL_ok e2) (room_d hu p3) fun i v h' tk bs hv hr' k => ?_
  obtain ⟨z, hz, rz⟩ := pick_ok I S e1 hs rx hv hr' k
  exact ⟨z, H, I.kept k, rz, q z hz⟩
theorem c_min1 (hc : X.calm = true) (hu : X.A.units + 64 < cLine) : CallR X (.builtin "min") (rP1 X.K minD) := by
  intro pins s σ H xs us Q I rx ⟨r, a, p, l, ys, d, ds, S, e0, hq, hs, e1, e2, q⟩
  subst e0
  rw [Vals.ref1 rx]
  obtain ⟨p1, _, p3⟩ := toP_all S e1 hs
  rcases hq with hq | hq
  · obtain ⟨its, rv, hl, _⟩ := I.list hq
    obtain ⟨as, hr⟩ := Dp.readsAll I _ _ _ p1 rv
    refine min_list_data (I.ok.hd hc) hl.isList (by rw [List.toList_toArray]; exact hr) (alikeL_ok e2) (room_d hu p3) fun i v h' tk bs hv hr' k => ?_
    obtain ⟨z, hz, rz⟩ := pick_ok I S e1 hs rv (by rw [List.getElem?_toArray] at hv; exact hv) hr' k
    exact ⟨z, H, I.kept k, rz, q z hz⟩
  · obtain ⟨its, rv, hl, _⟩ := I.tuple hq
    obtain ⟨as, hr⟩ := Dp.readsAll I _ _ _ p1 rv
    refine min_tuple_data (I.ok.hd hc) (show s.heap.IsTuple p its.toArray from hl) (by rw [List.toList_toArray]; exact hr) (alikeL_ok e2) (room_d hu p3) fun i v h' tk bs hv hr' k => ?_
    obtain ⟨z, hz, rz⟩ := pick_ok I S e1 hs rv (by rw [List.getElem?_toArray] at hv; exact hv) hr' k
    exact ⟨z, H, I.kept k, rz, q z hz⟩
theorem c_max1 (hc : X.calm = true) (hu : X.A.units + 64 < cLine) : CallR X (.builtin "max") (rP1 X.K maxD) := by
  intro pins s σ H xs us Q I rx ⟨r, a, p, l, ys, d, ds, S, e0, hq, hs, e1, e2, q⟩
  subst e0
  rw [Vals.ref1 rx]
  obtain ⟨p1, _, p3⟩ := toP_all S e1 hs
  rcases hq with hq | hq
  · obtain ⟨its, rv, hl, _⟩ := I.list hq
    obtain ⟨as, hr⟩ := Dp.readsAll I _ _ _ p1 rv
    refine max_list_data (I.ok.hd hc) hl.isList (by rw [List.toList_toArray]; exact hr) (alikeL_ok e2) (room_d hu p3) fun i v h' tk bs hv hr' k => ?_
    obtain ⟨z, hz, rz⟩ := pick_ok I S e1 hs rv (by rw [List.getElem?_toArray] at hv; exact hv) hr' k
    exact ⟨z, H, I.kept k, rz, q z hz⟩
  · obtain ⟨its, rv, hl, _⟩ := I.tuple hq
    obtain ⟨as, hr⟩ := Dp.readsAll I _ _ _ p1 rv
    refine max_tuple_data (I.ok.hd hc) (show s.heap.IsTuple p its.toArray from hl) (by rw [List.toList_toArray]; exact hr) (alikeL_ok e2) (room_d hu p3) fun i v h' tk bs hv hr' k => ?_
    obtain ⟨z, hz, rz⟩ := pick_ok I S e1 hs rv (by rw [List.getElem?_toArray] at hv; exact hv) hr' k
    exact ⟨z, H, I.kept k, rz, q z hz⟩
theorem pick_two {K : PySem.W.Frag} {m : PyData → List PyData → PyData} {r : Nat → Addr} {v u x : PV} {a : AH} {H : Hp} {xs : List V} {Q : VK} (S : SR K r a H) (h : VRs K r a.n H [v, u] xs) (e : pick m [v, u] = some x)
    (k : ∀ r' H' x', Mo K r a.n H r' a.n H' → SR K r' a H' → VR K r' a.n H' x x' → Q x' H') : rP2 K m xs H Q := by
  obtain ⟨d, ds, e1, e2, rfl⟩ := pick_is e
  have hl := mapO_len e1
  obtain ⟨y, z, rfl, _, _⟩ := vs_two h
  cases ds with
  | nil => cases hl
  | cons d' ds =>
    cases ds with
    | cons _ _ => cases hl
    | nil => exact ⟨r, a, v, u, y, z, d, d', S, rfl, h, e1, e2, fun z hz => out_v k S hz⟩
theorem pick_one {K : PySem.W.Frag} {m : PyData → List PyData → PyData} {r : Nat → Addr} {x : PV} {a : AH} {H : Hp} {vs l : List PV} {xs : List V} {Q : VK} (S : SR K r a H) (h : VRs K r a.n H vs xs) (e0 : oneS vs a = some l) (e : pick m l = some x)
    (k : ∀ r' H' x', Mo K r a.n H r' a.n H' → SR K r' a H' → VR K r' a.n H' x x' → Q x' H') : rP1 K m xs H Q := by
  obtain ⟨d, ds, e1, e2, rfl⟩ := pick_is e
  obtain ⟨p, ys, rfl, hq, hs⟩ := oneS_rel S h e0
  exact ⟨r, a, p, l, ys, d, ds, S, rfl, hq, hs, e1, e2, fun z hz => out_v k S hz⟩
theorem c_min (hc : X.calm = true) (hu : X.A.units + 64 < cLine) : CallR X (.builtin "min") (rC X.K bMin) := by
  refine call_by fun r vs a v' a' H xs Q S h e k => ?_
  unfold bMin at e
  split at e
  · rename_i v u
    split at e
    · rename_i i j
      cases e
      obtain ⟨x, y, rfl, hx, hy⟩ := vs_two h
      cases vr_int hx
      cases vr_int hy
      exact ⟨_, call_min2 hc, i, j, rfl, out_v k S (.int _)⟩
    · split at e
      · rename_i x e1
        cases e
        exact ⟨_, c_min2 hc hu, pick_two S h e1 k⟩
      · cases e
  · split at e
    · rename_i l e1
      split at e
      · rename_i x e2
        cases e
        exact ⟨_, c_min1 hc hu, pick_one S h e1 e2 k⟩
      · cases e
    · cases e
theorem c_max (hc : X.calm = true) (hu : X.A.units + 64 < cLine) : CallR X (.builtin "max") (rC X.K bMax) := by
  refine call_by fun r vs a v' a' H xs Q S h e k => ?_
  unfold bMax at e
  split at e
  · rename_i v u
    split at e
    · rename_i i j
      cases e
      obtain ⟨x, y, rfl, hx, hy⟩ := vs_two h
      cases vr_int hx
      cases vr_int hy
      exact ⟨_, call_max2 hc, i, j, rfl, out_v k S (.int _)⟩
    · split at e
      · rename_i x e1
        cases e
        exact ⟨_, c_max2 hc hu, pick_two S h e1 k⟩
      · cases e
  · split at e
    · rename_i l e1
      split at e
      · rename_i x e2
        cases e
        exact ⟨_, c_max1 hc hu, pick_one S h e1 e2 k⟩
      · cases e
    · cases e
end
end VI
end
section
set_option maxRecDepth 100000
set_option maxHeartbeats 4000000
/-! sorted, repr, list(range), isinstance. -/
namespace VI
open PySem PySem.Spec PyProof.Rows L2 PySem.W

section
variable {prog : Program} {w : World} {A : Around} {E : Value → Shared → Prop} {s : Shared} {β : Type}
/-- what collect gives -/
def Cols (prog : Program) (w : World) (s : Shared) (v : Value) (vs : List Value) : Prop := ∀ (A : Around) (E : Value → Shared → Prop) (Q : List Value → Shared → Prop),
  (∀ h' : Heap, (∀ c o, s.heap.get? c = some o → h'.get? c = some o) → Q vs { s with heap := h' }) → wpAny (model prog w) A (collect v) Q E s
theorem cols_seq {a : Addr} {T : String} {o : Obj} {its : List Value} {n : Nat} (hT : T = "list" ∨ T = "tuple") (ho : s.heap.get? a = some o) (hc : o.cls = .type T) (hd : o.data = .seq its.toArray n) (hz : its.length ≤ sizeLine) : Cols prog w s (.ref a) its := fun A E Q h =>
  wpAny_collect_seq a hT ho hc hd (fun h' k => by rw [List.toList_toArray]; exact h h' k) (by rw [List.size_toArray]; exact hz)
theorem sorted_col {v : Value} {vs : List Value} {bs : List β} {enc : β → PyData} {R : Value → β → Prop} {Q : Value → Shared → Prop} (hc : Cols prog w s v vs) (e : EachIs R vs bs)
    (er : EachIs (fun v b => ∃ as, Reads s.heap v (enc b) as) vs bs) (hal : AllAlike (bs.map enc)) (hk : Sortable (bs.map enc)) (hL : bs.length ≤ sizeLine) (hu : ∀ b, b ∈ bs → A.units + 2 + (enc b).depth < cLine)
    (h : ∀ (out : List Value) (h1 h' : Heap) (n : Nat), EachIs R out (bs.mergeSort (dataLe false enc)) → out.length = bs.length → (∀ c o, s.heap.get? c = some o → h1.get? c = some o) → (∀ c o, h1.get? c = some o → h'.get? c = some o) →
      h'.get? h1.objs.size = some (seqObj "list" out.toArray n) → Q (.ref h1.objs.size) { s with heap := h' }) :
    wpAny (model prog w) A (call (.builtin "sorted") [v]) Q E s := by
  have hl : vs.length ≤ sizeLine := by rw [e.length]; exact hL
  refine call_function_entry_kw kind_sorted plain_sorted entry_sorted
    (args_sorted1 v) ?_
  refine wpAny_bind (m := checkCount "sorted" 1 1 _) (wpAny_pure (wpAny_bind (hc _ _ _ fun h1 k1 => ?_)))
  refine wpAny_bind (wpAny_newList ?_ hl)
  have at1 : (h1.push (seqObj "list" vs.toArray 0)).get? h1.objs.size = some (seqObj "list" vs.toArray 0) := Heap.get?_push_size _ rfl
  have k2 : ∀ c o, s.heap.get? c = some o → (h1.push (seqObj "list" vs.toArray 0)).get? c = some o := fun c o g => Heap.get?_push_of_some _ (k1 c o g)
  have k3 : ∀ c o, s.heap.get? c = some o → (sortingHeap (h1.push (seqObj "list" vs.toArray 0)) h1.objs.size vs).get? c = some o := fun c o g =>
    sortingHeap_old (Nat.ne_of_lt (Heap.lt_size (k1 c o g))) (k2 c o g)
  have er' : EachIs (fun v b => ∃ as, Reads (sortingHeap (h1.push (seqObj "list" vs.toArray 0)) h1.objs.size vs) v (enc b) as) vs bs :=
    er.mono fun _ _ ⟨as, r⟩ => ⟨as, PyProof.Rows.Reads.keeps k3 r⟩
  have SA := SortsAt.data (prog := prog) (w := w) (A := A.in1.in1) (s := { s with heap := sortingHeap (h1.push (seqObj "list" vs.toArray 0)) h1.objs.size vs })
    (each_map (R := fun v d => ∃ as, Reads (sortingHeap (h1.push (seqObj "list" vs.toArray 0)) h1.objs.size vs) v d as) enc er') hal hk (bound_map hu)
  refine wpAny_bind (wpAny_holding (wpAny_call_entry_kw slot_list_sort
    ⟨_, at1, rfl⟩ entry_list_sort ?_ (args_list_sort _)))
  refine list_sort_vals (s := { s with heap := h1.push (seqObj "list" vs.toArray 0) }) at1 SA hl ?_
  obtain ⟨n, hn⟩ := sortedHeap_at (vs := vs) (out := (sortVals (dataKind (sortingHeap (h1.push (seqObj "list" vs.toArray 0)) h1.objs.size vs) (bs.map enc)) false vs vs).toArray) at1
  refine ⟨_, rfl, wpAny_pure ⟨_, rfl, h _ h1 _ n (sortVals_data false e er' hal) (by rw [sortVals_length false rfl]; exact e.length) k1 (fun c o g => ?_) hn⟩⟩
  have k4 : (h1.push (seqObj "list" vs.toArray 0)).get? c = some o := Heap.get?_push_of_some _ g
  rw [sortedHeap_old (Nat.ne_of_lt (Heap.lt_size g)) (Heap.lt_size k4)]
  exact k4
end
/-! ### insertion -/
def ins1 {β : Type} (le : β → β → Bool) (a : β) : List β → List β
  | [] => [a]
  | b :: l => match le a b with
    | true => a :: b :: l
    | false => b :: ins1 le a l
def isort {β : Type} (le : β → β → Bool) : List β → List β
  | [] => []
  | a :: l => ins1 le a (isort le l)
theorem ins1_at {β : Type} {le : β → β → Bool} (a : β) : ∀ (l1 l2 : List β), (∀ b ∈ l1, le a b = false) → (∀ b ∈ l2.head?, le a b = true) → ins1 le a (l1 ++ l2) = l1 ++ a :: l2
  | [], [], _, _ => rfl
  | [], b :: l, _, h => by
    have := h b (by simp)
    show (match le a b with | true => a :: b :: l | false => b :: ins1 le a l) = _
    rw [this] <;> rfl
  | c :: l1, l2, h1, h2 => by
    have := h1 c List.mem_cons_self
    show (match le a c with | true => a :: c :: (l1 ++ l2) | false => c :: ins1 le a (l1 ++ l2)) = _
    rw [this, ins1_at a l1 l2 (fun b hb => h1 b (List.mem_cons_of_mem _ hb)) h2] <;> rfl
theorem isort_is {β : Type} {le : β → β → Bool} (tr : ∀ a b c, le a b = true → le b c = true → le a c = true) (tot : ∀ a b, (le a b || le b a) = true) : ∀ l : List β, l.mergeSort le = isort le l
  | [] => by simp [isort]
  | a :: l => by
    obtain ⟨l1, l2, e1, e2, h⟩ := List.mergeSort_cons (le := le) tr tot a l
    have ih := isort_is tr tot l
    show _ = ins1 le a (isort le l)
    rw [← ih, e2, e1, ins1_at a l1 l2 (fun b hb => by simpa using h b hb)]
    intro b hb
    have pw := List.pairwise_mergeSort (le := le) tr tot (a :: l)
    rw [e1] at pw
    cases l2 with
    | nil => simp at hb
    | cons c l2 =>
      simp at hb
      subst hb
      exact (List.pairwise_cons.mp (List.pairwise_append.mp pw).2.1).1 _ List.mem_cons_self
/-! ### sorted -/
def tupNe : PyData → Bool
  | .tuple (_ :: _) => true
  | _ => false
def noTup : PyData → Bool
  | .tuple _ => false
  | .none => false
  | _ => true
def sortableL (ds : List PyData) : Bool := (ds.all fun x => ds.all fun y => alike x y) && (ds.all tupNe || ds.all noTup)
theorem sortableL_ok {ds : List PyData} (h : sortableL ds = true) : AllAlike ds ∧ Sortable ds := by
  unfold sortableL at h
  rw [Bool.and_eq_true, Bool.or_eq_true, List.all_eq_true, List.all_eq_true, List.all_eq_true] at h
  refine ⟨fun x hx y hy => (List.all_eq_true.mp (h.1 x hx)) y hy, ?_⟩
  rcases h.2 with h2 | h2
  · refine .inl fun d hd => ?_
    have := h2 d hd
    unfold tupNe at this
    split at this
    · exact ⟨_, _, rfl⟩
    · cases this
  · refine .inr fun d hd => ⟨fun e => ?_, fun xs e => ?_⟩
    · have := h2 d hd; rw [e] at this; cases this
    · have := h2 d hd; rw [e] at this; cases this
def keyd (a : AH) (v : PV) : Option (PyData × PV) := match toD a DEP v with
  | some d => some (d, v)
  | none => none
theorem keyd_is {a : AH} {v : PV} {p : PyData × PV} (h : keyd a v = some p) : toD a DEP v = some p.1 ∧ p.2 = v := by
  unfold keyd at h
  split at h
  · rename_i d e; cases h; exact ⟨e, rfl⟩
  · cases h
/-- the values in order -/
def srt (a : AH) (l : List PV) : Option (List PV) := match mapO (keyd a) l with
  | some kvs => match sortableL (kvs.map (·.1)) with
    | true => some ((isort (dataLe false Prod.fst) kvs).map (·.2))
    | false => none
  | none => none
def bSorted (vs : List PV) (a : AH) : Option (PV × AH) := match oneS vs a with
  | some l => match srt a l with
    | some m => some (.ref a.n, a.new (.lst m))
    | none => none
  | none => none
section
variable {X : Cx}
theorem each_back {K : PySem.W.Frag} {r : Nat → Addr} {n : Nat} {H : Hp} : ∀ {out : List Value} {bs : List (PyData × PV)}, EachIs (fun v b => ∃ x, VR K r n H b.2 x ∧ RelV x v) out bs → ∃ xs, VRs K r n H (bs.map (·.2)) xs ∧ Vals xs out
  | _, _, .nil => ⟨[], .nil, .nil⟩
  | _, _, .cons ⟨x, h1, h2⟩ t => by
    obtain ⟨xs, g1, g2⟩ := each_back t
    exact ⟨x :: xs, .cons h1 g1, .cons h2 g2⟩
theorem each_of {pins : List (Addr × Obj)} {σ : L2.St} {s : Shared} {r : Nat → Addr} {a : AH} {H : Hp} (I : Inv X pins σ H s) (S : SR X.K r a H) : ∀ {l : List PV} {kvs : List (PyData × PV)} {xs : List V} {us : List Value}, mapO (keyd a) l = some kvs → VRs X.K r a.n H l xs → Vals xs us →
    EachIs (fun v b => ∃ x, VR X.K r a.n H b.2 x ∧ RelV x v) us kvs ∧ EachIs (fun v b => ∃ as, Reads s.heap v b.1 as) us kvs ∧ ∀ b ∈ kvs, b.1.depth ≤ DEP
  | [], _, _, _, e, .nil, .nil => by cases e; exact ⟨.nil, .nil, fun b hb => by cases hb⟩
  | v :: l, _, _, _, e, .cons h hs, .cons r1 rs => by
    obtain ⟨y, m, e1, e2, rfl⟩ := mapO_cons e
    obtain ⟨q1, q2⟩ := keyd_is e1
    obtain ⟨p1, _, p3⟩ := toD_dp S _ _ _ _ q1 h
    obtain ⟨a1, a2, a3⟩ := each_of I S e2 hs rs
    refine ⟨.cons ⟨_, by rw [q2]; exact h, r1⟩ a1, .cons (Dp.reads I _ _ _ p1 r1) a2, fun b hb => ?_⟩
    rcases List.mem_cons.mp hb with rfl | hb
    · exact p3
    · exact a3 b hb
def rSrt (K : PySem.W.Frag) : List V → Hp → VK → Prop := fun xs H Q => ∃ r a p l ys m, SR K r a H ∧ xs = [.ref p] ∧ (SqL K H p ys ∨ SqT K H p ys) ∧ VRs K r a.n H l ys ∧ srt a l = some m ∧ ∀ z q, VRs K r a.n H m z → H q = none → Q (.ref q) (upd H q (.lst z))
theorem c_srt (hu : X.A.units + 64 < cLine) : CallR X (.builtin "sorted") (rSrt X.K) := by
  intro pins s σ H xs us Q I rx ⟨r, a, p, l, ys, m, S, e0, hq, hs, e, q⟩
  subst e0
  rw [Vals.ref1 rx]
  unfold srt at e
  split at e
  · rename_i kvs e1
    split at e
    · rename_i e2
      cases e
      obtain ⟨al, so⟩ := sortableL_ok e2
      have go : ∀ its : List Value, Vals ys its → ys.length ≤ sizeLine → Cols X.prog X.w s (.ref p) its → wpAny (model X.prog X.w) X.A (call (.builtin "sorted") [.ref p]) (EP X pins σ Q) X.xe s := by
        intro its rv hz hc
        obtain ⟨a1, a2, a3⟩ := each_of I S e1 hs rv
        have hlen : kvs.length ≤ sizeLine := by rw [mapO_len e1, hs.length]; exact hz
        refine sorted_col hc a1 a2 al so hlen (fun b hb => ?_) fun out h1 h' n g1 g2 k1 k2 g3 => ?_
        · have h1 : b.1.depth ≤ 20 := a3 b hb
          show X.A.units + 2 + b.1.depth < cLine
          omega
        · have tl := sortLe_total (listOrd itemOrd) false fun b : PyData × PV => keyToks b.1
          have eqs : kvs.mergeSort (dataLe false Prod.fst) = isort (dataLe false Prod.fst) kvs :=
            isort_is (le := sortLe (listOrd itemOrd) false fun b : PyData × PV => keyToks b.1) tl.trans (fun p q => by rw [Bool.or_eq_true]; exact tl.total p q) kvs
          rw [eqs] at g1
          obtain ⟨zs, b1, b2⟩ := each_back g1
          have I1 : Inv X pins σ H { s with heap := h1 } := I.kept (t' := s.toks) k1
          refine ⟨.ref h1.objs.size, _, I1.laid (h' := h') (t' := s.toks) k2 (Nat.le_refl _) (show ObjOk X.prog X.w _ _ _ (.lst zs) from ⟨?_, out, n, b2, g3⟩), rfl, q zs _ b1 (I1.hok.fresh (Nat.le_refl _))⟩
          rw [b2.length, g2]
          exact hlen
      rcases hq with hq | hq
      · obtain ⟨its, rv, ⟨o, n, ho, hc, hd0, hd⟩, hz⟩ := I.list hq
        exact go its rv hz (cols_seq (.inl rfl) ho hc hd (by rw [← rv.length]; exact hz))
      · obtain ⟨its, rv, ⟨o, ho, hc, n, hd⟩, hz⟩ := I.tuple hq
        exact go its rv hz (cols_seq (.inr rfl) ho hc hd (by rw [← rv.length]; exact hz))
    · cases e
  · cases e
theorem c_sorted (hu : X.A.units + 64 < cLine) : CallR X (.builtin "sorted") (rC X.K bSorted) := by
  refine call_by fun r vs a v' a' H xs Q S h e k => ?_
  unfold bSorted at e
  split at e
  · rename_i l e1
    split at e
    · rename_i m e2
      cases e
      obtain ⟨p, ys, rfl, hq, hs⟩ := oneS_rel S h e1
      exact ⟨_, c_srt hu, r, a, p, l, ys, m, S, rfl, hq, hs, e2, fun z q hz hn => out_l k S hz hn⟩
    · cases e
  · cases e
/-! ### repr -/
def bRepr (vs : List PV) (a : AH) : Option (PV × AH) := match vs with
  | [v] => match toD a DEP v with
    | some d => match PyData.showable d && Nat.ble d.shown.length LIM && !d.hasDict with
      | true => some (.str d.shown, a)
      | false => none
    | none => none
  | _ => none
theorem c_repr (hg : X.A.guards = some []) (hu : X.A.units + 64 < cLine) : CallR X (.builtin "repr") (rC X.K bRepr) := by
  intro pins s σ H xs us Q I rx ⟨r, vs, a, v', a', S, h, e, k⟩
  unfold bRepr at e
  split at e
  · rename_i v
    obtain ⟨x, rfl, hx⟩ := vs_one h
    obtain ⟨u, rfl, ru⟩ := vals1 rx
    split at e
    · rename_i d e1
      split at e
      · rename_i e2
        cases e
        rw [Bool.and_eq_true, Bool.and_eq_true] at e2
        obtain ⟨p1, _, p3⟩ := toD_dp S _ _ _ _ e1 hx
        obtain ⟨as, hr⟩ := Dp.reads I _ _ _ p1 ru
        have hnd : d.hasDict = false := by simpa using e2.2
        have hz : d.shown.length ≤ sizeLine := lim_le (Nat.le_of_ble_eq_true e2.1.2)
        have h20 : d.depth ≤ 20 := p3
        have hsm := PyData.noDict_hsm (as := as) hnd
        have fin : ∀ (h' : Heap) (u : Tok) (tk : Nat), (∀ c o, s.heap.get? c = some o → h'.get? c = some o) → EP X pins σ Q (.str d.shown u) { s with heap := h', toks := tk } := fun h' u tk kp => ⟨.str _, H, I.kept kp, ⟨_, rfl⟩, out_v k S (.str _)⟩
        have fit : ∀ {z : Str} {e : PyData}, e = d → z = e.shown → z.length ≤ sizeLine := fun a b => by rw [b, a]; exact hz
        cases hx with
        | non =>
          cases (show u = Value.none from ru)
          cases hr
          exact PySem.P.repr_of_none (fin s.heap _ _ fun _ _ g => g)
        | bl b =>
          cases (show u = Value.bool b from ru)
          cases hr
          exact PySem.P.repr_of_bool (fin s.heap _ _ fun _ _ g => g)
        | int i =>
          obtain ⟨t, q⟩ := (show ∃ t, u = Value.int i t from ru)
          cases q
          cases hr
          exact PySem.P.repr_of_int (by simpa [PyData.showable] using e2.1.1) (fin s.heap _ _ fun _ _ g => g)
        | str y =>
          obtain ⟨t, q⟩ := (show ∃ t, u = Value.str y t from ru)
          cases q
          cases hr
          exact PySem.P.repr_of_str (fin s.heap _ _ fun _ _ g => g) (fit rfl rfl)
        | tup ht hs =>
          cases (show u = Value.ref _ from ru)
          exact repr_of_reads' hr e2.1.1 hsm hg (by omega) (fun _ _ g => g) fin hz
        | rol ht hs =>
          cases (show u = Value.ref _ from ru)
          exact repr_of_reads' hr e2.1.1 hsm hg (by omega) (fun _ _ g => g) fin hz
        | ref hi =>
          cases (show u = Value.ref _ from ru)
          exact repr_of_reads' hr e2.1.1 hsm hg (by omega) (fun _ _ g => g) fin hz
        | exc _ _ => cases e1
      · cases e
    · cases e
  · cases e
end
/-! ### list(range(..)), tuple(range(..)) -/
def rgP (a b : Int) : List PV := (List.range (b - a).toNat).map fun i => PV.int (a + (i : Nat))
@[irreducible] def rgOkB (a b : Int) : Bool := smallI a && smallI b && Nat.ble (b - a).toNat LIM
theorem rgOkB_ok {a b : Int} (h : rgOkB a b = true) : RgOk a b := by
  unfold rgOkB at h
  rw [Bool.and_eq_true, Bool.and_eq_true] at h
  have h1 := smallI_ok h.1.1
  have h2 := smallI_ok h.1.2
  have h3 : (b - a).toNat ≤ 1000000 := Nat.le_of_ble_eq_true h.2
  exact ⟨h1.1, h1.2, h2.1, h2.2, by omega⟩
theorem rg_rel {K : PySem.W.Frag} {r : Nat → Addr} {n : Nat} {H : Hp} (a b : Int) : VRs K r n H (rgP a b) (rgV a b) := by
  unfold rgP rgV
  induction List.range (b - a).toNat with
  | nil => exact .nil
  | cons i l ih => exact .cons (.int _) ih
/-- the bounds -/
def eRgL (fa fb : FE) : FE := fun e a => (fa e a).bind fun v a1 => (fb e a1).bind fun u a2 => match v with
  | .int i => match u with
    | .int j => match rgOkB i j with
      | true => .ok (.ref a2.n) (a2.new (.lst (rgP i j)))
      | false => .no
    | _ => .no
  | _ => .no
section
variable {X : Cx} {W : WX} {fa fb : FE} {a b : Expr} {pos : Pos}
theorem v_listRg1 {p p2 pos2 : Pos} (hc : X.calm = true) (hm : X.mg "list" = none) (hm2 : X.mg "range" = none) (ha : PE X a (tO X.K W fa)) (hg : Gl X "list" := by rfl) (hg2 : Gl X "range" := by rfl) (na : starEach [a] X.env = (false, eval a X.env) :: starEach [] X.env := by rfl)
    (nr : starEach [Expr.Call (.Name "range" p2) [a] [] pos2] X.env = (false, eval (.Call (.Name "range" p2) [a] [] pos2) X.env) :: starEach [] X.env := by rfl) :
    PE X (.Call (.Name "list" p) [.Call (.Name "range" p2) [a] [] pos2] [] pos) (tO X.K W (eRgL (eC (.int 0)) fa)) := pe_of (pe_listRg hc hg hm (prg_1 hg2 hm2 ha na) nr) fun s H Q ⟨r, e, a0, T, h⟩ => by
  have h' : Fin X.K (fun c d H' => W c d s H') r a0.n H (relV X.K) Q ((fa e a0).bind fun u a2 => match u with
    | .int j => match rgOkB 0 j with
      | true => .ok (.ref a2.n) (a2.new (.lst (rgP 0 j)))
      | false => .no
    | _ => .no) := h
  refine tO_mono (tO_bind T h') fun x H1 ⟨r1, v, a1, m1, T1, hv, h1⟩ => ?_
  cases hv with
  | int j =>
    have h2 : Fin X.K (fun c d H' => W c d s H') r1 a1.n H1 (relV X.K) Q (match rgOkB 0 j with | true => .ok (.ref a1.n) (a1.new (.lst (rgP 0 j))) | false => .no) := h1
    split at h2
    · rename_i e1
      exact ⟨j, rfl, rgOkB_ok e1, fun q hq => out_l h2 T1.sr (rg_rel 0 j) hq⟩
    · exact h2.elim
  | _ => exact h1.elim
theorem v_listRg2 {p p2 pos2 : Pos} (hc : X.calm = true) (hm : X.mg "list" = none) (hm2 : X.mg "range" = none) (ha : PE X a (tO X.K W fa)) (hb : PE X b (tO X.K W fb)) (hg : Gl X "list" := by rfl) (hg2 : Gl X "range" := by rfl) (na : starEach [a, b] X.env = (false, eval a X.env) :: starEach [b] X.env := by rfl)
    (nb : starEach [b] X.env = (false, eval b X.env) :: starEach [] X.env := by rfl) (hp : (backTo pos2 (starEach [b] X.env)).any (·.1) = false := by rfl)
    (nr : starEach [Expr.Call (.Name "range" p2) [a, b] [] pos2] X.env = (false, eval (.Call (.Name "range" p2) [a, b] [] pos2) X.env) :: starEach [] X.env := by rfl) :
    PE X (.Call (.Name "list" p) [.Call (.Name "range" p2) [a, b] [] pos2] [] pos) (tO X.K W (eRgL fa fb)) := pe_of (pe_listRg hc hg hm (prg_2 hg2 hm2 ha hb na nb hp) nr) fun s H Q ⟨r, e, a0, T, h⟩ => by
  refine tO_mono (tO_bind T h) fun x H1 ⟨r1, v, a1, m1, T1, hv, h1⟩ => ?_
  refine tO_mono (tO_bind T1 h1) fun y H2 ⟨r2, u, a2, m2, T2, hu, h2⟩ => ?_
  cases hv with
  | int i =>
    cases hu with
    | int j =>
      have h3 : Fin X.K (fun c d H' => W c d s H') r2 a2.n H2 (relV X.K) Q (match rgOkB i j with | true => .ok (.ref a2.n) (a2.new (.lst (rgP i j))) | false => .no) := h2
      split at h3
      · rename_i e1
        exact ⟨i, j, rfl, rfl, rgOkB_ok e1, fun q hq => out_l h3 T2.sr (rg_rel i j) hq⟩
      · exact h3.elim
    | _ => exact h2.elim
  | _ => exact h2.elim
end
end VI
end
section
set_option maxRecDepth 100000
set_option maxHeartbeats 4000000
/-! Methods of built-in types, stores, by plain values. -/
namespace VI
open PySem PySem.Spec PyProof.Rows L2 PySem.SeqAt

/-- the value is of that built-in type, and its object has no dict -/
def TyF (X : Cx) (T : String) (x : V) (H : Hp) : Prop := ∀ (pins : List (Addr × Obj)) (σ : L2.St) (s : Shared) (v : Value), Inv X pins σ H s → RelV x v → s.TypeIs v T ∧ ∀ a, v = .ref a → ∃ ob, s.heap.get? a = some ob ∧ ob.dict = none
def isT (T : Nat) (v : PV) (a : AH) : Bool := match T with
  | 0 => match v with
    | .ref i => match a.get i with
      | some (.lst _) => true
      | _ => false
    | .rol _ => true
    | _ => false
  | 1 => match v with
    | .tup _ => true
    | _ => false
  | 2 => match v with
    | .ref i => match a.get i with
      | some (.dct _) => true
      | _ => false
    | _ => false
  | 3 => match v with
    | .str _ => true
    | _ => false
  | _ => false
def nmT : Nat → String
  | 0 => "list"
  | 1 => "tuple"
  | 2 => "dict"
  | 3 => "str"
  | _ => ""
theorem isT_ok {X : Cx} {T : Nat} {r : Nat → Addr} {a : AH} {H : Hp} {v : PV} {x : V} (S : SR X.K r a H) (h : VR X.K r a.n H v x) (e : isT T v a = true) : TyF X (nmT T) x H := by
  intro pins σ s u I ru
  match T, e with
  | 0, e =>
    cases h with
    | @ref i hi =>
      have e' : (match a.get i with | some (.lst _) => true | _ => false) = true := e
      split at e'
      · rename_i l e1
        obtain ⟨xs, hx, _⟩ := S.lst e1
        exact tyV_is I ru (.inl ⟨rfl, xs, SqL.of hx⟩)
      · cases e'
    | rol ht hs => exact tyV_is I ru (.inl ⟨rfl, _, ht.sq⟩)
    | _ => cases e
  | 1, e =>
    cases h with
    | tup ht hs =>
      obtain ⟨o, ho, hc, hd⟩ := ht
      have z := (show ObjOk X.prog X.w H s.heap _ (.frz o (.tup _)) from I.hok _ _ ho).1
      cases (show u = Value.ref _ from ru)
      refine ⟨⟨o, z, hc⟩, fun b eb => ?_⟩
      cases eb
      exact ⟨o, z, hd⟩
    | _ => cases e
  | 2, e =>
    cases h with
    | @ref i hi =>
      have e' : (match a.get i with | some (.dct _) => true | _ => false) = true := e
      split at e'
      · rename_i l e1
        obtain ⟨xs, hx, _⟩ := S.dct e1
        exact tyV_is I ru (.inr (.inr (.inl ⟨rfl, .inl ⟨xs, hx⟩⟩)))
      · cases e'
    | _ => cases e
  | 3, e =>
    cases h with
    | str z => exact tyV_is I ru rfl
    | _ => cases e
  | n + 4, e => cases e
def eBM (T : Nat) (f : PV → List PV → AH → Option (PV × AH)) (fo : FE) (fs : FA) : FE := fun e a => (fo e a).bind fun v a1 => match isT T v a1 with
  | true => (fs e a1).bind fun vs a2 => lf (f v vs a2)
  | false => .no
def eBM0 (T : Nat) (f : PV → List PV → AH → Option (PV × AH)) (fo : FE) : FE := fun e a => (fo e a).bind fun v a1 => match isT T v a1 with
  | true => lf (f v [] a1)
  | false => .no
section
variable {X : Cx} {W : WX} {o e : Expr} {es : List Expr} {fo : FE} {fs : FA} {name : Str} {apos cpos : Pos} {id : String} {f : PV → List PV → AH → Option (PV × AH)} {T : Nat}
def tBF (X : Cx) (T : String) (r : V → List V → Hp → VK → Prop) (to : TE) (t : TA) : TE := fun σ H Q => to σ H fun x H1 => TyF X T x H1 ∧ t σ H1 fun xs H2 => r x xs H2 Q
def tBF0 (X : Cx) (T : String) (r : V → List V → Hp → VK → Prop) (to : TE) : TE := fun σ H Q => to σ H fun x H1 => TyF X T x H1 ∧ r x [] H1 Q
theorem pe_bf {T : String} {r : V → List V → Hp → VK → Prop} {to : TE} {t : TA} (pa : PlainAttrs T) (slot : Slot T name id) (hty : typeOf (.builtin id) = pure (.type "method_descriptor")) (hm : MtR X id r) (ho : PE X o to) (ha : PA X (e :: es) t)
    (hbase : attributeBase o name X.env (eval o X.env) = eval o X.env)
    (hfew : ((backTo cpos (starEach (e :: es) X.env)).all (fun x => !x.1) && (backToKw cpos (keywordEach [] X.env)).all (fun x => x.1.isSome)
      && decide ((e :: es).length + ([] : List Keyword).length + (if ([] : List Keyword).isEmpty then 0 else 1) < 30)) = true)
    (hline : (apos.endLine == cpos.line) = true) (hs : starEach (e :: es) X.env = (false, eval e X.env) :: starEach es X.env) (hplain : (backTo cpos (starEach es X.env)).any (·.1) = false) :
    PE X (.Call (.Attribute o name apos) (e :: es) [] cpos) (tBF X T r to t) := by
  refine ⟨fun pins s σ H Q I h => wpAny_Call_method_late hbase hfew hline rfl (thn (ho.run pins s σ H _ I h) ?_)⟩
  intro v s1 ⟨x, H1, I1, r1, ty, q1⟩
  obtain ⟨h1, h2⟩ := ty pins σ s1 v I1 r1
  refine ⟨T, id, pa, slot, hty, h1, h2, ?_⟩
  have hA := ha.run cpos pins s1 σ H1 _ I1 q1
  rw [hs] at hA ⊢
  have none_ : (false || (backTo cpos (starEach es X.env)).any (·.1)) = false := by rw [hplain, Bool.false_or]
  refine Calls.callWith_builtin none_ (Calls.evalArgs_plain (thn hA ?_))
  exact fun us s2 ⟨vs, H2, I2, r2, q2⟩ => hm pins s2 σ H2 x vs v us Q I2 r1 r2 q2
theorem pe_bf0 {T : String} {r : V → List V → Hp → VK → Prop} {to : TE} (pa : PlainAttrs T) (slot : Slot T name id) (hty : typeOf (.builtin id) = pure (.type "method_descriptor")) (hm : MtR X id r) (ho : PE X o to)
    (hbase : attributeBase o name X.env (eval o X.env) = eval o X.env) (hline : (apos.endLine == cpos.line) = true) : PE X (.Call (.Attribute o name apos) [] [] cpos) (tBF0 X T r to) := by
  refine ⟨fun pins s σ H Q I h => wpAny_Call_method0_late hbase hline (thn (ho.run pins s σ H _ I h) ?_)⟩
  intro v s1 ⟨x, H1, I1, r1, ty, q1⟩
  obtain ⟨h1, h2⟩ := ty pins σ s1 v I1 r1
  exact ⟨T, id, pa, slot, hty, h1, h2, Calls.callWith_builtin rfl (PySem.evalArgs_none (hm pins s1 σ H1 x [] v [] Q I1 r1 .nil q1))⟩
theorem v_bm (T : Nat) (pa : PlainAttrs (nmT T)) (slot : Slot (nmT T) name id) (hty : typeOf (.builtin id) = pure (.type "method_descriptor")) (hm : MtR X id (rM X.K f)) (ho : PE X o (tO X.K W fo)) (ha : PA X (e :: es) (tOs X.K W fs))
    (hbase : attributeBase o name X.env (eval o X.env) = eval o X.env := by rfl)
    (hfew : ((backTo cpos (starEach (e :: es) X.env)).all (fun x => !x.1) && (backToKw cpos (keywordEach [] X.env)).all (fun x => x.1.isSome)
      && decide ((e :: es).length + ([] : List Keyword).length + (if ([] : List Keyword).isEmpty then 0 else 1) < 30)) = true := by rfl)
    (hline : (apos.endLine == cpos.line) = true := by rfl) (hs : starEach (e :: es) X.env = (false, eval e X.env) :: starEach es X.env := by rfl) (hplain : (backTo cpos (starEach es X.env)).any (·.1) = false := by rfl) :
    PE X (.Call (.Attribute o name apos) (e :: es) [] cpos) (tO X.K W (eBM T f fo fs)) := pe_of (pe_bf pa slot hty hm ho ha hbase hfew hline hs hplain) fun s H Q ⟨r, e, a, T1, h⟩ => by
  refine tO_mono (tO_bind T1 h) fun x H1 ⟨r1, v, a1, m1, T1, hv, h1⟩ => ?_
  split at h1
  · rename_i e1
    refine ⟨isT_ok T1.sr hv e1, ?_⟩
    refine tOs_mono (tOs_bind T1 h1) fun xs H2 ⟨r2, vs, a2, m2, T2, hvs, h2⟩ => ?_
    cases q : f v vs a2 with
    | none => rw [q] at h2; exact h2.elim
    | some p => rw [q] at h2; exact ⟨r2, v, vs, a2, p.1, p.2, T2.sr, hv.mo m2, hvs, q, h2⟩
  · exact h1.elim
theorem v_bm0 (T : Nat) (pa : PlainAttrs (nmT T)) (slot : Slot (nmT T) name id) (hty : typeOf (.builtin id) = pure (.type "method_descriptor")) (hm : MtR X id (rM X.K f)) (ho : PE X o (tO X.K W fo))
    (hbase : attributeBase o name X.env (eval o X.env) = eval o X.env := by rfl) (hline : (apos.endLine == cpos.line) = true := by rfl) :
    PE X (.Call (.Attribute o name apos) [] [] cpos) (tO X.K W (eBM0 T f fo)) := pe_of (pe_bf0 pa slot hty hm ho hbase hline) fun s H Q ⟨r, e, a, T1, h⟩ => by
  refine tO_mono (tO_bind T1 h) fun x H1 ⟨r1, v, a1, m1, T1, hv, h1⟩ => ?_
  split at h1
  · rename_i e1
    refine ⟨isT_ok T1.sr hv e1, ?_⟩
    cases q : f v [] a1 with
    | none => rw [q] at h1; exact h1.elim
    | some p => rw [q] at h1; exact ⟨r1, v, [], a1, p.1, p.2, T1.sr, hv, .nil, q, h1⟩
  · exact h1.elim
/-- a method by cases -/
theorem mt_by {r0 : V → List V → Hp → VK → Prop} (h0 : MtR X id r0)
    (h : ∀ (r : Nat → Addr) (v : PV) (vs : List PV) (a : AH) (v' : PV) (a' : AH) (H : Hp) (x : V) (xs : List V) (Q : VK), SR X.K r a H → VR X.K r a.n H v x → VRs X.K r a.n H vs xs → f v vs a = some (v', a') → (∀ r' H' x', Mo X.K r a.n H r' a'.n H' → SR X.K r' a' H' → VR X.K r' a'.n H' v' x' → Q x' H') →
      r0 x xs H Q) : MtR X id (rM X.K f) := by
  intro pins s σ H x xs v us Q I rx rxs q
  obtain ⟨r, pv, vs, a, v', a', S, h1, h2, e, k⟩ := q
  exact h0 pins s σ H x xs v us Q I rx rxs (h r pv vs a v' a' H x xs Q S h1 h2 e k)
end
/-! ### lists -/
def mAppend (v : PV) (vs : List PV) (a : AH) : Option (PV × AH) := match v with
  | .ref i => match vs with
    | [u] => match a.get i with
      | some (.lst l) => match Nat.blt l.length LIM with
        | true => some (.non, a.put i (.lst (l ++ [u])))
        | false => none
      | _ => none
    | _ => none
  | _ => none
theorem ref_of {K : PySem.W.Frag} {r : Nat → Addr} {n : Nat} {H : Hp} {i : Nat} {x : V} (h : VR K r n H (.ref i) x) : i < n ∧ x = .ref (r i) := vr_ref h
section
variable {X : Cx}
theorem m_append : MtR X "list.append" (rM X.K mAppend) := mt_by (r0 := rAppend) mt_append fun r v vs a v' a' H x xs Q S hv hs e k => by
  unfold mAppend at e
  split at e
  · rename_i i
    split at e
    · rename_i u
      split at e
      · rename_i l e1
        split at e
        · rename_i e2
          cases e
          obtain ⟨hi, rfl⟩ := vr_ref hv
          obtain ⟨y, rfl, hy⟩ := vs_one hs
          obtain ⟨ys, h1, h2⟩ := S.lst e1
          have hl : l.length < 1000000 := Nat.le_of_ble_eq_true e2
          exact ⟨_, ys, y, rfl, rfl, h1, by rw [← h2.length, sizeLine_eq]; omega, out_w k S hi (h2.app (.cons hy .nil)) .non⟩
        · cases e
      · cases e
    · cases e
  · cases e
def mPop (v : PV) (vs : List PV) (a : AH) : Option (PV × AH) := match v with
  | .ref i => match a.get i with
    | some (.lst l) => match vs with
      | [] => match atN l (l.length - 1) with
        | some u => some (u, a.put i (.lst l.dropLast))
        | none => none
      | [.int j] => match smallI j with
        | true => match seqIndex? j l.length with
          | some k => match atN l k with
            | some u => some (u, a.put i (.lst (l.eraseIdx k)))
            | none => none
          | none => none
        | false => none
      | _ => none
    | _ => none
  | _ => none
theorem VRs.dropLast {K : PySem.W.Frag} {r : Nat → Addr} {n : Nat} {H : Hp} : ∀ {l : List PV} {xs : List V}, VRs K r n H l xs → VRs K r n H l.dropLast xs.dropLast
  | _, _, .nil => .nil
  | _, _, .cons h .nil => .nil
  | _, _, .cons h (.cons h2 t) => .cons h (VRs.dropLast (.cons h2 t))
theorem VRs.erase {K : PySem.W.Frag} {r : Nat → Addr} {n : Nat} {H : Hp} : ∀ {l : List PV} {xs : List V} (k : Nat), VRs K r n H l xs → VRs K r n H (l.eraseIdx k) (xs.eraseIdx k)
  | _, _, _, .nil => .nil
  | _, _, 0, .cons _ t => t
  | _, _, k + 1, .cons h t => .cons h (VRs.erase k t)
theorem m_pop : MtR X "list.pop" (rM X.K mPop) := by
  intro pins s σ H x xs v us Q I rx rxs q
  obtain ⟨r, pv, vs, a, v', a', S, hv, hs, e, k⟩ := q
  unfold mPop at e
  split at e
  · rename_i i
    split at e
    · rename_i l e1
      obtain ⟨hi, rfl⟩ := vr_ref hv
      obtain ⟨ys, h1, h2⟩ := S.lst e1
      split at e
      · split at e
        · rename_i u e2
          cases e
          rw [atN_is] at e2
          obtain ⟨y, hy, ry⟩ := h2.get e2
          cases hs
          exact mt_pop pins s σ H _ _ v us Q I rx rxs ⟨_, ys, y, rfl, rfl, h1, by rw [← h2.length]; exact hy, out_w k S hi h2.dropLast ry⟩
        · cases e
      · rename_i j
        obtain ⟨z, rfl, hz⟩ := vs_one hs
        cases vr_int hz
        split at e
        · rename_i e3
          split at e
          · rename_i k0 e4
            split at e
            · rename_i u e2
              cases e
              rw [atN_is] at e2
              obtain ⟨y, hy, ry⟩ := h2.get e2
              have b := smallI_ok e3
              exact mt_popAt pins s σ H _ _ v us Q I rx rxs ⟨_, ys, j, k0, y, rfl, rfl, h1, by omega, by omega, by rw [← h2.length]; exact e4, hy, out_w k S hi (h2.erase k0) ry⟩
            · cases e
          · cases e
        · cases e
      · cases e
    · cases e
  · cases e
/-- the items, the place of an int -/
def idxI : List PV → Int → Option Nat
  | [], _ => none
  | .int i :: l, j => match decide (i = j) with
    | true => some 0
    | false => match idxI l j with
      | some k => some (k + 1)
      | none => none
  | _ :: _, _ => none
def mIndex (v : PV) (vs : List PV) (a : AH) : Option (PV × AH) := match vs with
  | [.int j] => match oneS [v] a with
    | some l => match allInt l with
      | some ns => match ns.contains j with
        | true => some (.int (ns.idxOf j : Nat), a)
        | false => none
      | none => none
    | none => none
  | _ => none
def mIndexT (v : PV) (vs : List PV) (a : AH) : Option (PV × AH) := match v with
  | .tup _ => mIndex v vs a
  | _ => none
def mIndexL (v : PV) (vs : List PV) (a : AH) : Option (PV × AH) := match v with
  | .tup _ => none
  | _ => mIndex v vs a
theorem ints_at : ∀ {ns : List Int} {us : List Value}, Vals (ns.map V.int) us → us.length = ns.length ∧ ∀ (j : Nat) (h1 : j < us.length) (h2 : j < ns.length), ∃ t, us[j] = .int ns[j] t
  | [], _, .nil => ⟨rfl, fun j h1 _ => absurd h1 (Nat.not_lt_zero _)⟩
  | n :: ns, _, .cons ⟨t, e⟩ rs => by
    obtain ⟨a, b⟩ := ints_at rs
    refine ⟨by rw [List.length_cons, List.length_cons, a], fun j h1 h2 => ?_⟩
    cases j with
    | zero => exact ⟨t, e⟩
    | succ j => exact b j (Nat.lt_of_succ_lt_succ h1) (Nat.lt_of_succ_lt_succ h2)
theorem itemsEq_int {A : Around} {s : Shared} {ns : List Int} {us : List Value} (h : Vals (ns.map V.int) us) (j : Int) (t : Tok) : ItemsEq A s us ns (.int j t) j := by
  obtain ⟨a, b⟩ := ints_at h
  refine ⟨a, fun i h1 h2 => ?_⟩
  obtain ⟨u, e⟩ := b i h1 h2
  rw [e]
  have z := (PySem.MeetsSeq.EqGives.int ns[i] j u t).at A s
  rw [Bool.beq_eq_decide_eq] at z
  exact z
theorem m_indexT : MtR X "tuple.index" (rM X.K mIndexT) := by
  intro pins s σ H x xs v us Q I rx rxs q
  obtain ⟨r, pv, vs, a, v', a', S, hv, hs, e, k⟩ := q
  unfold mIndexT at e
  split at e
  · rename_i l
    unfold mIndex at e
    split at e
    · rename_i j
      obtain ⟨z, rfl, hz⟩ := vs_one hs
      cases vr_int hz
      have e' : (match allInt l with | some ns => (match ns.contains j with | true => some (PV.int (ns.idxOf j : Nat), a) | false => none) | none => none) = some (v', a') := e
      split at e'
      · rename_i ns e2
        split at e'
        · rename_i e3
          cases e'
          cases hv with
          | tup ht hs' =>
            have := allInt_rel e2 hs'
            subst this
            obtain ⟨its, rv, hl, _⟩ := I.tuple ht.sq
            obtain ⟨u, rfl, t, rfl⟩ := vals1 rxs
            cases (show v = Value.ref _ from rx)
            exact call_tuple_index (vs := its) (show s.heap.IsTuple _ its.toArray from hl) (itemsEq_int rv j t) (by simpa using e3) ⟨.int _, H, I.tok _, ⟨_, rfl⟩, out_v k S (.int _)⟩
        · cases e'
      · cases e'
    · cases e
  · cases e
theorem m_indexL : MtR X "list.index" (rM X.K mIndexL) := by
  intro pins s σ H x xs v us Q I rx rxs q
  obtain ⟨r, pv, vs, a, v', a', S, hv, hs, e, k⟩ := q
  have e0 : mIndex pv vs a = some (v', a') ∧ ∀ l, pv ≠ .tup l := by
    unfold mIndexL at e
    split at e
    · cases e
    · rename_i h; exact ⟨e, fun l z => h l z⟩
  obtain ⟨e, hnt⟩ := e0
  unfold mIndex at e
  split at e
  · rename_i j
    obtain ⟨z, rfl, hz⟩ := vs_one hs
    cases vr_int hz
    split at e
    · rename_i l e1
      split at e
      · rename_i ns e2
        split at e
        · rename_i e3
          cases e
          obtain ⟨p, ys, ep, hq, hs'⟩ := oneS_rel S (.cons hv .nil) e1
          cases ep
          have := allInt_rel e2 hs'
          subst this
          have hq' : SqL X.K H p (ns.map V.int) := by
            rcases hq with h | h
            · exact h
            · exfalso
              cases hv with
              | tup _ _ => exact hnt _ rfl
              | @ref i hi =>
                have e1' : (match a.get i with | some (.lst l) => some l | _ => none) = some l := e1
                split at e1'
                · rename_i l' e4
                  obtain ⟨zs, hz, _⟩ := S.lst e4
                  obtain ⟨_, _, ⟨o1, n1, a1, b1, _⟩, _⟩ := I.list (SqL.of hz)
                  obtain ⟨_, _, ⟨o2, a2, b2, _⟩, _⟩ := I.tuple h
                  rw [a1] at a2
                  cases a2
                  rw [b1] at b2
                  exact absurd b2 (by decide)
                · cases e1'
              | rol ht _ =>
                obtain ⟨_, _, ⟨o1, n1, a1, b1, _⟩, _⟩ := I.list ht.sq
                obtain ⟨_, _, ⟨o2, a2, b2, _⟩, _⟩ := I.tuple h
                rw [a1] at a2
                cases a2
                rw [b1] at b2
                exact absurd b2 (by decide)
              | _ => cases e1
          obtain ⟨its, rv, hl, hz⟩ := I.list hq'
          obtain ⟨u, rfl, t, rfl⟩ := vals1 rxs
          cases (show v = Value.ref _ from rx)
          rw [List.length_map] at hz
          exact call_list_index (vs := its) hl.isList (itemsEq_int rv _ t) hz (by simpa using e3) ⟨.int _, H, I.tok _, ⟨_, rfl⟩, out_v k S (.int _)⟩
        · cases e
      · cases e
    · cases e
  · cases e
end
end VI
end
section
set_option maxRecDepth 100000
set_option maxHeartbeats 4000000
/-! Stores, attributes, dict displays, t[::-1]. -/
namespace VI
open PySem PySem.Spec PyProof.Rows L2 PySem.SeqAt

/-! ### t[::-1] -/
section
variable {prog : Program} {w : World} {A : Around} {E : Value → Shared → Prop} {s : Shared}
theorem rev_places (n : Nat) : Builtin.Slice.slicePlaces ((n : Int) - 1) (-1) (-1) = n := by
  unfold Builtin.Slice.slicePlaces
  rw [if_neg (by decide), show (-(-1) : Int) = 1 from by decide, Int.ediv_one]
  split <;> omega
theorem fm_map {α β : Type} {f : α → Option β} {g : α → β} : ∀ l : List α, (∀ k ∈ l, f k = some (g k)) → l.filterMap f = l.map g
  | [], _ => rfl
  | k :: l, h => by
    rw [List.filterMap_cons, h k List.mem_cons_self, List.map_cons, fm_map l fun j hj => h j (List.mem_cons_of_mem _ hj)]
theorem rev_pick (xs : Array Value) : ((List.range xs.size).filterMap fun (k : Nat) => xs[((xs.size : Int) - 1 + (k : Int) * (-1)).toNat]?).toArray = xs.toList.reverse.toArray := by
  congr 1
  rw [fm_map (g := fun k => xs.toList.reverse.getD k .none) _ fun k hk => ?_]
  · refine List.ext_getElem? fun i => ?_
    rw [List.getElem?_map]
    rcases Nat.lt_or_ge i xs.size with h | h
    · rw [List.getElem?_range h, Option.map_some, List.getD_eq_getElem?_getD, List.getElem?_eq_getElem (by simpa using h)] <;> rfl
    · rw [List.getElem?_eq_none (by simpa using h), List.getElem?_eq_none (by simpa using h)] <;> rfl
  · have hk' : k < xs.size := List.mem_range.mp hk
    have e : ((xs.size : Int) - 1 + (k : Int) * (-1)).toNat = xs.size - 1 - k := by omega
    have h2 : xs.size - 1 - k < xs.toList.length := by rw [Array.length_toList]; omega
    have h1 : xs.toList.reverse[k]? = xs.toList[xs.size - 1 - k]? := by
      rw [List.getElem?_reverse (by simpa using hk')] <;> simp
    rw [e, ← Array.getElem?_toList, List.getD_eq_getElem?_getD, h1, List.getElem?_eq_getElem h2] <;> rfl
theorem getItem_tuple_rev {t sl : Addr} {items : Array Value} {k : Tok} {Q : Value → Shared → Prop} (ht : IsTup s.heap t items) (hs : s.heap.IsSliceOf sl .none .none (.int (-1) k))
    (h : Q (.ref s.heap.objs.size) { s with heap := s.heap.push (tupO items.toList.reverse) }) (hz : items.size ≤ sizeLine) :
    wpAny (model prog w) A (getItem (.ref t) (.ref sl)) Q E s := by
  obtain ⟨os, hos, hcs, hds⟩ := id hs
  have ty : s.TypeIs (.ref sl) "slice" := ⟨os, hos, hcs⟩
  have fit : sizeOk (.seq items.toList.reverse.toArray) := by
    show items.toList.reverse.toArray.size ≤ sizeLine
    rw [List.size_toArray, List.length_reverse, Array.length_toList]
    exact hz
  unfold getItem
  refine wpAny_holding (wpAny_bind (wpAny_sequenceKey ht.typeIs (by decide) ?_))
  refine wpAny_bind (wpAny_callSpecial?_slot (name := Str.ofString "__getitem__") ht.typeIs slot_tuple_getitem
    (wpAny_call_entry slot_tuple_getitem ht.typeIs entry_tuple_getitem ?_
      (args_tuple_getitem (.ref t) (.ref sl))))
  refine wpAny_bind (m := Builtin.Tuple.tupleItemsOf (.ref t)) (tupleItemsOf_ ht (wpAny_bind (wpAny_typeOf ty ?_)))
  rw [if_pos (by decide)]
  refine wpAny_bind ?_
  unfold Builtin.Slice.sliceApplied Builtin.Slice.sliceFields
  refine wpAny_bind (wpAny_bind (wpAny_field hos hds (x := .none) rfl ?_))
  refine wpAny_bind (wpAny_field hos hds (x := .none) rfl ?_)
  refine wpAny_bind (wpAny_field hos hds (x := .int (-1) k) rfl (wpAny_pure ?_))
  refine wpAny_bind (slicePart_int ?_)
  show wpAny _ _ (if ((-1 : Int) == 0) = true then _ else _) _ _ s
  rw [if_neg (by decide)]
  refine wpAny_bind (slicePart_none (wpAny_bind (slicePart_none (wpAny_bind (wpAny_pure ?_)))))
  show wpAny _ _ (pure ((items.size : Int) - 1, (-1 : Int), Builtin.Slice.slicePlaces ((items.size : Int) - 1) (-1) (-1))) _ _ s
  rw [rev_places]
  refine wpAny_pure ?_
  show wpAny _ _ (if (((items.size : Int) - 1 == 0 && (-1 : Int) == 1 && items.size == items.size) = true) then _ else _) _ _ s
  rw [if_neg (by rw [show ((-1 : Int) == 1) = false from by decide, Bool.and_false, Bool.false_and]; exact Bool.false_ne_true), rev_pick]
  first
    | exact wpAny_bind (m := Builtin.Tuple.tupleExact _) (wpAny_newObj_type (wpAny_pure ⟨_, rfl, wpAny_pure h⟩) fit)
    | exact wpAny_bind (m := Builtin.Tuple.tupleExact _) (wpAny_newObj_type (wpAny_bind (wpAny_pure (wpAny_pure ⟨_, rfl, wpAny_pure h⟩))) fit)
    | exact wpAny_bind (wpAny_bind (m := Builtin.Tuple.tupleExact _) (wpAny_newObj_type (wpAny_pure (wpAny_pure ⟨_, rfl, wpAny_pure h⟩)) fit))
    | exact wpAny_bind (wpAny_bind (m := Builtin.Tuple.tupleExact _) (wpAny_newObj_type (wpAny_pure ⟨_, rfl, wpAny_pure h⟩) fit))
end
def eRev (f : FE) : FE := fun e a => (f e a).bind fun v a1 => match v with
  | .tup l => .ok (.tup l.reverse) a1
  | .rol l => .ok (.ref a1.n) (a1.new (.lst l.reverse))
  | .ref i => match a1.get i with
    | some (.lst l) => .ok (.ref a1.n) (a1.new (.lst l.reverse))
    | _ => .no
  | _ => .no
section
variable {X : Cx} {W : WX} {fa : FE} {e : Expr} {pos : Pos}
def tRevA (K : PySem.W.Frag) (te : TE) : TE := fun σ H Q => te σ H fun x H1 => ∃ a xs, x = .ref a ∧ ((SqL K H1 a xs ∧ ∀ p, H1 p = none → Q (.ref p) (upd H1 p (.lst xs.reverse))) ∨ (SqT K H1 a xs ∧ ∀ us p, H1 p = none → Q (.ref p) (upd H1 p (hoT us xs.reverse))))
theorem pe_revA {te : TE} {k : Nat} {p1 p2 p3 : Pos} (he : PE X e te) : PE X (.Subscript e (.Slice none none (some (.UnaryOp .USub (.Constant (.int 1) k p1) p2)) p3) pos) (tRevA X.K te) := by
  refine ⟨fun pins s σ H Q I h => Subscript_ (thn (he.run pins s σ H _ I h) ?_)⟩
  intro v s1 ⟨x, H1, I1, r1, a, xs, ex, q⟩
  subst ex
  cases r1
  have stp : PO X (some (.UnaryOp .USub (.Constant (.int 1) k p1) p2)) (tPart (tUn (rU fun i => .int (-i)) (tC (.int 1)))) := po_some (pe_un un_neg pe_int)
  refine wpAny_Slice ?_
  refine thn (po_none.run pins s1 σ H1 (fun o H2 => o = none ∧ H2 = H1) I1 ⟨rfl, rfl⟩) ?_
  intro vl s2 ⟨l, H2, I2, pl, el, e2⟩
  subst el e2
  refine thn (po_none.run pins s2 σ H2 (fun o H3 => o = none ∧ H3 = H2) I2 ⟨rfl, rfl⟩) ?_
  intro vu s3 ⟨u, H3, I3, pu, eu, e3⟩
  subst eu e3
  refine thn (stp.run pins s3 σ H3 (fun o H4 => o = some (-1) ∧ H4 = H3) I3 ⟨1, rfl, -1, rfl, rfl, rfl⟩) ?_
  intro vs s4 ⟨o, H4, I4, ps, eo, e4⟩
  subst eo e4
  have I5 : Inv X pins σ H4 { s4 with heap := s4.heap.push { cls := .type "slice", data := .fields #[vl, vu, vs] } } :=
    I4.kept (t' := s4.toks) fun _ _ g => Heap.get?_push_of_some _ g
  show wpAny (model X.prog X.w) X.A (subscriptTail e (.Slice none none (some (.UnaryOp .USub (.Constant (.int 1) k p1) p2)) p3) (.ref a) (.ref s4.heap.objs.size))
    (EP X pins σ Q) X.xe { s4 with heap := s4.heap.push { cls := .type "slice", data := .fields #[vl, vu, vs] } }
  rcases q with ⟨hx, q⟩ | ⟨hx, q⟩
  · obtain ⟨its, r, ht, hz⟩ := I5.list hx
    have hlen := r.length
    refine tail_any (ops := [.ref a, .ref s4.heap.objs.size]) ht.isList.typeIs (PySem.slot_list_getitem.lookup) ?_
      (by with_unfolding_all rfl)
    refine wpAny_getItem_list_slice ht.isList (Heap.IsSliceOf.new _ vl vu vs) pl pu ps (by decide) ?_
      (by rw [List.size_toArray]; omega)
    rw [PySem.W.krv_pick]
    exact ⟨.ref _, _, I5.laid (t' := s4.toks) (o := .lst xs.reverse) (fun _ _ g => Heap.get?_push_of_some _ g) (Nat.le_refl _)
      ⟨by rw [List.length_reverse]; exact hz, _, 0, r.reverse, Heap.get?_push_size _ rfl⟩, rfl, q _ (I5.hok.fresh (Nat.le_refl _))⟩
  · obtain ⟨its, r, ht, hz⟩ := I5.tuple hx
    have hlen := r.length
    cases pl
    cases pu
    cases ps
    rename_i tk
    refine tail_any (ops := [.ref a, .ref s4.heap.objs.size]) ht.typeIs PyProof.Rows.slot_tuple_getitem.lookup ?_
      (by with_unfolding_all rfl)
    refine getItem_tuple_rev ht (Heap.IsSliceOf.new _ .none .none (.int (-1) tk)) ?_ (by rw [List.size_toArray]; omega)
    exact laidQ I5 r.reverse (by rw [List.length_reverse]; exact hz) (q _)
theorem v_rev {k : Nat} {p1 p2 p3 : Pos} (he : PE X e (tO X.K W fa)) : PE X (.Subscript e (.Slice none none (some (.UnaryOp .USub (.Constant (.int 1) k p1) p2)) p3) pos) (tO X.K W (eRev fa)) := pe_of (pe_revA he) fun s H Q ⟨r, e, a, T, h⟩ => by
  refine tO_mono (tO_bind T h) fun x H1 ⟨r1, v, a1, m1, T1, hv, h1⟩ => ?_
  cases hv with
  | @tup l b xs ht hs =>
    have h2 : Fin X.K (fun c d H' => W c d s H') r1 a1.n H1 (relV X.K) Q (.ok (.tup l.reverse) a1) := h1
    exact ⟨b, xs, rfl, .inr ⟨ht.sq, fun us p hp => out_t h2 T1.sr hs.rev hp⟩⟩
  | @rol l b xs ht hs =>
    have h2 : Fin X.K (fun c d H' => W c d s H') r1 a1.n H1 (relV X.K) Q (.ok (.ref a1.n) (a1.new (.lst l.reverse))) := h1
    exact ⟨b, xs, rfl, .inl ⟨ht.sq, fun p hp => out_l h2 T1.sr hs.rev hp⟩⟩
  | @ref i hi =>
    have h2 : Fin X.K (fun c d H' => W c d s H') r1 a1.n H1 (relV X.K) Q (match a1.get i with | some (.lst l) => .ok (.ref a1.n) (a1.new (.lst l.reverse)) | _ => .no) := h1
    split at h2
    · rename_i l e1
      obtain ⟨xs, hx, rx⟩ := T1.sr.lst e1
      exact ⟨_, xs, rfl, .inl ⟨SqL.of hx, fun p hp => out_l h2 T1.sr rx.rev hp⟩⟩
    · exact h2.elim
  | _ => exact h1.elim
end
end VI
end
section
set_option maxRecDepth 100000
set_option maxHeartbeats 4000000
/-! Stores, attributes, dict displays. -/
namespace VI
open PySem PySem.Spec PyProof.Rows L2 PySem.SeqAt

/-! ### o[i] = v -/
def setO (o i v : PV) (a : AH) : Option AH := match o with
  | .ref p => match a.get p with
    | some (.dct l) => match keyOf i with
      | some q => match Nat.blt l.length LIM with
        | true => some (a.put p (.dct (dput l q v)))
        | false => none
      | none => none
    | some (.lst l) => match i with
      | .int k => match ixN l.length k with
        | some j => some (a.put p (.lst (l.set j v)))
        | none => none
      | _ => none
    | _ => none
  | _ => none
def gSub (fo fi : FE) : GT := fun v e a => xB e (fo e a) fun o a1 => xB e (fi e a1) fun i a2 => match setO o i v a2 with
  | some a3 => .nx e a3
  | none => .no
def rSetO (K : PySem.W.Frag) : TSet := fun o i v H Q => ∃ r po pi pv a a', SR K r a H ∧ VR K r a.n H po o ∧ VR K r a.n H pi i ∧ VR K r a.n H pv v ∧ setO po pi pv a = some a' ∧ ∀ r' H', Mo K r a.n H r' a'.n H' → SR K r' a' H' → Q H'
/-- a dict written -/
theorem out_d {K : PySem.W.Frag} {r : Nat → Addr} {a : AH} {H : Hp} {Q : Hp → Prop} {i : Nat} {l : List (Key × PV)} {xs : List (Key × V)} (h : ∀ r' H', Mo K r a.n H r' (a.put i (.dct l)).n H' → SR K r' (a.put i (.dct l)) H' → Q H') (S : SR K r a H) (hi : i < a.n)
    (hx : FR K r a.n H l xs) : Q (upd H (r i) (.dK xs)) := h r _ (S.mo_put hi _) (S.put hi (.dct upd_same (hx.mo (S.mo_put hi _))))
section
variable {X : Cx} {W : WX} {fo fi fv : FE} {o i e : Expr} {pos : Pos}
theorem set_O (hu : X.A.units + 64 < cLine) : PSet X (rSetO X.K) := by
  intro pins s σ H o i v ov iv u Q I ro ri rv ⟨r, po, pi, pv, a, a', S, ho, hi, hv, e, k⟩
  unfold setO at e
  split at e
  · rename_i p
    obtain ⟨hp, rfl⟩ := vr_ref ho
    split at e
    · rename_i l e1
      split at e
      · rename_i q e2
        split at e
        · rename_i e3
          cases e
          have ek := keyOf_rel hi e2
          subst ek
          obtain ⟨xs, hx, rx⟩ := S.dct e1
          have hl : l.length < 1000000 := Nat.le_of_ble_eq_true e3
          exact set_dict (by omega) pins s σ H _ _ _ ov iv u Q I ro ri rv ⟨_, _, rfl, DPut.k hx (by rw [← rx.length, sizeLine_eq]; omega), out_d k S hp (dput_rel rx hv)⟩
        · cases e
      · cases e
    · rename_i l e1
      split at e
      · rename_i n
        cases vr_int hi
        split at e
        · rename_i j e2
          cases e
          obtain ⟨xs, hx, rx⟩ := S.lst e1
          exact set_list pins s σ H _ _ _ ov iv u Q I ro ri rv ⟨_, xs, n, j, rfl, rfl, hx, by rw [← rx.length]; exact e2, k r _ (S.mo_put hp _) (S.put hp (.lst upd_same ((rx.set hv j).mo (S.mo_put hp _))))⟩
        · cases e
      · cases e
    · cases e
  · cases e
theorem g_sub (hu : X.A.units + 64 < cLine) (ho : PE X o (tO X.K W fo)) (hi : PE X i (tO X.K W fi)) (ha : ∀ v, assign (.Subscript o i pos) X.env v = (do
      let ov ← holding [v] (eval o X.env)
      let iv ← holding [v, ov] (eval i X.env)
      standAt pos
      holding [v, ov, iv] (setItem ov iv v)
      release [v, ov, iv] []) := by intro _; rfl) : PG X (.Subscript o i pos) (tG X.K W false (gSub fo fi)) := pg_of (pg_sub ho hi (set_O hu) ha) fun x s H Q ⟨r, e, a, v, T, hv, h⟩ => by
  refine tO_mono (xB_bind T h) fun y H1 ⟨r1, po, a1, m1, T1, hpo, h1⟩ => ?_
  refine tO_mono (xB_bind T1 h1) fun z H2 ⟨r2, pi, a2, m2, T2, hpi, h2⟩ => ?_
  split at h2
  · rename_i a3 e1
    have h3 : FinS X.K W (gD Q) r2 a2.n H2 (.nx e a3) := h2
    exact ⟨r2, po, pi, v, a2, a3, T2.sr, hpo.mo m2, hpi, (hv.vr.mo m1).mo m2, e1, fun r' H' m S => h3 r' s H' m (T2.mo m S)⟩
  · exact h2.elim
/-! ### attributes -/
def flook : List (Str × PV) → Str → Option PV
  | [], _ => none
  | (g, v) :: l, f => match decide (g = f) with
    | true => some v
    | false => flook l f
def fput (f : Str) (v : PV) : List (Str × PV) → List (Str × PV)
  | [] => [(f, v)]
  | (g, x) :: l => match decide (g = f) with
    | true => (g, v) :: l
    | false => (g, x) :: fput f v l
theorem flook_rel {K : PySem.W.Frag} {r : Nat → Addr} {n : Nat} {H : Hp} {f : Str} {v : PV} : ∀ {l : List (Str × PV)} {xs : List (Str × V)}, FR K r n H l xs → flook l f = some v → ∃ x, xs.lookup f = some x ∧ VR K r n H v x
  | _, _, .nil, e => by cases e
  | _, _, .cons (k := g) (v := w) (x := y) (l := l) (xs := xs) h hs, e => by
    have e' : (match decide (g = f) with | true => some w | false => flook l f) = some v := e
    by_cases q : g = f
    · rw [decide_eq_true q] at e'
      cases e'
      exact ⟨y, by rw [List.lookup_cons, q, beq_self_eq_true] <;> rfl, h⟩
    · rw [decide_eq_false q] at e'
      obtain ⟨x, h1, h2⟩ := flook_rel hs e'
      have qb : (f == g) = false := beq_eq_false_iff_ne.mpr (Ne.symm q)
      exact ⟨x, by rw [List.lookup_cons, qb]; exact h1, h2⟩
theorem fput_rel {K : PySem.W.Frag} {r : Nat → Addr} {n : Nat} {H : Hp} {f : Str} {v : PV} {y : V} (hv : VR K r n H v y) : ∀ {l : List (Str × PV)} {xs : List (Str × V)}, FR K r n H l xs → FR K r n H (fput f v l) (putF f y xs)
  | _, _, .nil => .cons hv .nil
  | _, _, .cons (k := g) (v := w) (x := z) (l := l) (xs := xs) h hs => by
    show FR K r n H (match decide (g = f) with | true => (g, v) :: l | false => (g, w) :: fput f v l) (if g = f then (g, y) :: xs else (g, z) :: putF f y xs)
    by_cases q : g = f
    · rw [decide_eq_true q, if_pos q]; exact .cons hv hs
    · rw [decide_eq_false q, if_neg q]; exact .cons h (fput_rel hv hs)
/-- the classes at which f is read and written -/
def FldOk (K : PySem.W.Frag) (cs : List Str) (f : Str) : Prop := ∀ c, c ∈ cs → Cls K (He.ga K c) ∧ NoAttr K (He.ga K c) f
def isIn (c : Str) : List Str → Bool
  | [] => false
  | d :: l => match decide (d = c) with
    | true => true
    | false => isIn c l
theorem isIn_mem {c : Str} : ∀ {l : List Str}, isIn c l = true → c ∈ l
  | d :: l, h => by
    have h' : (match decide (d = c) with | true => true | false => isIn c l) = true := h
    by_cases q : d = c
    · exact q ▸ List.mem_cons_self
    · rw [decide_eq_false q] at h'
      exact List.mem_cons_of_mem _ (isIn_mem h')
def getF (cs : List Str) (f : Str) (v : PV) (a : AH) : Option PV := match v with
  | .ref i => match a.get i with
    | some (.ins c fs) => match isIn c cs with
      | true => flook fs f
      | false => none
    | _ => none
  | _ => none
def eFld (cs : List Str) (f : Str) (fo : FE) : FE := fun e a => (fo e a).bind fun v a1 => match getF cs f v a1 with
  | some u => .ok u a1
  | none => .no
theorem v_fld {cs : List Str} {f : Str} (hc : FldOk X.K cs f) (ho : PE X o (tO X.K W fo)) (hb : attributeBase o f X.env (eval o X.env) = eval o X.env := by rfl) : PE X (.Attribute o f pos) (tO X.K W (eFld cs f fo)) := pe_of (pe_fld ho hb) fun s H Q ⟨r, e, a, T, h⟩ => by
  refine tO_mono (tO_bind T h) fun x H1 ⟨r1, v, a1, m1, T1, hv, h1⟩ => ?_
  split at h1
  · rename_i u e1
    unfold getF at e1
    split at e1
    · rename_i i
      obtain ⟨hi, rfl⟩ := vr_ref hv
      split at e1
      · rename_i c fs e2
        split at e1
        · rename_i e3
          obtain ⟨c1, c2⟩ := hc c (isIn_mem e3)
          cases T1.sr.ob i _ e2 with
          | ins hh hs =>
            obtain ⟨y, l1, l2⟩ := flook_rel hs e1
            have h2 : Fin X.K (fun c d H' => W c d s H') r1 a1.n H1 (relV X.K) Q (.ok u a1) := h1
            exact ⟨_, _, _, _, y, rfl, hh, c1, c2, l1, h2.here T1.sr l2⟩
        · cases e1
      · cases e1
    · cases e1
  · exact h1.elim
def setF (cs : List Str) (f : Str) (o v : PV) (a : AH) : Option AH := match o with
  | .ref i => match a.get i with
    | some (.ins c fs) => match isIn c cs && Nat.blt fs.length 1000 with
      | true => some (a.put i (.ins c (fput f v fs)))
      | false => none
    | _ => none
  | _ => none
/-- o.f = v -/
def sFld (cs : List Str) (f : Str) (fo fv : FE) : GS := fun e a => xB e (fv e a) fun v a1 => xB e (fo e a1) fun o a2 => match setF cs f o v a2 with
  | some a3 => .nx e a3
  | none => .no
theorem sx_fld {cs : List Str} {f : Str} {pos' : Pos} (hc : FldOk X.K cs f) (ho : PE X o (tO X.K W fo)) (hv : PE X e (tO X.K W fv)) (hs : swapsWith e (some (.Attribute o f pos')) pos.line X.env = pure false := by rfl) : PS X (.Assign [.Attribute o f pos'] e pos) (tX X.K W (sFld cs f fo fv)) := ps_of (ps_fld ho hv hs) fun D s H ⟨r, e, a, T, h⟩ => by
  refine tO_mono (xB_bind T h) fun y H1 ⟨r1, v, a1, m1, T1, hv, h1⟩ => ?_
  refine tO_mono (xB_bind T1 h1) fun x H2 ⟨r2, o, a2, m2, T2, ho, h2⟩ => ?_
  split at h2
  · rename_i a3 e1
    unfold setF at e1
    split at e1
    · rename_i i
      obtain ⟨hi, rfl⟩ := vr_ref ho
      split at e1
      · rename_i c fs e2
        split at e1
        · rename_i e3
          cases e1
          rw [Bool.and_eq_true] at e3
          obtain ⟨c1, c2⟩ := hc c (isIn_mem e3.1)
          cases T2.sr.ob i _ e2 with
          | @ins _ dx _ xs hh hs =>
            have hl : fs.length < 1000 := Nat.le_of_ble_eq_true e3.2
            have h3 : FinS X.K W D r2 a2.n H2 (.nx e (a2.put i (.ins c (fput f v fs)))) := h2
            have m := T2.sr.mo_put hi (.ins (He.ga X.K c) dx (putF f y xs))
            exact ⟨_, _, _, _, rfl, hh, c1, c2, by rw [← hs.length]; exact hl, h3 r2 s _ m (T2.mo m (T2.sr.put hi (.ins upd_same ((fput_rel (hv.mo m2) hs).mo m))))⟩
        · cases e1
      · cases e1
    · cases e1
  · exact h2.elim
end
/-! ### dict displays -/
def eDNew : FE := fun _ a => .ok (.ref a.n) (a.new (.dct []))
theorem v_dnew {X : Cx} {W : WX} {pos : Pos} : PE X (.Dict [] [] pos) (tO X.K W eDNew) := pe_of pe_dnewK fun s H Q ⟨r, e, a, T, h⟩ p hp => by
  have h2 : Fin X.K (fun c d H' => W c d s H') r a.n H (relV X.K) Q (.ok (.ref a.n) (a.new (.dct []))) := h
  have z := h2 (rn r a.n p) _ (V.ref (rn r a.n p a.n)) (mo_new hp (.dK [])) (T.sr.new hp (.dct upd_same .nil)) (.ref (Nat.lt_succ_self _))
  rw [rn_self] at z
  exact z
abbrev FP := Env → AH → R (List (PV × PV))
def pNil : FP := fun _ a => .ok [] a
def pCons (fk fv : FE) (fr : FP) : FP := fun e a => (fk e a).bind fun k a1 => (fv e a1).bind fun v a2 => (fr e a2).bind fun ps a3 => .ok ((k, v) :: ps) a3
inductive PRs (K : PySem.W.Frag) (r : Nat → Addr) (n : Nat) (H : Hp) : List (PV × PV) → List (V × V) → Prop where
  | nil : PRs K r n H [] []
  | cons {k v : PV} {x y : V} {l : List (PV × PV)} {xs : List (V × V)} (hk : VR K r n H k x) (hv : VR K r n H v y) (hs : PRs K r n H l xs) : PRs K r n H ((k, v) :: l) ((x, y) :: xs)
/-- the pairs of a display compute f -/
structure PP (X : Cx) (W : WX) (pos : Pos) (keys : List (Option Expr)) (values : List Expr) (f : FP) : Prop where
  ex : ∃ trs, PPs X pos keys values trs ∧ ∀ s H Q r e a, ST X.K r e a s H → Fin X.K (fun c d H' => W c d s H') r a.n H (fun r n H v x => PRs X.K r n H v x) Q (f e a) → tPairs trs s H Q
section
variable {X : Cx} {W : WX} {pos : Pos}
theorem pp_nil : PP X W pos [] [] pNil := ⟨[], pps_nil, fun s H Q r e a T h => by
  have h2 : Fin X.K (fun c d H' => W c d s H') r a.n H (fun r n H v x => PRs X.K r n H v x) Q (.ok [] a) := h
  exact h2 r H [] .refl T.sr .nil⟩
theorem pp_cons {k v : Expr} {ks : List (Option Expr)} {vs : List Expr} {fk fv : FE} {fr : FP} (hk : PE X k (tO X.K W fk)) (hv : PE X v (tO X.K W fv)) (hr : PP X W pos ks vs fr) : PP X W pos (some k :: ks) (v :: vs) (pCons fk fv fr) := by
  obtain ⟨trs, h1, h2⟩ := hr.ex
  refine ⟨_, pps_cons hk hv h1, fun s H Q r e a T h => ?_⟩
  refine tO_mono (tO_bind T h) fun x H1 ⟨r1, k1, a1, m1, T1, hk1, h3⟩ => ?_
  refine tO_mono (tO_bind T1 h3) fun y H2 ⟨r2, v2, a2, m2, T2, hv2, h4⟩ => ?_
  refine h2 s H2 _ r2 e a2 T2 ?_
  cases q : fr e a2 with
  | ok ps a3 =>
    rw [q] at h4
    have h5 : Fin X.K (fun c d H' => W c d s H') r2 a2.n H2 (fun r n H v x => PRs X.K r n H v x) Q (.ok ((k1, v2) :: ps) a3) := h4
    exact fun r3 H3 xs m3 S3 hx => h5 r3 H3 _ m3 S3 (.cons ((hk1.mo m2).mo m3) (hv2.mo m3) hx)
  | er c fs a3 => rw [q] at h4; exact h4
  | no => rw [q] at h4; exact h4.elim
def keyedP : List (PV × PV) → Option (List (Key × PV))
  | [] => some []
  | (k, v) :: l => match keyOf k with
    | some q => match keyedP l with
      | some m => some ((q, v) :: m)
      | none => none
    | none => none
theorem keyedP_rel {K : PySem.W.Frag} {r : Nat → Addr} {n : Nat} {H : Hp} : ∀ {l : List (PV × PV)} {xs : List (V × V)} {m : List (Key × PV)}, keyedP l = some m → PRs K r n H l xs → ∃ ys, FR K r n H m ys ∧ xs = ys.map fun kv => (kV kv.1, kv.2)
  | [], _, _, e, .nil => by cases e; exact ⟨[], .nil, rfl⟩
  | (k, v) :: l, _, m, e, .cons hk hv hs => by
    have e' : (match keyOf k with | some q => (match keyedP l with | some m => some ((q, v) :: m) | none => none) | none => none) = some m := e
    split at e'
    · rename_i q e1
      split at e'
      · rename_i m' e2
        cases e'
        obtain ⟨ys, h1, h2⟩ := keyedP_rel e2 hs
        have := keyOf_rel hk e1
        subst this
        exact ⟨(q, _) :: ys, .cons hv h1, by rw [h2] <;> rfl⟩
      · cases e'
    · cases e'
def mergeP (l : List (Key × PV)) : List (Key × PV) → List (Key × PV)
  | [] => l
  | (q, v) :: m => mergeP (dput l q v) m
theorem mergeP_rel {K : PySem.W.Frag} {r : Nat → Addr} {n : Nat} {H : Hp} : ∀ {m l : List (Key × PV)} {ys xs : List (Key × V)}, FR K r n H l xs → FR K r n H m ys → FR K r n H (mergeP l m) (mergeK xs ys)
  | _, _, _, _, h, .nil => h
  | _, l, _, xs, h, .cons (k := q) (v := v) (x := y) (l := m) (xs := ys) hv hs => by
    show FR K r n H (mergeP (dput l q v) m) (mergeK (putK xs q y) ys)
    exact mergeP_rel (dput_rel h hv) hs
def eDisp (fp : FP) : FE := fun e a => (fp e (a.new (.dct []))).bind fun ps a1 => match a1.get a.n with
  | some (.dct []) => match keyedP ps with
    | some kvs => match Nat.ble kvs.length 15 with
      | true => .ok (.ref a.n) (a1.put a.n (.dct (mergeP [] kvs)))
      | false => .no
    | none => .no
  | _ => .no
theorem v_disp {keys : List (Option Expr)} {values : List Expr} {fp : FP} (h : PP X W pos keys values fp) (hall : keys.all (·.isSome) = true := by rfl) (hl : keys.length = values.length := by rfl) (h0 : keys ≠ [] := by exact fun h => nomatch h)
    (h15 : keys.length ≤ 15 := by decide) : PE X (.Dict keys values pos) (tO X.K W (eDisp fp)) := by
  obtain ⟨trs, hp, ht⟩ := h.ex
  refine pe_of (pe_disp hp hall hl h0 h15) fun s H Q ⟨r, e, a, T, h⟩ p np => ?_
  have m0 := mo_new (K := X.K) (r := r) (n := a.n) np (.dK [])
  have S0 := T.sr.new np (o := .dct []) (u := .dK []) (.dct upd_same .nil)
  have T0 : ST X.K (rn r a.n p) e (a.new (.dct [])) s (upd H p (.dK [])) := T.mo m0 S0
  refine ht s _ _ _ e _ T0 ?_
  cases q : fp e (a.new (.dct [])) with
  | er c fs a1 =>
    have h1 : Fin X.K (fun c d H' => W c d s H') r a.n H (relV X.K) Q ((fp e (a.new (.dct []))).bind fun ps a1 => match a1.get a.n with
      | some (.dct []) => match keyedP ps with
        | some kvs => match Nat.ble kvs.length 15 with
          | true => .ok (.ref a.n) (a1.put a.n (.dct (mergeP [] kvs)))
          | false => .no
        | none => .no
      | _ => .no) := h
    rw [q] at h1
    have h2 := Fin.later m0 h1
    exact h2
  | no =>
    have h1 : Fin X.K (fun c d H' => W c d s H') r a.n H (relV X.K) Q ((fp e (a.new (.dct []))).bind fun ps a1 => match a1.get a.n with
      | some (.dct []) => match keyedP ps with
        | some kvs => match Nat.ble kvs.length 15 with
          | true => .ok (.ref a.n) (a1.put a.n (.dct (mergeP [] kvs)))
          | false => .no
        | none => .no
      | _ => .no) := h
    rw [q] at h1
    exact h1.elim
  | ok ps a1 =>
    have h1 : Fin X.K (fun c d H' => W c d s H') r a.n H (relV X.K) Q ((fp e (a.new (.dct []))).bind fun ps a1 => match a1.get a.n with
      | some (.dct []) => match keyedP ps with
        | some kvs => match Nat.ble kvs.length 15 with
          | true => .ok (.ref a.n) (a1.put a.n (.dct (mergeP [] kvs)))
          | false => .no
        | none => .no
      | _ => .no) := h
    rw [q] at h1
    intro r1 H1 xs m1 S1 hx
    have h2 : Fin X.K (fun c d H' => W c d s H') r a.n H (relV X.K) Q (match a1.get a.n with
      | some (.dct []) => match keyedP ps with
        | some kvs => match Nat.ble kvs.length 15 with
          | true => .ok (.ref a.n) (a1.put a.n (.dct (mergeP [] kvs)))
          | false => .no
        | none => .no
      | _ => .no) := h1
    split at h2
    · rename_i e1
      split at h2
      · rename_i kvs e2
        split at h2
        · rename_i e3
          have hp1 : r1 a.n = p := (m1.at_ a.n (Nat.lt_succ_self _)).trans rn_self
          have hin : a.n < a1.n := Nat.lt_of_lt_of_le (Nat.lt_succ_self _) m1.le
          obtain ⟨zs, hz, rz⟩ := S1.dct e1
          cases rz
          obtain ⟨ys, hy, ey⟩ := keyedP_rel e2 hx
          rw [hp1] at hz
          have hl : kvs.length ≤ 15 := Nat.le_of_ble_eq_true e3
          refine ⟨hz, ys, ey, by rw [← hy.length]; exact hl, ?_⟩
          have h3 := Fin.later (m0.trans m1) h2
          have z := out_d (Q := fun H' => Q (.ref p) H') (fun r' H' m S => ?_) S1 hin (mergeP_rel .nil hy)
          · rw [hp1] at z
            exact z
          · have h4 : Fin X.K (fun c d H' => W c d s H') r1 a1.n H1 (relV X.K) Q (.ok (.ref a.n) (a1.put a.n (.dct (mergeP [] kvs)))) := h3
            have w := h4 r' H' (.ref (r' a.n)) m S (.ref (Nat.lt_of_lt_of_le hin m.le))
            rw [m.at_ a.n hin, hp1] at w
            exact w
        · exact h2.elim
      · exact h2.elim
    · exact h2.elim
/-! ### d.update(e) -/
def mUpdate (v : PV) (vs : List PV) (a : AH) : Option (PV × AH) := match v with
  | .ref i => match vs with
    | [.ref j] => match Nat.beq i j with
      | true => none
      | false => match a.get i with
        | some (.dct l) => match a.get j with
          | some (.dct m) => match Nat.ble (l.length + m.length) LIM with
            | true => some (.non, a.put i (.dct (mergeP l m)))
            | false => none
          | _ => none
        | _ => none
    | _ => none
  | _ => none
theorem m_update : MtR X "dict.update" (rM X.K mUpdate) := by
  intro pins s σ H x xs v us Q I rx rxs q
  obtain ⟨r, pv, vs, a, v', a', S, hv, hs, e, k⟩ := q
  unfold mUpdate at e
  split at e
  · rename_i i
    split at e
    · rename_i j
      split at e
      · cases e
      · rename_i e0
        rw [Tr.beq_nat] at e0
        have hne : i ≠ j := of_decide_eq_false e0
        split at e
        · rename_i l e1
          split at e
          · rename_i m e2
            split at e
            · rename_i e3
              cases e
              obtain ⟨hi, rfl⟩ := vr_ref hv
              obtain ⟨y, rfl, hy⟩ := vs_one hs
              obtain ⟨hj, rfl⟩ := vr_ref hy
              obtain ⟨xs, hx, rx1⟩ := S.dct e1
              obtain ⟨ys, hy1, ry1⟩ := S.dct e2
              obtain ⟨u, rfl, ru⟩ := vals1 rxs
              cases (show v = Value.ref _ from rx)
              cases (show u = Value.ref _ from ru)
              obtain ⟨z1, d1, vs1, k1, dd1⟩ := dk_of I.hok hx
              obtain ⟨z2, d2, vs2, k2, dd2⟩ := dk_of I.hok hy1
              have hl : l.length + m.length ≤ 1000000 := Nat.le_of_ble_eq_true e3
              have l1 := rx1.length
              have l2 := ry1.length
              have l3 := k1.length
              have l4 := k2.length
              have hd : r i ≠ r j := fun z => hne (S.inj i j hi hj z)
              refine call_meetsIn PySem.F.slot_dict_update dd1.typeIs PySem.F.entry_dict_update (PySem.F.args_dict_update_2 _ _) (meets_dict_update (mixKind X.prog X.w) (r i) (r j) hd d2)
                ⟨vs1, vs2, dd1, dd2, by rw [sizeLine_eq]; omega, fun h' w1 _ hs => ⟨.non, _, ?_, rfl, out_d (Q := fun H' => Q .non H') (fun r' H' m S => k r' H' .non m S .non) S hi (mergeP_rel rx1 ry1)⟩⟩
              have he : ∃ q, h'.get? (r i) = some q := let ⟨q, _, _, hq, _⟩ := w1; ⟨q, hq⟩
              have h5 := length_mergeK ys xs
              exact d_write I (by rw [hx]; exact True.intro) hs he (dk_new (by rw [sizeLine_eq]; omega) d1 (k2.merge k1) w1)
            · cases e
          · cases e
        · cases e
    · cases e
  · cases e
end
end VI
end
section
set_option maxRecDepth 100000
set_option maxHeartbeats 4000000
/-! Comprehensions by plain values. -/
namespace VI
open PySem PySem.Spec PyProof.Rows L2 PySem.SeqAt

/-- the block's own slots forgotten -/
def unput : Env → Nat → Env
  | [], _ => []
  | _ :: e, 0 => none :: e
  | o :: e, i + 1 => o :: unput e i
theorem unput_is : ∀ (e : Env) (i : Nat), unput e i = e.set i none
  | [], _ => by simp [unput]
  | _ :: _, 0 => rfl
  | _ :: e, i + 1 => by rw [unput, unput_is e i] <;> rfl
def wipeE (e : Env) : List Nat → Env
  | [] => e
  | v :: vs => unput (wipeE e vs) v
theorem ER.unset {K : PySem.W.Frag} {r : Nat → Addr} {n : Nat} {H : Hp} {e : Env} {s : L2.St} (h : ER K r n H e s) (i : Nat) : ER K r n H (e.set i none) (s.set i none) := fun j w q => by
  by_cases hj : i = j
  · subst hj
    by_cases hi : i < e.length
    · rw [List.getElem?_set_self hi] at q; cases q
    · rw [List.getElem?_eq_none (by rw [List.length_set]; omega)] at q; cases q
  · rw [List.getElem?_set_ne hj] at q ⊢
    exact h j w q
theorem ST.wipe {K : PySem.W.Frag} {r : Nat → Addr} {e : Env} {a : AH} {s : L2.St} {H : Hp} (T : ST K r e a s H) : ∀ vs : List Nat, ST K r (wipeE e vs) a (L2.wipe s vs) H
  | [] => T
  | v :: vs => by
    have ih := ST.wipe T vs
    show ST K r (unput (wipeE e vs) v) a ((L2.wipe s vs).set v none) H
    rw [unput_is]
    exact ⟨ih.sr, ih.er.unset v, by rw [List.length_set, List.length_set]; exact ih.ln⟩
theorem wipe_put (vs : List Nat) (s : L2.St) (i : Nat) (o : Option V) (h : i ∈ vs) : L2.wipe (s.set i o) vs = L2.wipe s vs := by
  induction vs with
  | nil => cases h
  | cons v vs ih =>
    show (L2.wipe (s.set i o) vs).set v none = (L2.wipe s vs).set v none
    by_cases hv : i ∈ vs
    · rw [ih hv]
    · have hiv : i = v := by
        rcases List.mem_cons.mp h with h | h
        · exact h
        · exact absurd h hv
      subst hiv
      have go : ∀ (us : List Nat), i ∉ us → L2.wipe (s.set i o) us = (L2.wipe s us).set i o := by
        intro us
        induction us with
        | nil => intro _; rfl
        | cons u us ih2 =>
          intro hn
          have hu : i ≠ u := fun e => hn (e ▸ List.mem_cons_self)
          show (L2.wipe (s.set i o) us).set u none = ((L2.wipe s us).set u none).set i o
          rw [ih2 fun hm => hn (List.mem_cons_of_mem _ hm), List.set_comm _ _ hu]
      rw [go vs hv, List.set_set]
theorem wipe_wipe (vs : List Nat) (s : L2.St) : L2.wipe (L2.wipe s vs) vs = L2.wipe s vs := by
  have go : ∀ (us : List Nat), (∀ u ∈ us, u ∈ vs) → L2.wipe (L2.wipe s us) vs = L2.wipe s vs := by
    intro us
    induction us with
    | nil => intro _; rfl
    | cons u us ih =>
      intro h
      show L2.wipe ((L2.wipe s us).set u none) vs = _
      rw [wipe_put vs _ u none (h u List.mem_cons_self), ih fun x hx => h x (List.mem_cons_of_mem _ hx)]
  exact go vs fun _ h => h
/-- a target of a comprehension: names, tuples of names; the slots that stand -/
abbrev BT := PV → Env → Option Env
def bNm (i : Nat) : BT := fun v e => some (put e i v)
def bsNil : List PV → Env → Option Env := fun vs e => match vs with
  | [] => some e
  | _ => none
def bsCons (b : BT) (k : List PV → Env → Option Env) : List PV → Env → Option Env := fun vs e => match vs with
  | v :: l => match b v e with
    | some e1 => k l e1
    | none => none
  | [] => none
def bTu (n : Nat) (k : List PV → Env → Option Env) : BT := fun v e => match v with
  | .tup l => match Nat.beq l.length n with
    | true => k l e
    | false => none
  | _ => none
/-- the reading binds as b -/
def Bd (K : PySem.W.Frag) (vs : List Nat) (w : Bool) (g : TG) (b : BT) : Prop := ∀ (r : Nat → Addr) (e : Env) (a : AH) (s : L2.St) (H : Hp) (v : PV) (x : V) (Q : L2.St → Hp → Prop) (e' : Env), ST K r e a s H → Vx w K r a.n H v x → b v e = some e' →
  (∀ s', ST K r e' a s' H → L2.wipe s' vs = L2.wipe s vs → Q s' H) → g x s H Q
def Bds (K : PySem.W.Frag) (vs : List Nat) (g : TGs) (b : List PV → Env → Option Env) : Prop := ∀ (r : Nat → Addr) (e : Env) (a : AH) (s : L2.St) (H : Hp) (l : List PV) (xs : List V) (Q : L2.St → Hp → Prop) (e' : Env), ST K r e a s H → VRs K r a.n H l xs → b l e = some e' →
  (∀ s', ST K r e' a s' H → L2.wipe s' vs = L2.wipe s vs → Q s' H) → g xs s H Q
/-- a comprehension's target in every block -/
def BG (X : Cx) (scope : Scope) (vs : List Nat) (w : Bool) (tg : Expr) (b : BT) : Prop := ∃ g, (∀ (s : Shared) (H : Hp) (C : Addr) (cl : List (Str × Addr)) (fp : List Addr), PG (X.blk s H scope (compEnvC scope cl C X.env) fp) tg g) ∧ Bd X.K vs w g b
def BGs (X : Cx) (scope : Scope) (vs : List Nat) (tgs : List Expr) (b : List PV → Env → Option Env) : Prop := ∃ g, (∀ (s : Shared) (H : Hp) (C : Addr) (cl : List (Str × Addr)) (fp : List Addr), PGs (X.blk s H scope (compEnvC scope cl C X.env) fp) tgs g) ∧ Bds X.K vs g b
section
variable {X : Cx} {scope : Scope} {vs : List Nat} {tg : Expr} {tgs : List Expr} {pos : Pos} {b : BT} {k : List PV → Env → Option Env}
theorem b_nm (i : Nat) {x : Str} (hN : X.N.Nodup) (hv : i ∈ vs := by decide) (hi : X.N[i]? = some x := by rfl) (hl : (relabel scope X.env).names.lookup x = some .local := by rfl) : BG X scope vs false (.Name x pos) (bNm i) := by
  refine ⟨gName i, fun s H C cl fp => pg_name (X := X.blk s H scope (compEnvC scope cl C X.env) fp) hN hi (.inl hl) (.inr hl), ?_⟩
  intro r e a s H v x Q e' T hx eb q
  cases eb
  exact q _ (T.set i hx.vr) (wipe_put vs s i _ hv)
theorem bs_nil : BGs X scope vs [] bsNil := ⟨gNil, fun s H C cl fp => pgs_nil, fun r e a s H l xs Q e' T hx eb q => by
  cases hx with
  | nil => cases eb; exact ⟨rfl, q s T rfl⟩
  | cons _ _ => cases eb⟩
theorem bs_cons (h1 : BG X scope vs false tg b) (h2 : BGs X scope vs tgs k) (hs : ∀ C cl, (assignEach (tg :: tgs) (compEnvC scope cl C X.env)).map (·.2) = assign tg (compEnvC scope cl C X.env) :: (assignEach tgs (compEnvC scope cl C X.env)).map (·.2) := by intros; rfl) : BGs X scope vs (tg :: tgs) (bsCons b k) := by
  obtain ⟨g, p1, p2⟩ := h1
  obtain ⟨gs, q1, q2⟩ := h2
  refine ⟨gCons g gs, fun s H C cl fp => pgs_cons (p1 s H C cl fp) (q1 s H C cl fp) (hs C cl), fun r e a s H l xs Q e' T hx eb q => ?_⟩
  cases hx with
  | nil => cases eb
  | @cons v x l xs hv hs =>
    have eb' : (match b v e with | some e1 => k l e1 | none => none) = some e' := eb
    split at eb'
    · rename_i e1 z
      refine ⟨x, xs, rfl, p2 r e a s H v x _ e1 T (.inl hv) z fun s1 T1 w1 => ?_⟩
      exact q2 r e1 a s1 H l xs _ e' T1 hs eb' fun s2 T2 w2 => q s2 T2 (w2.trans w1)
    · cases eb'
theorem b_tup {w : Bool} {n j : Nat} (hc : X.calm = true) (h : BGs X scope vs tgs k) (hn : ∀ C cl, (assignEach tgs (compEnvC scope cl C X.env)).length = n := by intros; rfl) (hst : ∀ C cl, (assignEach tgs (compEnvC scope cl C X.env)).findIdx? (·.1) = none := by intros; rfl) : BG X scope vs w (.Tuple tgs j pos) (bTu n k) := by
  obtain ⟨gs, q1, q2⟩ := h
  refine ⟨gTup X.K n gs, fun s H C cl fp => pg_tup (X := X.blk s H scope (compEnvC scope cl C X.env) fp) hc (q1 s H C cl fp) (hn C cl) (hst C cl), ?_⟩
  intro r e a s H v x Q e' T hx eb q
  have go : ∀ l b xs, v = .tup l → x = .ref b → SqT X.K H b xs → VRs X.K r a.n H l xs → gTup X.K n gs x s H Q := by
    intro l b xs e1 e2 hq hs
    subst e1 e2
    have eb' : (match Nat.beq l.length n with | true => k l e | false => none) = some e' := eb
    rw [Tr.beq_nat] at eb'
    by_cases hl : l.length = n
    · rw [decide_eq_true hl] at eb'
      exact ⟨_, _, rfl, hq, by rw [← hs.length]; exact hl, q2 r e a s H l xs Q e' T hs eb' q⟩
    · rw [decide_eq_false hl] at eb'
      cases eb'
  rcases hx with hx | ⟨_, l, b, xs, e1, e2, hq, hs⟩
  · cases hx with
    | tup ht hs => exact go _ _ _ rfl rfl ht.sq hs
    | _ => cases eb
  · exact go _ _ _ e1 e2 hq hs
end
/-- no exception leaves a block -/
abbrev W0 : WX := fun _ _ _ _ => False
/-- an expression in every block -/
def BE (X : Cx) (scope : Scope) (e : Expr) (f : FE) : Prop := ∀ (s : Shared) (H : Hp) (C : Addr) (cl : List (Str × Addr)) (fp : List Addr), PE (X.blk s H scope (compEnvC scope cl C X.env) fp) e (tO X.K W0 f)
/-- the tests in every block -/
def BT' (X : Cx) (scope : Scope) (ifs : List Expr) (f : FE) : Prop := ∃ tt, (∀ (s : Shared) (H : Hp) (C : Addr) (cl : List (Str × Addr)) (fp : List Addr), PTs (X.blk s H scope (compEnvC scope cl C X.env) fp) ifs tt) ∧ ∀ s H Q, tB (tO X.K W0 f) s H Q → tt s H Q
theorem bt_nil {X : Cx} {scope : Scope} : BT' X scope [] (eC (.bl true)) := ⟨tYes, fun _ _ _ _ _ => pts_nil, fun s H Q ⟨r, e, a, T, h⟩ => by
  have h2 : Fin X.K (fun c d H' => W0 c d s H') r a.n H (relV X.K) (fun x H1 => ∃ c, x = V.bl c ∧ Q c H1) (.ok (.bl true) a) := h
  obtain ⟨c, e, q⟩ := h2.here T.sr (.bl _)
  cases e
  exact q⟩
theorem bt_one {X : Cx} {scope : Scope} {c : Expr} {f : FE} (h : ∀ (s : Shared) (H : Hp) (C : Addr) (cl : List (Str × Addr)) (fp : List Addr), PT (X.blk s H scope (compEnvC scope cl C X.env) fp) c (tB (tO X.K W0 f))) : BT' X scope [c] f := ⟨_, fun s H C cl fp => pts_one (h s H C cl fp), fun _ _ _ h => h⟩
/-- the turns of a list comprehension: d the new list -/
def lcL (b : BT) (ft fe : FE) (d : Nat) : Nat → PIt → Env → AH → Option AH
  | 0, _ => fun _ _ => none
  | f + 1, p => fun e a => match nxt p a with
    | none => none
    | some none => some a
    | some (some (v, p')) => match b v e with
      | none => none
      | some e1 => match ft e1 a with
        | .ok (.bl true) a1 => match fe e1 a1 with
          | .ok u a2 => match a2.get d with
            | some (.lst l) => match Nat.blt l.length LIM with
              | true => lcL b ft fe d f p' e (a2.put d (.lst (l ++ [u])))
              | false => none
            | _ => none
          | _ => none
        | .ok (.bl false) a1 => lcL b ft fe d f p' e a1
        | _ => none
def eLc (vs : List Nat) (fi : FI) (b : BT) (ft fe : FE) : FE := fun e a => (fi e a).bind fun p a1 => match lcL b ft fe a1.n (turns a1 p) p (wipeE e vs) (a1.new (.lst [])) with
  | some a2 => .ok (.ref a1.n) a2
  | none => .no
section
variable {X : Cx} {W : WX} {vs : List Nat} {w : Bool} {fi : FI} {b : BT} {ft fe : FE} {g : TG} {tt : TT}
theorem tI_bind {K : PySem.W.Frag} {W : WX} {w : Bool} {s : L2.St} {H : Hp} {r : Nat → Addr} {e : Env} {a : AH} {f : FI} {Q : VK} {g : PIt → AH → R PV} (T : ST K r e a s H) (h : Fin K (fun c d H' => W c d s H') r a.n H (relV K) Q ((f e a).bind g)) :
    tI K W w f s H fun x H1 => ∃ r1 v a1, Mo K r a.n H r1 a1.n H1 ∧ ST K r1 e a1 s H1 ∧ relI K w r1 a1.n H1 v x ∧ Fin K (fun c d H' => W c d s H') r1 a1.n H1 (relV K) Q (g v a1) := by
  refine ⟨r, e, a, T, ?_⟩
  cases q : f e a with
  | ok v a1 =>
    rw [q] at h
    exact fun r1 H1 x m S hx => ⟨r1, v, a1, m, T.mo m S, hx, Fin.later m h⟩
  | er c fs a1 => rw [q] at h; exact h
  | no => rw [q] at h; exact h.elim
theorem tB_here {f : FE} {s : L2.St} {H : Hp} {r : Nat → Addr} {e : Env} {a a1 : AH} {c : Bool} {Q : Bool → Hp → Prop} (T : ST X.K r e a s H) (q : f e a = .ok (.bl c) a1) (k : ∀ r1 H1, Mo X.K r a.n H r1 a1.n H1 → ST X.K r1 e a1 s H1 → Q c H1) : tB (tO X.K W0 f) s H Q := by
  refine ⟨r, e, a, T, ?_⟩
  rw [q]
  intro r1 H1 x m S hx
  cases hx
  exact ⟨c, rfl, k r1 H1 m (T.mo m S)⟩
theorem tO_here {f : FE} {s : L2.St} {H : Hp} {r : Nat → Addr} {e : Env} {a a1 : AH} {u : PV} {Q : VK} (T : ST X.K r e a s H) (q : f e a = .ok u a1) (k : ∀ r1 H1 y, Mo X.K r a.n H r1 a1.n H1 → ST X.K r1 e a1 s H1 → VR X.K r1 a1.n H1 u y → Q y H1) : tO X.K W0 f s H Q := by
  refine ⟨r, e, a, T, ?_⟩
  rw [q]
  exact fun r1 H1 y m S hy => k r1 H1 y m (T.mo m S) hy
theorem lc_read (hg : Bd X.K vs w g b) (ht : ∀ s H Q, tB (tO X.K W0 ft) s H Q → tt s H Q) {s : L2.St} {H : Hp} {Q : VK} (h : tO X.K W (eLc vs fi b ft fe) s H Q) : tLc (tI X.K W w fi) g tt (tO X.K W0 fe) vs s H Q := by
  obtain ⟨r, e, a, T, h⟩ := h
  refine tI_mono (tI_bind T h) fun J H1 ⟨r1, p, a1, m1, T1, ⟨P, hw, hP⟩, h1⟩ D hD => ?_
  have m0 := mo_new (K := X.K) (r := r1) (n := a1.n) hD (.lst [])
  have S0 := T1.sr.new hD (o := .lst []) (u := .lst []) (.lst upd_same .nil)
  refine ⟨fun i m H' => ∃ r2 p2 a2 a3, Mo X.K r1 a1.n H1 r2 a2.n H' ∧ r2 a1.n = D ∧ a1.n < a2.n ∧ ST X.K r2 (wipeE e vs) a2 (L2.wipe s vs) H' ∧ P i p2 r2 a2.n H' ∧ lcL b ft fe a1.n m p2 (wipeE e vs) a2 = some a3 ∧ Fin X.K (fun c d H' => W c d s H') r1 a1.n H1 (relV X.K) Q (.ok (.ref a1.n) a3), ?_, ?_⟩
  · cases q : lcL b ft fe a1.n (turns a1 p) p (wipeE e vs) (a1.new (.lst [])) with
    | none => rw [q] at h1; exact h1.elim
    | some a3 =>
      rw [q] at h1
      exact ⟨turns a1 p, rn r1 a1.n D, p, a1.new (.lst []), a3, m0, rn_self, Nat.lt_succ_self _, (T1.mo m0 S0).wipe vs, hw.mo m0 hP, q, h1⟩
  · rintro i m H' ⟨r2, p2, a2, a3, m2, hr2, hn2, T2, hP2, hl, h3⟩
    cases m with
    | zero => cases hl
    | succ m =>
      unfold lcL at hl
      split at hl
      · cases hl
      · rename_i q
        cases hl
        refine .inl ⟨hw.stop T2.sr hP2 q, ?_⟩
        have z := h3 r2 H' (.ref (r2 a1.n)) m2 T2.sr (.ref hn2)
        rw [hr2] at z
        exact z
      · rename_i v p' q
        obtain ⟨hgo, hy⟩ := hw.go T2.sr hP2 q
        refine .inr ⟨hgo, _, fun H'' z => ⟨m, Nat.lt_succ_self m, z⟩, fun x H3 y => ?_⟩
        obtain ⟨r3, m3, S3, hx, hP3⟩ := hy x H3 y
        split at hl
        · cases hl
        · rename_i e1 hb
          have T3 := T2.mo m3 S3
          refine hg r3 _ a2 _ H3 v x _ e1 T3 hx hb fun s4 T4 hw4 => ⟨by rw [hw4, wipe_wipe], ht s4 H3 _ ?_⟩
          have hr3 : r3 a1.n = D := (m3.at_ a1.n hn2).trans hr2
          split at hl
          · rename_i a4 q1
            refine tB_here T4 q1 fun r5 H5 m5 T5 => ?_
            rw [if_pos rfl]
            split at hl
            · rename_i u a6 q2
              refine tO_here T5 q2 fun r6 H6 z m6 T6 hz => ?_
              split at hl
              · rename_i l q3
                split at hl
                · rename_i q4
                  have hn6 : a1.n < a6.n := Nat.lt_of_lt_of_le hn2 (Nat.le_trans m5.le m6.le)
                  have hr6 : r6 a1.n = D := (m6.at_ a1.n (Nat.lt_of_lt_of_le hn2 m5.le)).trans ((m5.at_ a1.n hn2).trans hr3)
                  obtain ⟨acc, ha, ra⟩ := T6.sr.lst q3
                  rw [hr6] at ha
                  have hl6 : l.length < 1000000 := Nat.le_of_ble_eq_true q4
                  refine ⟨acc, ha, by rw [← ra.length, sizeLine_eq]; omega, ?_⟩
                  have mm := T6.sr.mo_put hn6 (.lst (acc ++ [z]))
                  have SS := T6.sr.put hn6 (o := .lst (l ++ [u])) (u := .lst (acc ++ [z])) (.lst upd_same ((ra.app (.cons hz .nil)).mo mm))
                  rw [hr6] at mm SS
                  have mAll := (((m2.trans m3).trans m5).trans m6).trans mm
                  have TW : ST X.K r6 (wipeE e vs) (a6.put a1.n (.lst (l ++ [u]))) (L2.wipe s vs) (upd H6 D (.lst (acc ++ [z]))) := ⟨SS, ((((T2.er.mo m3).mo m5).mo m6).mo mm), T2.ln⟩
                  exact ⟨r6, p', a6.put a1.n (.lst (l ++ [u])), a3, mAll, hr6, hn6, TW, hw.mo mm (hw.mo m6 (hw.mo m5 hP3)), hl, h3⟩
                · cases hl
              · cases hl
            · cases hl
          · rename_i a4 q1
            refine tB_here T4 q1 fun r5 H5 m5 T5 => ?_
            rw [if_neg Bool.false_ne_true]
            have TW : ST X.K r5 (wipeE e vs) a4 (L2.wipe s vs) H5 := ⟨T5.sr, ((T2.er.mo m3).mo m5), T2.ln⟩
            exact ⟨r5, p', a4, a3, (m2.trans m3).trans m5, (m5.at_ a1.n hn2).trans hr3, Nat.lt_of_lt_of_le hn2 m5.le, TW, hw.mo m5 hP3, hl, h3⟩
          · cases hl
theorem v_lc {elt tg iter : Expr} {ifs : List Expr} {scope : Scope} {own : List (Str × Nat)} {pos : Pos} (hc : X.calm = true) (hN : X.N.Nodup) (hi : PI X tg iter (tI X.K W w fi)) (ok : BlkOk X.N X.env.scope scope own) (hg : BG X scope (own.map (·.2)) w tg b) (ht : BT' X scope ifs ft) (he : BE X scope elt fe)
    (hs : ∀ x, foldedSetIterable iter X.env x = pure x := by intro _; rfl) : PE X (.ListComp elt [⟨tg, iter, ifs, 0⟩] scope pos) (tO X.K W (eLc (own.map (·.2)) fi b ft fe)) := by
  obtain ⟨g, p1, p2⟩ := hg
  obtain ⟨tt, q1, q2⟩ := ht
  exact pe_of (pe_lc hc hN hi ok p1 q1 he hs) fun s H Q h => lc_read p2 q2 h
/-- y = [..] on one line -/
theorem sx_setLc {y : Str} {py : Pos} {elt tg iter : Expr} {ifs : List Expr} {scope : Scope} {own : List (Str × Nat)} {pos spos : Pos} (i : Nat) (hc : X.calm = true) (hN : X.N.Nodup) (hi : PI X tg iter (tI X.K W w fi)) (ok : BlkOk X.N X.env.scope scope own) (hg : BG X scope (own.map (·.2)) w tg b) (ht : BT' X scope ifs ft) (he : BE X scope elt fe)
    (hsw : swapsWith (.ListComp elt [⟨tg, iter, ifs, 0⟩] scope pos) (some (.Name y py)) spos.line X.env = pure true := by rfl) (hy : X.N[i]? = some y := by rfl) (hyl : X.env.scope.names.lookup y = some .local := by rfl)
    (hs : ∀ x, foldedSetIterable iter X.env x = pure x := by intro _; rfl) : PS X (.Assign [.Name y py] (.ListComp elt [⟨tg, iter, ifs, 0⟩] scope pos) spos) (tX X.K W (sSet i (eLc (own.map (·.2)) fi b ft fe))) := by
  obtain ⟨g, p1, p2⟩ := hg
  obtain ⟨tt, q1, q2⟩ := ht
  refine ps_of (ps_setLc hc hN hy hyl hsw hi ok p1 q1 he hs) fun D s H ⟨r, e, a, T, h⟩ => ?_
  refine lc_read p2 q2 (tO_mono (xB_bind T h) fun x H1 ⟨r1, v, a1, m1, T1, hv, h1⟩ => ?_)
  have h2 : FinS X.K W D r1 a1.n H1 (.nx (put e i v) a1) := h1
  exact h2 r1 _ H1 .refl (T1.set i hv)
end
/-! ### dict comprehensions -/
def dcL (b : BT) (ft fk fe : FE) (d : Nat) : Nat → PIt → Env → AH → Option AH
  | 0, _ => fun _ _ => none
  | f + 1, p => fun e a => match nxt p a with
    | none => none
    | some none => some a
    | some (some (v, p')) => match b v e with
      | none => none
      | some e1 => match ft e1 a with
        | .ok (.bl true) a1 => match fk e1 a1 with
          | .ok k a2 => match fe e1 a2 with
            | .ok u a3 => match a3.get d with
              | some (.dct l) => match Nat.blt l.length LIM with
                | true => match keyOf k with
                  | some q => dcL b ft fk fe d f p' e (a3.put d (.dct (dput l q u)))
                  | none => none
                | false => none
              | _ => none
            | _ => none
          | _ => none
        | .ok (.bl false) a1 => dcL b ft fk fe d f p' e a1
        | _ => none
def eDc (vs : List Nat) (fi : FI) (b : BT) (ft fk fe : FE) : FE := fun e a => (fi e a).bind fun p a1 => match dcL b ft fk fe a1.n (turns a1 p) p (wipeE e vs) (a1.new (.dct [])) with
  | some a2 => .ok (.ref a1.n) a2
  | none => .no
section
variable {X : Cx} {W : WX} {vs : List Nat} {w : Bool} {fi : FI} {b : BT} {ft fk fe : FE} {g : TG} {tt : TT}
theorem dc_read (hg : Bd X.K vs w g b) (ht : ∀ s H Q, tB (tO X.K W0 ft) s H Q → tt s H Q) {s : L2.St} {H : Hp} {Q : VK} (h : tO X.K W (eDc vs fi b ft fk fe) s H Q) : tDc (tI X.K W w fi) g tt (tO X.K W0 fk) (tO X.K W0 fe) vs s H Q := by
  obtain ⟨r, e, a, T, h⟩ := h
  refine tI_mono (tI_bind T h) fun J H1 ⟨r1, p, a1, m1, T1, ⟨P, hw, hP⟩, h1⟩ D hD => ?_
  have m0 := mo_new (K := X.K) (r := r1) (n := a1.n) hD (.dK [])
  have S0 := T1.sr.new hD (o := .dct []) (u := .dK []) (.dct upd_same .nil)
  refine ⟨fun i m H' => ∃ r2 p2 a2 a3, Mo X.K r1 a1.n H1 r2 a2.n H' ∧ r2 a1.n = D ∧ a1.n < a2.n ∧ ST X.K r2 (wipeE e vs) a2 (L2.wipe s vs) H' ∧ P i p2 r2 a2.n H' ∧ dcL b ft fk fe a1.n m p2 (wipeE e vs) a2 = some a3 ∧ Fin X.K (fun c d H' => W c d s H') r1 a1.n H1 (relV X.K) Q (.ok (.ref a1.n) a3), ?_, ?_⟩
  · cases q : dcL b ft fk fe a1.n (turns a1 p) p (wipeE e vs) (a1.new (.dct [])) with
    | none => rw [q] at h1; exact h1.elim
    | some a3 =>
      rw [q] at h1
      exact ⟨turns a1 p, rn r1 a1.n D, p, a1.new (.dct []), a3, m0, rn_self, Nat.lt_succ_self _, (T1.mo m0 S0).wipe vs, hw.mo m0 hP, q, h1⟩
  · rintro i m H' ⟨r2, p2, a2, a3, m2, hr2, hn2, T2, hP2, hl, h3⟩
    cases m with
    | zero => cases hl
    | succ m =>
      unfold dcL at hl
      split at hl
      · cases hl
      · rename_i q
        cases hl
        refine .inl ⟨hw.stop T2.sr hP2 q, ?_⟩
        have z := h3 r2 H' (.ref (r2 a1.n)) m2 T2.sr (.ref hn2)
        rw [hr2] at z
        exact z
      · rename_i v p' q
        obtain ⟨hgo, hy⟩ := hw.go T2.sr hP2 q
        refine .inr ⟨hgo, _, fun H'' z => ⟨m, Nat.lt_succ_self m, z⟩, fun x H3 y => ?_⟩
        obtain ⟨r3, m3, S3, hx, hP3⟩ := hy x H3 y
        split at hl
        · cases hl
        · rename_i e1 hb
          have T3 := T2.mo m3 S3
          refine hg r3 _ a2 _ H3 v x _ e1 T3 hx hb fun s4 T4 hw4 => ⟨by rw [hw4, wipe_wipe], ht s4 H3 _ ?_⟩
          have hr3 : r3 a1.n = D := (m3.at_ a1.n hn2).trans hr2
          split at hl
          · rename_i a4 q1
            refine tB_here T4 q1 fun r5 H5 m5 T5 => ?_
            rw [if_pos rfl]
            split at hl
            · rename_i k a6 q2
              refine tO_here T5 q2 fun r6 H6 yk m6 T6 hk => ?_
              split at hl
              · rename_i u a7 q3
                refine tO_here T6 q3 fun r7 H7 z m7 T7 hz => ?_
                split at hl
                · rename_i l q4
                  split at hl
                  · rename_i q5
                    split at hl
                    · rename_i kk q6
                      have hn6 : a1.n < a6.n := Nat.lt_of_lt_of_le hn2 (Nat.le_trans m5.le m6.le)
                      have hn7 : a1.n < a7.n := Nat.lt_of_lt_of_le hn6 m7.le
                      have hr7 : r7 a1.n = D := (m7.at_ a1.n hn6).trans ((m6.at_ a1.n (Nat.lt_of_lt_of_le hn2 m5.le)).trans ((m5.at_ a1.n hn2).trans hr3))
                      obtain ⟨acc, ha, ra⟩ := T7.sr.dct q4
                      rw [hr7] at ha
                      have hl7 : l.length < 1000000 := Nat.le_of_ble_eq_true q5
                      have ek := keyOf_rel hk q6
                      refine ⟨acc, kk, ek, ha, by rw [← ra.length, sizeLine_eq]; omega, ?_⟩
                      have mm := T7.sr.mo_put hn7 (.dK (putK acc kk z))
                      have SS := T7.sr.put hn7 (o := .dct (dput l kk u)) (u := .dK (putK acc kk z)) (.dct upd_same ((dput_rel ra hz).mo mm))
                      rw [hr7] at mm SS
                      have mAll := ((((m2.trans m3).trans m5).trans m6).trans m7).trans mm
                      have TW : ST X.K r7 (wipeE e vs) (a7.put a1.n (.dct (dput l kk u))) (L2.wipe s vs) (upd H7 D (.dK (putK acc kk z))) := ⟨SS, (((((T2.er.mo m3).mo m5).mo m6).mo m7).mo mm), T2.ln⟩
                      exact ⟨r7, p', a7.put a1.n (.dct (dput l kk u)), a3, mAll, hr7, hn7, TW, hw.mo mm (hw.mo m7 (hw.mo m6 (hw.mo m5 hP3))), hl, h3⟩
                    · cases hl
                  · cases hl
                · cases hl
              · cases hl
            · cases hl
          · rename_i a4 q1
            refine tB_here T4 q1 fun r5 H5 m5 T5 => ?_
            rw [if_neg Bool.false_ne_true]
            have TW : ST X.K r5 (wipeE e vs) a4 (L2.wipe s vs) H5 := ⟨T5.sr, ((T2.er.mo m3).mo m5), T2.ln⟩
            exact ⟨r5, p', a4, a3, (m2.trans m3).trans m5, (m5.at_ a1.n hn2).trans hr3, Nat.lt_of_lt_of_le hn2 m5.le, TW, hw.mo m5 hP3, hl, h3⟩
          · cases hl
theorem v_dc {kx vx tg iter : Expr} {ifs : List Expr} {scope : Scope} {own : List (Str × Nat)} {pos : Pos} (hc : X.calm = true) (hN : X.N.Nodup) (hi : PI X tg iter (tI X.K W w fi)) (ok : BlkOk X.N X.env.scope scope own) (hg : BG X scope (own.map (·.2)) w tg b) (ht : BT' X scope ifs ft) (hk : BE X scope kx fk) (he : BE X scope vx fe)
    (hs : ∀ x, foldedSetIterable iter X.env x = pure x := by intro _; rfl) : PE X (.DictComp kx vx [⟨tg, iter, ifs, 0⟩] scope pos) (tO X.K W (eDc (own.map (·.2)) fi b ft fk fe)) := by
  obtain ⟨g, p1, p2⟩ := hg
  obtain ⟨tt, q1, q2⟩ := ht
  exact pe_of (pe_dc hc hN hi ok p1 q1 hk he hs) fun s H Q h => dc_read p2 q2 h
end
end VI
end
section
set_option maxRecDepth 100000
set_option maxHeartbeats 4000000
/-! Defs that compute, calls. -/
namespace VI
open PySem PySem.Spec PyProof.Rows L2 PySem.SeqAt

/-- the slots at the start: the parameters, then nothing -/
def startE (n : Nat) (vs : List PV) : Env := vs.map some ++ List.replicate (n - vs.length) none
def rsF : RS → R PV
  | .rt v a => .ok v a
  | .nx _ a => .ok .non a
  | .er c fs _ a => .er c fs a
  | _ => .no
/-- k parameters, n slots -/
def mkF (k n : Nat) (g : GS) : FN := fun vs a => match Nat.beq vs.length k with
  | true => rsF (g (startE n vs) a)
  | false => .no
theorem start_rel {K : PySem.W.Frag} {r : Nat → Addr} {a : AH} {H : Hp} {vs : List PV} {xs : List V} {N : List Str} (S : SR K r a H) (h : VRs K r a.n H vs xs) : ST K r (startE N.length vs) a (L2.start N xs) H := by
  have hl := h.length
  refine ⟨S, fun i v q => ?_, ?_⟩
  · unfold startE at q
    unfold L2.start
    rcases Nat.lt_or_ge i vs.length with hi | hi
    · rw [List.getElem?_append_left (by rw [List.length_map]; exact hi), List.getElem?_map] at q
      cases e : vs[i]? with
      | none => rw [e] at q; cases q
      | some u =>
        rw [e] at q
        cases q
        obtain ⟨x, hx, hv⟩ := h.get e
        exact ⟨x, by rw [List.getElem?_append_left (by rw [List.length_map, ← hl]; exact hi), List.getElem?_map, hx] <;> rfl, hv⟩
    · rw [List.getElem?_append_right (by rw [List.length_map]; exact hi), List.getElem?_replicate] at q
      split at q <;> cases q
  · unfold startE L2.start
    rw [List.length_append, List.length_append, List.length_map, List.length_map, List.length_replicate, List.length_replicate, hl]
theorem fin_body {K : PySem.W.Frag} {E : XK} {r : Nat → Addr} {n : Nat} {H : Hp} {Q : VK} {o : RS} (h : Fin K E r n H (relV K) Q (rsF o)) : FinS K (fun c d _ H' => E c d H') { nx := fun _ H' => Q .non H', rt := Q } r n H o := by
  cases o with
  | nx e a =>
    have h' : Fin K E r n H (relV K) Q (.ok .non a) := h
    exact fun r' s' H' m T => h' r' H' .non m T.sr .non
  | rt v a =>
    have h' : Fin K E r n H (relV K) Q (.ok v a) := h
    exact fun r' H' x m S hx => h' r' H' x m S hx
  | er c fs e a =>
    have h' : Fin K E r n H (relV K) Q (.er c fs a) := h
    exact fun r' s' H' d m T hd => h' r' H' d m T.sr hd
  | bk e a => exact h.elim
  | ct e a => exact h.elim
  | no => exact h.elim
/-- the wish of a def's body -/
abbrev WE' (E : XK) : WX := fun c d _ H => E c d H
section
variable {P : Program} {w : World} {K : PySem.W.Frag} {mg : Str → Option Value} {base : Heap} {x qual : Str} {params : Arguments} {body : List Stmt} {scope : Scope} {dvs : List V} {kws : List (Str × V)} {f : Addr} {fd : FuncData} {N ps : List Str} {k : Nat} {g : GS}
/-- the context of a def's body -/
abbrev cxB (P : Program) (w : World) (K : PySem.W.Frag) (mg : Str → Option Value) (base : Heap) (N : List Str) (qual : Str) (scope : Scope) (f : Addr) (cdv : Value) (A : Around) (outer : List PySem.Env) (s : Shared) (H : Hp) (E : XK) : Cx := cxOf (L2.CX P w) P w K mg base N qual scope f cdv A outer s H E
theorem spF_len {F : FN} {n : Nat} (h : ∀ vs a, vs.length ≠ n → F vs a = .no) : ∀ vs H Q E, spF K F vs H Q E → vs.length = n := fun xs H Q E ⟨r, vs, a, S, hv, q⟩ => by
  rcases Nat.decEq vs.length n with e | e
  · rw [h vs a e] at q
    exact q.elim
  · rw [← hv.length]; exact e
theorem mkF_len {n m : Nat} : ∀ (vs : List PV) (a : AH), vs.length ≠ n → mkF n m g vs a = .no := fun vs a h => by
  unfold mkF
  rw [Tr.beq_nat, decide_eq_false h]
/-- THE RULE for a def -/
theorem okF (D : FunD K x qual params body scope dvs kws f fd) (S : FnScope N ps scope)
    (hbody : ∀ (cdv : Value) (A : Around) (outer : List PySem.Env) (s : Shared) (H : Hp) (E : XK), Room k (A.deeper (envOfC qual scope s.heap.objs.size f cdv)) → Takes (cxB P w K mg base N qual scope f cdv A outer s H E) (WE' E) →
      PSs (cxB P w K mg base N qual scope f cdv A outer s H E) body (tX K (WE' E) g)) : FnOk P w K mg base (L2.CX P w) (k + 1) f fd ps (spF K (mkF ps.length N.length g)) := by
  refine D.ok S (spF_len mkF_len) fun cdv A outer s H vs Q E hr ⟨r, l, a, S', hv, q⟩ => ⟨_, hbody cdv A outer s H E hr (takes_of rfl rfl rfl rfl), ?_⟩
  refine ⟨r, startE N.length l, a, start_rel S' hv, fin_body ?_⟩
  unfold mkF at q
  split at q
  · exact q
  · exact q.elim
/-! ### with the guards known -/
structure FnG (P : Program) (w : World) (K : PySem.W.Frag) (mg : Str → Option Value) (base : Heap) (k : Nat) (f : Addr) (fd : FuncData) (ps : List Str) (sp : Sp) : Prop where
  len : ∀ vs H Q E, sp vs H Q E → vs.length = ps.length
  run : ∀ (A : Around) (outer : List PySem.Env) (s : Shared) (H : Hp) (args : Args) (us : List Value) (vs : List V) (Q : VK) (E : XK), A.guards = some [] → Room k A → Env0 P w K mg base A outer s H → BindsTo s fd args (ps.zip us) → Vals vs us → sp vs H Q E →
    codeAny (model P w) A (.call (.ref f) args) (CR (L2.CX P w) outer P w H s Q E) s
theorem FnG.of {sp : Sp} (F : FnOk P w K mg base (L2.CX P w) k f fd ps sp) : FnG P w K mg base k f fd ps sp := ⟨F.len, fun A outer s H args us vs Q E _ hr => F.run A outer s H args us vs Q E hr⟩
theorem okG0 (D : FunD K x qual params body scope dvs kws f fd) (S : FnScope N ps scope)
    (hbody : ∀ (cdv : Value) (A : Around) (outer : List PySem.Env) (s : Shared) (H : Hp) (E : XK), A.guards = some [] → (∃ oc od fd' osl, K.lookup f = some ⟨oc, od, .func fd', osl⟩ ∧ fd'.code = cdv ∧ PySem.W.codeIn K cdv qual = true) → Room k (A.deeper (envOfC qual scope s.heap.objs.size f cdv)) → Takes (cxB P w K mg base N qual scope f cdv A outer s H E) (WE' E) →
      PSs (cxB P w K mg base N qual scope f cdv A outer s H E) body (tX K (WE' E) g)) : FnG P w K mg base (k + 1) f fd ps (spF K (mkF ps.length N.length g)) := by
  obtain ⟨oc, od, dV, kV, doc, pm, an, cdv, ct, osl, rfl, lk, hcd, _, _⟩ := D.ex
  refine ⟨spF_len mkF_len, ?_⟩
  intro A outer s H args us vs Q E hg hr e0 hb rv hsp
  have hl : vs.length = ps.length := spF_len mkF_len _ _ _ _ hsp
  obtain ⟨r, l, a, S', hv, q⟩ := hsp
  have kin : K.In s.heap := e0.mod.kin.keeps fun b o e => (e0.bs b o e).1
  have loc : ∀ y ∈ ps.zip us, scope.names.lookup y.1 = some .local ∨
      (scope.names.lookup y.1 = some .cell ∧ ((cellsFrom (s.heap.objs.size + 1) scope.names []).lookup y.1).isSome = true) := by
    intro y hy
    rcases S.par y.1 (List.of_mem_zip (a := y.1) (b := y.2) hy).1 with z | z
    · exact .inl z
    · exact .inr ⟨z, PySem.W.cellsFrom_some _ _ _ (.inl z)⟩
  refine codeAny_call_function hr.depth (kin _ _ lk) rfl S.co S.gen rfl
    (PySem.W.codeRec_of kin hcd) (hb _ _ _ _ (wpAny_newFunctionEnv_cells S.kind loc ?_))
  intro env he s1 ic
  subst he
  have lim1 := (e0.mod.nolimit.keeps fun b o e => (e0.bs b o e).1).keeps ic.toInCall.keep
  refine ⟨lim1, codeAny_func ?_⟩
  have I := inv_start (CX := L2.CX P w) (E := E) S hr.hd e0 hl rv ic
  have want : tX K (WE' E) g { nx := fun _ H' => Q .non H', rt := Q } (L2.start N vs) H := by
    refine ⟨r, startE N.length l, a, start_rel S' hv, fin_body ?_⟩
    unfold mkF at q
    split at q
    · exact q
    · exact q.elim
  refine wpAny_mono ((hbody cdv A outer s H E hg ⟨_, _, _, _, lk, rfl, hcd⟩ (hr.deeper _) (takes_of rfl rfl rfl rfl)).run [] s1 _ H _ I want) (fun fl s' hs => ?_) (fun _ _ z => z)
  cases fl with
  | ret u => obtain ⟨v, σ', H', J, r1, q1⟩ := hs; exact ⟨v, H', J.os, J.bare, J.base, J.hok, r1, q1⟩
  | next => obtain ⟨σ', H', J, q1⟩ := hs; exact ⟨.non, H', J.os, J.bare, J.base, J.hok, rfl, q1⟩
  | brk => obtain ⟨_, _, _, z⟩ := hs; exact z.elim
  | cont => obtain ⟨_, _, _, z⟩ := hs; exact z.elim
theorem okG (D : FunD K x qual params body scope dvs kws f fd) (S : FnScope N ps scope)
    (hbody : ∀ (cdv : Value) (A : Around) (outer : List PySem.Env) (s : Shared) (H : Hp) (E : XK), A.guards = some [] → Room k (A.deeper (envOfC qual scope s.heap.objs.size f cdv)) → Takes (cxB P w K mg base N qual scope f cdv A outer s H E) (WE' E) →
      PSs (cxB P w K mg base N qual scope f cdv A outer s H E) body (tX K (WE' E) g)) : FnG P w K mg base (k + 1) f fd ps (spF K (mkF ps.length N.length g)) := okG0 D S fun cdv A outer s H E hg _ hr tk => hbody cdv A outer s H E hg hr tk
end
/-! ### calls -/
section
variable {X : Cx} {W : WX} {fs : FA} {e : Expr} {es : List Expr} {pos : Pos} {k : Nat}
/-- what stands of a def in the module: its promise, how it is bound -/
structure Has (X : Cx) (k : Nat) (x : Str) (ps : List Str) (F : FN) : Prop where
  ex : ∃ f fd, FnOk X.prog X.w X.K X.mg X.base (L2.CX X.prog X.w) k f fd ps (spF X.K F) ∧ X.mg x = some (.ref f) ∧ PySem.W.keepIn X.K (.ref f) = true ∧ Binds X.K fd ps []
structure HasG (X : Cx) (k : Nat) (x : Str) (ps : List Str) (F : FN) : Prop where
  ex : ∃ f fd, FnG X.prog X.w X.K X.mg X.base k f fd ps (spF X.K F) ∧ X.mg x = some (.ref f) ∧ PySem.W.keepIn X.K (.ref f) = true ∧ Binds X.K fd ps []
theorem v_callH {x : Str} {p : Pos} {ps : List Str} {F : FN} (h : Has X k x ps F) (hr : Room k X.A) (tk : Takes X W) (ha : PA X (e :: es) (tOs X.K W fs)) (hg : Gl X x := by rfl) (hdb : (x == ("__debug__" : Str)) = false := by decide)
    (he : starEach (e :: es) X.env = (false, eval e X.env) :: starEach es X.env := by rfl) (hpl : (backTo pos (starEach es X.env)).any (·.1) = false := by rfl) : PE X (.Call (.Name x p) (e :: es) [] pos) (tO X.K W (eCall F fs)) := by
  obtain ⟨f, fd, hF, hm, hk, hb⟩ := h.ex
  exact v_call hF hr tk hm hk hb ha hg hdb he hpl
theorem v_callG {x : Str} {p : Pos} {ps : List Str} {F : FN} (h : HasG X k x ps F) (hgu : X.A.guards = some []) (hr : Room k X.A) (tk : Takes X W) (ha : PA X (e :: es) (tOs X.K W fs)) (hg : Gl X x := by rfl) (hdb : (x == ("__debug__" : Str)) = false := by decide)
    (he : starEach (e :: es) X.env = (false, eval e X.env) :: starEach es X.env := by rfl) (hpl : (backTo pos (starEach es X.env)).any (·.1) = false := by rfl) : PE X (.Call (.Name x p) (e :: es) [] pos) (tO X.K W (eCall F fs)) := by
  obtain ⟨f, fd, hF, hm, hk, hb⟩ := h.ex
  refine ⟨fun pins s σ H Q I ⟨r, e, a, T, h⟩ => wpAny_Call_Name_kw (ld_glob I hg hm ?_ hdb)⟩
  refine PySem.W.callWith_K (h₀ := X.base) I.ok.mod.kin hk (thn (ha.run pos pins s σ H _ I (tOs_bind T h)) ?_) he hpl
  intro us s1 ⟨vs, H1, I1, r1, q⟩
  refine ⟨I1.kIn, ?_⟩
  obtain ⟨r2, l, a1, m1, T1, hvs, h1⟩ := q
  have sp : spF X.K F vs H1 Q (WE W σ) := ⟨r2, l, a1, T1.sr, hvs, h1⟩
  have b := hb s1 us I1.kIn (by rw [List.append_nil, ← r1.length]; exact hF.len _ _ _ _ sp)
  rw [List.append_nil] at b
  refine wpAny_call (codeAny_mono (hF.run X.A X.stack s1 H1 ⟨us, []⟩ us vs Q (WE W σ) hgu hr I1.env0 b r1 sp) ?_)
  intro res s' hq
  match res, hq with
  | .error e, hq => exact passAt tk σ pins H1 s1 e s' I1 hq
  | .ok (.ret u), hq => exact I1.after hq
  | .ok .next, hq => exact hq.elim
  | .ok .brk, hq => exact hq.elim
  | .ok .cont, hq => exact hq.elim
end
/-! ### the head -/
/-- the code objects whose tables are written -/
def CTs (K : PySem.W.Frag) : List (Addr × Addr) := TBN.map fun p => He.cT K (p.1, none)
theorem tbl_ct {K : PySem.W.Frag} {p : Addr × Str} (h : p ∈ TBL K) : ∃ q ∈ CTs K, q.2 = p.1 := by
  obtain ⟨z, hz, e⟩ := List.mem_map.mp h
  exact ⟨_, List.mem_map.mpr ⟨z, hz, rfl⟩, by rw [← e]⟩
/-- what the base tells of the tables -/
def BaseOk (K : PySem.W.Frag) (mg : Str → Option Value) (base : Heap) : Prop := ∀ p ∈ CTs K, LamX.TabB base mg p.1 p.2
theorem law_callG {P : Program} {w : World} {K : PySem.W.Frag} {mg mb : Str → Option Value} {k : Nat} {fa a : Addr} {fd : FuncData} {x : Str} {F : FN} {s : Shared} {vs : List Value} {ns : List Int}
    (KX : K.In s.heap) (hns : s.heap.Ns mainGlobals mg) (hb : s.heap.Ns builtinsNs mb) (hbb : ∀ x : Str, x ≠ "__name__" → mb x = bootBuiltins x) (hlim : s.heap.NoLimit) (hg : s.gens = #[])
    (hT : ∀ p ∈ CTs K, s.heap.get? p.2 = some { cls := .none, data := .fields #[] }) (nT : ∀ p ∈ CTs K, K.lookup p.2 = none) (hC : ∀ p ∈ CTs K, PySem.W.CodeHd s.heap p.1 p.2)
    (hbm : ∃ (bm : Addr) (ob : Obj), mg "__builtins__" = some (.ref bm) ∧ bm ≠ builtinsNs ∧ s.heap.get? bm = some ob ∧ ob.cls = .type "module" ∧ ob.dict = some builtinsNs ∧ ob.data = .plain)
    (ha : s.heap.get? a = some { cls := .type "list", data := .seq vs.toArray }) (hi : IntsAre vs ns) (hl : ns.length ≤ sizeLine) (hr : Room k callerA)
    (hF : ∀ base : Heap, K.In base → base.Ns mainGlobals mg → BaseOk K mg base → FnG P w K mg base k fa fd [x] (spF K F)) (hbind : ∀ (s : Shared) (u : Value), BindsTo s fd ⟨[u], []⟩ [(x, u)]) (hv : ∃ a', F [.rol (ns.map .int)] ⟨0, .nil⟩ = .ok (.bl true) a') :
    codeAny (model P w) callerA (.call (.ref fa) ⟨[.ref a], []⟩) (fun r s' => r = .ok (.ret (.bool true)) ∧ OldK s.heap s'.heap ∧ s'.os = s.os ∧ AllBare s'.gens) s := by
  have rv := vals_ints hi
  have lenV := hi.length
  have tabAt : ∀ b, b ∈ (CTs K).map (·.2) → s.heap.get? b = some { cls := .none, data := .fields #[] } ∧ K.lookup b = none := by
    intro b hb
    obtain ⟨p, hp, e⟩ := List.mem_map.mp hb
    rw [← e]
    exact ⟨hT p hp, nT p hp⟩
  have aT : a ∉ (CTs K).map (·.2) := fun z => by
    have q := (tabAt a z).1
    rw [ha] at q
    exact absurd (congrArg Obj.data (Option.some.inj q)) (fun t => nomatch t)
  have main : ∀ H : Hp, (∀ b, b ∈ (CTs K).map (·.2) → H b = some (.tbl #[])) → (∀ b, H b = none ∨ b ∈ (CTs K).map (·.2) ∨ (b = a ∧ K.lookup a = none ∧ ∃ o xs, H b = some (.frz o (.lst xs)))) → Lk K H a (ns.map V.int) → HOk P w H s.heap →
      codeAny (model P w) callerA (.call (.ref fa) ⟨[.ref a], []⟩) (fun r s' => r = .ok (.ret (.bool true)) ∧ OldK s.heap s'.heap ∧ s'.os = s.os ∧ AllBare s'.gens) s := by
    intro H onT only lk ok
    have un : ∀ b o, s.heap.get? b = some o → (∀ q n, o.data ≠ .seq q n) → o.data ≠ .fields #[] → H b = none := by
      intro b o e nd nf
      rcases only b with z | z | ⟨z, _, _⟩
      · exact z
      · rw [(tabAt b z).1] at e
        cases e
        exact absurd rfl nf
      · rw [z, ha] at e
        cases e
        exact absurd rfl (nd _ _)
    have nsH : ∀ {b : Addr} {m : Str → Option Value}, s.heap.Ns b m → (hidT s.heap H).Ns b m := by
      intro b m ⟨o, es, ep, e, d, rest⟩
      exact ⟨o, es, ep, hidT_get e (un b o e (fun q n z => by rw [d] at z; cases z) fun z => by rw [d] at z; cases z), d, rest⟩
    have kH : K.In (hidT s.heap H) := by
      intro b o e
      refine hidT_get (KX b o e) ?_
      rcases only b with z | z | ⟨z, z2, _⟩
      · exact z
      · rw [(tabAt b z).2] at e
        cases e
      · rw [z, z2] at e
        cases e
    obtain ⟨mc, c1, c2⟩ := hlim
    have M : Mod K mg (hidT s.heap H) := ⟨kH, nsH hns, ⟨mb, nsH hb, hbb⟩, ⟨mc, nsH c1, c2⟩⟩
    have E0' : Env0 P w K mg (hidT s.heap H) callerA [] s H :=
      ⟨rfl, M, fun _ _ e => of_hidT e, Nat.le_of_eq (hidT_size _ _), trivial, (fun b hb => by cases hb), ok, .of_eq hg⟩
    have TB : BaseOk K mg (hidT s.heap H) := by
      intro p hp
      have tp := hT p hp
      refine ⟨?_, ?_, fun z => ?_⟩
      · obtain ⟨o, us, file, tf, flags, tg, inF, text, tt, e1, r1, r2, r3, more⟩ := hC p hp
        refine ⟨o, us, file, tf, flags, tg, inF, text, tt, hidT_get e1 (un p.1 o e1 (fun q n z => ?_) fun z => ?_), r1, r2, r3, more⟩
        · rw [r2] at z; cases z
        · rw [r2] at z
          cases z
          simp at r3
      · obtain ⟨bm, ob, b1, b2, b3, b4, b5, b6⟩ := hbm
        refine ⟨bm, ob, b1, b2, fun q => ?_, fun q => ?_, hidT_get b3 (un bm ob b3 (fun q n z => ?_) fun z => ?_), b4, b5, b6⟩
        · obtain ⟨o, es, ep, e, hd, _⟩ := hns
          rw [q, e] at b3
          cases b3
          rw [hd] at b6
          cases b6
        · rw [q, tp] at b3
          cases b3
          cases b6
        · rw [b6] at z; cases z
        · rw [b6] at z; cases z
      · obtain ⟨o, es, ep, e, hd, _⟩ := hns
        rw [z, tp] at e
        cases e
        cases hd
    obtain ⟨a', ev⟩ := hv
    have tabs : LamX.Tabs (TBL K) H := by
      intro p hp
      obtain ⟨q, hq, e⟩ := tbl_ct hp
      exact LamX.TabS.nil (onT p.1 (List.mem_map.mpr ⟨q, hq, e⟩))
    have S0 : SR K (fun _ => 0) ⟨0, .nil⟩ H := ⟨fun i j hi => absurd hi (Nat.not_lt_zero i), (fun i o e => by cases e), fun i hi => absurd hi (Nat.not_lt_zero i), (fun i o e => by cases e), tabs⟩
    have sp : spF K F [.ref a] H (fun v _ => v = .bl true) (fun _ _ _ => False) := by
      refine ⟨fun _ => 0, [.rol (ns.map .int)], ⟨0, .nil⟩, S0, .cons (.rol lk (VRs.ints ns)) .nil, ?_⟩
      rw [ev]
      intro r' H' x' m S hx
      cases hx
      rfl
    refine codeAny_mono ((hF _ kH (nsH hns) TB).run callerA [] s H ⟨[.ref a], []⟩ [.ref a] [.ref a] _ _ rfl hr E0' (hbind s (.ref a)) (.cons rfl .nil) sp) ?_
    intro r s' h
    match r, h with
    | .error e, h =>
      obtain ⟨_, _, _, _, _, _, _, _, _, _, _, _, z⟩ := h
      exact z.elim
    | .ok .next, h => exact h.elim
    | .ok .brk, h => exact h.elim
    | .ok .cont, h => exact h.elim
    | .ok (.ret u), h =>
      obtain ⟨v, H', os, bare, U, ok', r', q⟩ := h
      have q1 : v = .bl true := q
      subst q1
      cases (show u = Value.bool true from r')
      have same : ∀ b o, b ∉ (CTs K).map (·.2) → s.heap.get? b = some o → s'.heap.get? b = some o := by
        intro b o nb e
        rcases only b with z | z | ⟨_, _, ob, xs, z⟩
        · exact U.keep b o e z (fun t => by cases t) (fun t => by cases t)
        · exact absurd z nb
        · have z1 := (show s.heap.get? b = some ob ∧ _ from ok b _ z).1
          have z2 := (show s'.heap.get? b = some ob ∧ _ from ok' b _ (U.frzs b ob _ z)).1
          rw [e] at z1
          cases z1
          exact z2
      have grown : ∀ b, b ∈ (CTs K).map (·.2) → ∃ more : Array Value, s'.heap.get? b = some { cls := .none, data := .fields more } := by
        intro b hb
        obtain ⟨more, z⟩ := U.tbls b #[] (onT b hb)
        exact ⟨_, ok' b _ z⟩
      refine ⟨rfl, ⟨fun b o e => ?_, fun b o e => ?_⟩, os, bare⟩
      · rcases Classical.em (b ∈ (CTs K).map (·.2)) with hb | hb
        · obtain ⟨more, hm⟩ := grown b hb
          obtain ⟨p, hp, ep⟩ := List.mem_map.mp hb
          rw [(tabAt b hb).1] at e
          cases e
          rw [← ep] at hm ⊢
          exact .inr (.inl ⟨((hC p hp).tab (hT p hp)).isCodeTable, rfl, #[], more, rfl, by rw [Array.empty_append]; exact hm⟩)
        · exact .inl (same b o hb e)
      · rcases Classical.em (b ∈ (CTs K).map (·.2)) with hb | hb
        · exact ⟨_, (grown b hb).choose_spec⟩
        · exact ⟨o, same b o hb e⟩
  cases hk : K.lookup a with
  | some o =>
    have e := KX a o hk
    rw [ha] at e
    cases e
    refine main (fun b => if b ∈ (CTs K).map (·.2) then some (.tbl #[]) else none) (fun b hb => if_pos hb) (fun b => ?_) (.inr fun H' => .inr ⟨_, vs.toArray, _, hk, rfl, rfl, rfl, ?_, by simpa using rv⟩) (fun b u z => ?_)
    · rcases Classical.em (b ∈ (CTs K).map (·.2)) with hb | hb
      · exact .inr (.inl hb)
      · exact .inl (if_neg hb)
    · rw [List.size_toArray, lenV]; exact hl
    · rcases Classical.em (b ∈ (CTs K).map (·.2)) with hb | hb
      · have z' := (if_pos hb).symm.trans z
        cases z'
        exact (tabAt b hb).1
      · exact absurd ((if_neg hb).symm.trans z) (fun t => nomatch t)
  | none =>
    have at_ : ∀ b, b = a → (if b = a then some (HO.frz { cls := .type "list", data := .seq vs.toArray } (.lst (ns.map V.int))) else if b ∈ (CTs K).map (·.2) then some (.tbl #[]) else none) = some (HO.frz { cls := .type "list", data := .seq vs.toArray } (.lst (ns.map V.int))) := fun b e => if_pos e
    refine main (fun b => if b = a then some (.frz { cls := .type "list", data := .seq vs.toArray } (.lst (ns.map V.int))) else if b ∈ (CTs K).map (·.2) then some (.tbl #[]) else none) (fun b hb => ?_) (fun b => ?_) (.inl ⟨_, at_ a rfl⟩) (fun b u z => ?_)
    · exact (if_neg (fun z => aT (by rw [← z]; exact hb))).trans (if_pos hb)
    · rcases Nat.decEq b a with hb | hb
      · rcases Classical.em (b ∈ (CTs K).map (·.2)) with h2 | h2
        · exact .inr (.inl h2)
        · exact .inl ((if_neg hb).trans (if_neg h2))
      · exact .inr (.inr ⟨hb, by first | exact hk | rfl, _, _, at_ b hb⟩)
    · rcases Nat.decEq b a with hb | hb
      · have z1 := (if_neg hb).symm.trans z
        rcases Classical.em (b ∈ (CTs K).map (·.2)) with h2 | h2
        · have z' := (if_pos h2).symm.trans z1
          cases z'
          exact (tabAt b h2).1
        · exact absurd ((if_neg h2).symm.trans z1) (fun t => nomatch t)
      · have z' := (at_ b hb).symm.trans z
        cases z'
        rw [hb]
        exact ⟨ha, by rw [List.length_map]; exact hl, vs, _, rv, ha⟩
/-- a law by its plain function -/
theorem walk_G {l : PySem.W.OpenLaw} {n k : Nat} {q : Program} {loose : List Str} {XP : (Str → Option Value) → Heap → Prop} {YP : World → Heap → Prop} {d : DefRec} {x : Str} {F : FN}
    (hn : l.most = some n) (hn2 : n ≤ sizeLine) (hdf : d.params.defaults = []) (hr : Room k callerA)
    (hF : ∀ (w : World) (mg : Str → Option Value) (fa : Addr) (h : Heap), YP w h → h.Ns mainGlobals mg → mg d.name = some (.ref fa) →
      ∃ (K : PySem.W.Frag) (fd : FuncData), K.In h ∧ (∀ p ∈ CTs K, h.get? p.2 = some { cls := .none, data := .fields #[] }) ∧ (∀ p ∈ CTs K, K.lookup p.2 = none) ∧ (∀ p ∈ CTs K, PySem.W.CodeHd h p.1 p.2) ∧
        (∀ (s : Shared) (u : Value), BindsTo s fd ⟨[u], []⟩ [(x, u)]) ∧ ∀ base : Heap, K.In base → base.Ns mainGlobals mg → BaseOk K mg base → FnG l.prog w K mg base k fa fd [x] (spF K F))
    (hv : ∀ ns : List Int, ns.length ≤ n → ∃ a', F [.rol (ns.map .int)] ⟨0, .nil⟩ = .ok (.bl true) a') : PySem.W.WalkO q loose XP YP l.row.toRowW d [] (fun f vs => PySem.call f vs) := by
  refine Att.attach_call hn hdf ?_
  intro w s0 s mg mb fa o pm cd doc a vs ns G Y ho hd hcd hmg hobj hints hlen hg
  obtain ⟨K, fd, KX, t1, t2, t3, hb, hK⟩ := hF w mg fa _ Y G.T.g hmg
  exact law_callG KX G.T.g G.T.b G.T.builtins G.T.nolimit hg t1 t2 t3 G.T.bmain hobj hints (Nat.le_trans hlen hn2) hr hK hb (hv ns hlen)
end VI
end
section
set_option maxRecDepth 100000
set_option maxHeartbeats 4000000
/-! isinstance by plain values. -/
namespace VI
open PySem PySem.Spec PyProof.Rows L2 PySem.SeqAt

/-- built-in kinds -/
inductive BK where
  | non | bool | int | str | tuple | list | dict
def BK.nm : BK → String
  | .non => "NoneType"
  | .bool => "bool"
  | .int => "int"
  | .str => "str"
  | .tuple => "tuple"
  | .list => "list"
  | .dict => "dict"
def asc {α : Type} : List (Str × α) → Str → Option α
  | [], _ => none
  | (k, v) :: l, x => match x == k with
    | true => some v
    | false => asc l x
theorem asc_mem {α : Type} : ∀ {l : List (Str × α)} {x : Str} {v : α}, asc l x = some v → (x, v) ∈ l
  | [], _, _, h => by cases h
  | (k, w) :: l, x, v, h => by
    have h' : (match x == k with | true => some w | false => asc l x) = some v := h
    split at h'
    · rename_i q
      cases h'
      rw [beq_iff_eq.mp q]
      exact List.mem_cons_self
    · exact List.mem_cons_of_mem _ (asc_mem h')
/-- the answer by the value's kind -/
def isV (f : BK → Bool) (oi oe : List (Str × Bool)) (a : AH) (v : PV) : Option Bool := match v with
  | .non => some (f .non)
  | .bl _ => some (f .bool)
  | .int _ => some (f .int)
  | .str _ => some (f .str)
  | .tup _ => some (f .tuple)
  | .rol _ => some (f .list)
  | .ref i => match a.get i with
    | some (.lst _) => some (f .list)
    | some (.dct _) => some (f .dict)
    | some (.ins c _) => asc oi c
    | none => none
  | .exc c _ _ => asc oe c
/-- an own class whose instances are asked -/
structure InsC (K : PySem.W.Frag) (C : Addr) : Prop where
  cls : Cls K C
  ha : PySem.W.findIn K (.ref C) "__class__" = some (some (.builtin "object.__class__"))
  hn : PySem.W.specialIn K (.builtin "object.__class__") "__get__" = some (some (.builtin "getset_descriptor.__get__"))
  ht : PySem.W.takesIn K (.builtin "object.__class__") = some true
  hm : PySem.W.mroIn K C (.type "object") = some true
def insB (K : PySem.W.Frag) (x : Str) : Bool := (He.Fa.cls x).ok K && (He.eqO (PySem.W.findIn K (.ref (He.ga K x)) "__class__") (some (some (.builtin "object.__class__"))) && (He.eqO (PySem.W.specialIn K (.builtin "object.__class__") "__get__") (some (some (.builtin "getset_descriptor.__get__"))) &&
  (decide (PySem.W.takesIn K (.builtin "object.__class__") = some true) && decide (PySem.W.mroIn K (He.ga K x) (.type "object") = some true))))
theorem insB_ok {K : PySem.W.Frag} {x : Str} (h : insB K x = true) : InsC K (He.ga K x) := by
  obtain ⟨h1, h⟩ := He.ba h
  obtain ⟨h2, h⟩ := He.ba h
  obtain ⟨h3, h⟩ := He.ba h
  obtain ⟨h4, h5⟩ := He.ba h
  exact ⟨He.cls_ok h1, He.eqO_ok h2, He.eqO_ok h3, of_decide_eq_true h4, of_decide_eq_true h5⟩
def excB (K : PySem.W.Frag) (x : Str) : Bool := xfB K (He.ga K x) && (He.eqO (PySem.W.findIn K (.ref (He.ga K x)) "__class__") (some (some (.builtin "object.__class__"))) && (He.eqO (PySem.W.specialIn K (.builtin "object.__class__") "__get__") (some (some (.builtin "getset_descriptor.__get__"))) &&
  (decide (PySem.W.takesIn K (.builtin "object.__class__") = some true) && decide (PySem.W.mroIn K (He.ga K x) (.type "object") = some true))))
theorem excB_ok {K : PySem.W.Frag} {x : Str} (h : excB K x = true) : ExcC K (He.ga K x) := by
  obtain ⟨h1, h⟩ := He.ba h
  obtain ⟨h2, h⟩ := He.ba h
  obtain ⟨h3, h⟩ := He.ba h
  obtain ⟨h4, h5⟩ := He.ba h
  obtain ⟨x1, x2, x3, x4⟩ := xfB_ok h1
  exact ⟨x1, x2, x3, x4, He.eqO_ok h2, He.eqO_ok h3, of_decide_eq_true h4, of_decide_eq_true h5⟩
theorem excB_xf {K : PySem.W.Frag} {x : Str} (h : excB K x = true) : XfC K (He.ga K x) := xfB_ok (He.ba h).1
section
variable {prog : Program} {w : World} {A : Around} {E : Value → Shared → Prop} {s : Shared} {K : PySem.W.Frag} {x D : Addr} {ox : Obj} {od : Option Obj}
open PySem.W PySem.Calls in
/-- e.__class__ of an exception that may have a dict -/
theorem exc_cls {Q : Option Value → Shared → Prop} (C : ExcC K D) (X : K.In s.heap) (I : InstAt s.heap x ox D od) (h : Q (some (.ref D)) { s with toks := s.toks + 1 }) : wpAny (model prog w) A (getAttr? (.ref x) "__class__") Q E s := by
  have hf : findObj K D od "__class__" = some (.bind (.builtin "getset_descriptor.__get__") (.builtin "object.__class__")) := by
    obtain ⟨cd, hc, _⟩ := any_some C.hd
    unfold findObj
    rw [hc, Option.bind_some, C.ha, Option.bind_some]
    simp [C.hn, C.ht]
  obtain ⟨hp, g, dr, tk, os⟩ := s
  have t0 := I.type (M := model prog w)
  have t1 := looks_findIn (M := model prog w) X C.hg
  have t2 := looks_findIn (M := model prog w) X C.hk
  have t3 := looks_find (M := model prog w) X I hf
  have tb : Looks (model prog w) hp (isInstance (.ref x) (.type "BaseException")) true := t0.andThen (looks_subIn X C.hs)
  have z2 : (Value.builtin "BaseException.__getattribute__" == Value.builtin "object.__getattribute__") = false := by
    decide +kernel
  have z1 : (onTheHeap (Value.ref D) && Value.builtin "BaseException.__getattribute__" == Value.builtin "object.__getattribute__") = false := by
    rw [z2] <;> rfl
  unfold getAttr? getAttrBy? getAttrBy
  refine wpAny_bind (wpAny_mkText (wpAny_bind (wpAny_attempt (wpAny_holding (wpAny_bind (t0.at (wpAny_bind (t1.at ?_))))))))
  show wpAny _ _ (if (onTheHeap (Value.ref D) && Value.builtin "BaseException.__getattribute__" == Value.builtin "object.__getattribute__") = true then _ else _) _ _ _
  rw [z1, if_neg Bool.false_ne_true]
  unfold getAttrByItsOwn hookBefore
  refine wpAny_bind ?_
  rw [if_pos (show onTheHeap (Value.ref D) = true from rfl)]
  refine t2.at ?_
  refine wpAny_bind (wpAny_attempt (wpAny_holding ?_))
  unfold callGetattribute
  rw [show (false && onTheHeap (Value.builtin "BaseException.__getattribute__")) = false from rfl, if_neg Bool.false_ne_true]
  unfold boundAndCalled
  rw [PySem.F.excAttr_ValueError.ga.bind (.ref x)]
  refine wpAny_bind (wpAny_pure ?_)
  show wpAny _ _ (call (.builtin "BaseException.__getattribute__") [.ref x, .str "__class__" tk]) _ _ _
  refine wpAny_call (codeAny_call_builtin PySem.F.excAttr_ValueError.ga.plain PySem.F.entry_bexc_ga ?_)
  refine @check_slot (model prog w) _ _ ⟨hp, g, dr, tk + 1, os⟩ "BaseException.__getattribute__" "BaseException" "__getattribute__" (.ref x) [.str "__class__" tk] [] _ (by decide +kernel) (by decide +kernel) tb
    (PySem.F.args_bexc_ga (.ref x) (.str "__class__" tk)) ?_
  unfold Builtin.«object.__getattribute__»
  refine wpAny_bind (wpAny_of_eq (a := ((Value.ref x : Value), [Value.str "__class__" tk])) (by
    first
      | rfl
      | (simp only [slotArgs] <;> rfl)) ?_)
  refine wpAny_bind (wpAny_pure (wpAny_bind (t0.at (wpAny_bind (t3.at ?_)))))
  show wpAny _ _ (holding [Value.builtin "object.__class__"] (call (.builtin "getset_descriptor.__get__") [.builtin "object.__class__", .ref x, .ref D]) >>= ret) _ _ _
  refine wpAny_bind (wpAny_holding (wpAny_call (class_get (s := ⟨hp, g, dr, tk + 1, os⟩) (ox := ox) (od := od) X I C.hm ?_)))
  refine wpAny_pure ?_
  show wpAny _ _ (handedOut (.ref D)) _ _ _
  rw [handedOut_of (v := .ref D) rfl]
  first
    | exact wpAny_pure (wpAny_pure h)
    | exact wpAny_pure h
    | exact wpAny_pure (wpAny_bind (wpAny_pure (wpAny_pure h)))
/-- what isinstance asks of it -/
theorem kitx_exc (C : ExcC K D) : PySem.W.KitX K (.ref x) (.ref D) (fun h => ∃ ox od, PySem.W.InstAt h x ox D od) where
  ty := fun _ _ _ ⟨_, _, I⟩ => I.type
  it := fun _ _ X _ => by
    obtain ⟨cd, hc, _⟩ := PySem.W.any_some C.hd
    unfold PySem.W.clsIn at hc
    split at hc
    · rename_i ho
      intro A' Q' E' s' k q
      unfold isType loadHead
      exact wpAny_bind (wpAny_loadPart (k _ _ (X _ _ ho)) (wpAny_pure q))
    · cases hc
  ne := fun h tp dd its n sl X htp => by
    obtain ⟨cd, hc, _⟩ := PySem.W.any_some C.hd
    refine Bool.eq_false_iff.mpr fun q => ?_
    have e : D = tp := Value.ref.inj (beq_iff_eq.mp q)
    subst e
    unfold PySem.W.clsIn at hc
    split at hc
    · rename_i ho
      have z := (X _ _ ho).symm.trans htp
      cases z
    · cases hc
  ca := fun X ⟨_, _, I⟩ k => exc_cls C X I k
end
/-- the class that is asked for, its answers -/
structure IsC (K : PySem.W.Frag) (c : Value) (f : BK → Bool) (oi oe : List (Str × Bool)) : Prop where
  b : ∀ t : BK, PySem.W.kitOne K (.type t.nm) c = some (f t)
  i : ∀ p ∈ oi, InsC K (He.ga K p.1) ∧ PySem.W.kitOne K (.ref (He.ga K p.1)) c = some p.2
  e : ∀ p ∈ oe, ExcC K (He.ga K p.1) ∧ PySem.W.kitOne K (.ref (He.ga K p.1)) c = some p.2
section
variable {X : Cx} {pins : List (Addr × Obj)} {σ : L2.St} {H : Hp} {s : Shared}
/-- the kit's facts of a plain value -/
theorem kit_v {f : BK → Bool} {oi oe : List (Str × Bool)} {r : Nat → Addr} {a : AH} {v : PV} {x : V} {u : Value} {b : Bool} (I : Inv X pins σ H s) (S : SR X.K r a H) (hv : VR X.K r a.n H v x) (rx : RelV x u) (e : isV f oi oe a v = some b) :
    (∃ (t : Value) (P : Heap → Prop), PySem.W.KitX X.K u t P ∧ P s.heap ∧ u ≠ .builtin "__main__.__loader__#opaque" ∧ ((∃ y : BK, t = .type y.nm ∧ b = f y) ∨ (∃ c, (c, b) ∈ oi ∧ t = .ref (He.ga X.K c)) ∨ (∃ c, (c, b) ∈ oe ∧ t = .ref (He.ga X.K c)))) ∨ (∃ c, (c, b) ∈ oi ∧ ∃ a dx fs, x = .ref a ∧ H a = some (.ins (He.ga X.K c) dx fs)) ∨
      (∃ c, (c, b) ∈ oe ∧ ∃ a ns ys, x = .ref a ∧ Ex X.K H a c ns ys) := by
  have base : ∀ (y : BK), b = f y → TyX X.K H x (.type y.nm) → ∃ (t : Value) (P : Heap → Prop), PySem.W.KitX X.K u t P ∧ P s.heap ∧ u ≠ .builtin "__main__.__loader__#opaque" ∧ ((∃ y : BK, t = .type y.nm ∧ b = f y) ∨ (∃ c, (c, b) ∈ oi ∧ t = .ref (He.ga X.K c)) ∨ (∃ c, (c, b) ∈ oe ∧ t = .ref (He.ga X.K c))) := fun y eb ty => by
    obtain ⟨P, Z, p, hx⟩ := kit_of I rx ty
    exact ⟨_, P, Z, p, hx, .inl ⟨y, rfl, eb⟩⟩
  cases hv with
  | non => cases e; exact .inl (base .non rfl (.base .non))
  | bl c => cases e; exact .inl (base .bool rfl (.base (.bl c)))
  | int i => cases e; exact .inl (base .int rfl (.base (.int i)))
  | str y => cases e; exact .inl (base .str rfl (.base (.str y)))
  | tup ht hs =>
    cases e
    obtain ⟨o, h1, _⟩ := ht
    exact .inl (base .tuple rfl (.fTuple h1))
  | rol ht hs =>
    cases e
    rcases ht.sq with (h1 | ⟨o, h1⟩) | ⟨o, its, n, h1, h2, _⟩
    · exact .inl (base .list rfl (.base (.lst h1)))
    · exact .inl (base .list rfl (.base (.frz h1)))
    · exact .inl (base .list rfl (.kList h1 h2))
  | @ref i hi =>
    have e' : (match a.get i with | some (.lst _) => some (f .list) | some (.dct _) => some (f .dict) | some (.ins c _) => asc oi c | none => none) = some b := e
    split at e'
    · rename_i l e1
      cases e'
      obtain ⟨ys, hy, _⟩ := S.lst e1
      exact .inl (base .list rfl (.base (.lst hy)))
    · rename_i l e1
      cases e'
      obtain ⟨ys, hy, _⟩ := S.dct e1
      exact .inl (base .dict rfl (.base (.dK hy)))
    · rename_i c l e1
      cases S.ob i _ e1 with
      | ins h1 _ => exact .inr (.inl ⟨c, asc_mem e', _, _, _, rfl, h1⟩)
    · cases e'
  | exc h1 _ => exact .inr (.inr ⟨_, asc_mem e, _, _, _, rfl, h1⟩)
theorem kit_v2 {f : BK → Bool} {oi oe : List (Str × Bool)} {r : Nat → Addr} {a : AH} {v : PV} {x : V} {u : Value} {b : Bool} (hi : ∀ p ∈ oi, InsC X.K (He.ga X.K p.1)) (he : ∀ p ∈ oe, ExcC X.K (He.ga X.K p.1)) (I : Inv X pins σ H s) (S : SR X.K r a H) (hv : VR X.K r a.n H v x) (rx : RelV x u) (e : isV f oi oe a v = some b) :
    ∃ (t : Value) (P : Heap → Prop), PySem.W.KitX X.K u t P ∧ P s.heap ∧ u ≠ .builtin "__main__.__loader__#opaque" ∧ ((∃ y : BK, t = .type y.nm ∧ b = f y) ∨ (∃ c, (c, b) ∈ oi ∧ t = .ref (He.ga X.K c)) ∨ (∃ c, (c, b) ∈ oe ∧ t = .ref (He.ga X.K c))) := by
  rcases kit_v I S hv rx e with z | ⟨c, hc, p, dx, fs, ex, h1⟩ | ⟨c, hc, p, ns, ys, ex, h1⟩
  · exact z
  · subst ex
    have C := hi _ hc
    obtain ⟨P, Z, q, hx⟩ := kit_of I rx (.base (.ins h1 C.cls C.ha C.hn C.ht C.hm))
    exact ⟨_, P, Z, q, hx, .inr (.inl ⟨c, hc, rfl⟩)⟩
  · subst ex
    obtain ⟨d, oe', h2, h3, ⟨vs, h4⟩, h5, _⟩ := h1
    cases (show u = Value.ref p from rx)
    have hk : ObjOk X.prog X.w H s.heap p (exO p oe') := I.hok p _ h2
    have hg : s.heap.get? p = some oe' := hk.1
    refine ⟨_, _, kitx_exc (he _ hc), ?_, (fun z => nomatch z), .inr (.inr ⟨c, hc, rfl⟩)⟩
    obtain ⟨z1, z2⟩ := h3
    cases d with
    | none => exact ⟨oe', none, hg, z1, by unfold PySem.W.notCls; rw [h4] <;> rfl, by rw [z2]; trivial⟩
    | some dd =>
      have hd : ObjOk X.prog X.w H s.heap dd (exd dd (ns.zip ys)) := I.hok dd _ (h5 dd rfl)
      obtain ⟨⟨mA, ⟨od, _, _, hod, _⟩, _⟩, _⟩ := hd
      exact ⟨oe', some od, hg, z1, by unfold PySem.W.notCls; rw [h4] <;> rfl, by rw [z2]; exact hod⟩
/-- isinstance(v, c) -/
def rIsV (K : PySem.W.Frag) (f : BK → Bool) (oi oe : List (Str × Bool)) (c : V) : List V → Hp → VK → Prop := fun xs H Q => ∃ (x : V) (r : Nat → Addr) (v : PV) (a : AH) (b : Bool), xs = [x, c] ∧ SR K r a H ∧ VR K r a.n H v x ∧ isV f oi oe a v = some b ∧ Q (.bl b) H
theorem call_isV {f : BK → Bool} {oi oe : List (Str × Bool)} {c : V} {cv : Value} (k : ClsV c cv) (C : IsC X.K cv f oi oe) : CallR X (.builtin "isinstance") (rIsV X.K f oi oe c) := by
  intro pins s σ H xs us Q I rr ⟨x, r, v, a, b, ex, S, hv, e, q⟩
  subst ex
  obtain ⟨u1, u2, rfl, r1, r2⟩ := vals2 rr
  have e2 := k.eq r2
  subst e2
  obtain ⟨t, P, Z, p, hx, ht⟩ := kit_v2 (fun p hp => (C.i p hp).1) (fun p hp => (C.e p hp).1) I S hv r1 e
  have hk : PySem.W.kitOne X.K t u2 = some b := by
    rcases ht with ⟨y, rfl, rfl⟩ | ⟨y, hy, rfl⟩ | ⟨y, hy, rfl⟩
    · exact C.b y
    · exact (C.i _ hy).2
    · exact (C.e _ hy).2
  exact PySem.W.kia_one Z I.kIn p hk hx fun tk => ⟨.bl b, H, I.tok tk, rfl, q⟩
/-- isinstance(v, (c1, c2)): the tuple just laid -/
structure IsT (K : PySem.W.Frag) (cs : List Value) (f : BK → Bool) (oi oe : List (Str × Bool)) : Prop where
  b : ∀ t : BK, PySem.W.kitAny K (.type t.nm) cs = some (f t)
  i : ∀ p ∈ oi, InsC K (He.ga K p.1) ∧ PySem.W.kitAny K (.ref (He.ga K p.1)) cs = some p.2
  e : ∀ p ∈ oe, ExcC K (He.ga K p.1) ∧ PySem.W.kitAny K (.ref (He.ga K p.1)) cs = some p.2
def rIsVT (K : PySem.W.Frag) (f : BK → Bool) (oi oe : List (Str × Bool)) (cs : List V) : List V → Hp → VK → Prop := fun xs H Q => ∃ (x : V) (tp : Addr) (r : Nat → Addr) (v : PV) (a : AH) (b : Bool), xs = [x, .ref tp] ∧ H tp = some (.tup cs) ∧ SR K r a H ∧ VR K r a.n H v x ∧ isV f oi oe a v = some b ∧ Q (.bl b) H
theorem call_isVT {f : BK → Bool} {oi oe : List (Str × Bool)} {cs : List V} {cvs : List Value} (k : Paired ClsV cs cvs) (C : IsT X.K cvs f oi oe) : CallR X (.builtin "isinstance") (rIsVT X.K f oi oe cs) := by
  intro pins s σ H xs us Q I rr ⟨x, tp, r, v, a, b, ex, hT, S, hv, e, q⟩
  subst ex
  obtain ⟨u1, u2, rfl, r1, r2⟩ := vals2 rr
  cases (show u2 = Value.ref tp from r2)
  obtain ⟨t, P, Z, p, hx, ht⟩ := kit_v2 (fun p hp => (C.i p hp).1) (fun p hp => (C.e p hp).1) I S hv r1 e
  have hk : PySem.W.kitAny X.K t cvs = some b := by
    rcases ht with ⟨y, rfl, rfl⟩ | ⟨y, hy, rfl⟩ | ⟨y, hy, rfl⟩
    · exact C.b y
    · exact (C.i _ hy).2
    · exact (C.e _ hy).2
  obtain ⟨_, its, rv, o, h1, h2, n, h3⟩ := (show ObjOk X.prog X.w H s.heap tp (.tup cs) from I.hok tp _ hT)
  have e3 := ClsV.all k rv
  subst e3
  obtain ⟨oc, od, dt, sl⟩ := o
  simp only at h2 h3
  subst h2 h3
  exact PySem.W.kia_tup Z I.kIn p h1 hk hx fun tk => ⟨.bl b, H, I.tok tk, rfl, q⟩
end
/-- isinstance(f, c) -/
def eIsi (f : BK → Bool) (oi oe : List (Str × Bool)) (fe : FE) : FE := fun e a => (fe e a).bind fun v a1 => match isV f oi oe a1 v with
  | some b => .ok (.bl b) a1
  | none => .no
section
variable {X : Cx} {W : WX} {fe : FE} {e tx : Expr} {pos p : Pos}
theorem v_isi {f : BK → Bool} {oi oe : List (Str × Bool)} {c : V} {cv : Value} (k : ClsV c cv) (C : IsC X.K cv f oi oe) (hm : X.mg "isinstance" = none) (he : PE X e (tO X.K W fe)) (ht : PE X tx (tC c)) (hg : Gl X "isinstance" := by rfl)
    (s1 : starEach (e :: [tx]) X.env = (false, eval e X.env) :: starEach [tx] X.env := by rfl) (s2 : starEach (tx :: []) X.env = (false, eval tx X.env) :: starEach [] X.env := by rfl) (hpl : (backTo pos (starEach [tx] X.env)).any (·.1) = false := by rfl) :
    PE X (.Call (.Name "isinstance" p) [e, tx] [] pos) (tO X.K W (eIsi f oi oe fe)) := pe_of (pe_callB (call_isV k C) hg hm (by rfl) (pa_cons he (pa_cons ht pa_nil s2) s1) (by decide) (by decide) s1 hpl) fun s H Q ⟨r, en, a, T, h⟩ => by
  refine tO_mono (tO_bind T h) fun x H1 ⟨r1, v, a1, m1, T1, hv, h1⟩ => ?_
  cases q : isV f oi oe a1 v with
  | none => rw [q] at h1; exact h1.elim
  | some b =>
    rw [q] at h1
    have h2 : Fin X.K (fun c d H' => W c d s H') r1 a1.n H1 (relV X.K) Q (.ok (.bl b) a1) := h1
    exact ⟨x, r1, v, a1, b, rfl, T1.sr, hv, q, h2.here T1.sr (.bl _)⟩
theorem v_isiT {f : BK → Bool} {oi oe : List (Str × Bool)} {c1 c2 : V} {cv1 cv2 : Value} {t1 t2 : Expr} {j : Nat} {pt : Pos} (k1 : ClsV c1 cv1) (k2 : ClsV c2 cv2) (C : IsT X.K [cv1, cv2] f oi oe) (hm : X.mg "isinstance" = none) (he : PE X e (tO X.K W fe)) (ht1 : PE X t1 (tC c1)) (ht2 : PE X t2 (tC c2)) (hg : Gl X "isinstance" := by rfl)
    (s0 : starEach (t1 :: [t2]) X.env = (false, eval t1 X.env) :: starEach [t2] X.env := by rfl) (s3 : starEach (t2 :: []) X.env = (false, eval t2 X.env) :: starEach [] X.env := by rfl)
    (s1 : starEach (e :: [.Tuple [t1, t2] j pt]) X.env = (false, eval e X.env) :: starEach [.Tuple [t1, t2] j pt] X.env := by rfl) (s2 : starEach ((.Tuple [t1, t2] j pt) :: []) X.env = (false, eval (.Tuple [t1, t2] j pt) X.env) :: starEach [] X.env := by rfl) (hpl : (backTo pos (starEach [.Tuple [t1, t2] j pt] X.env)).any (·.1) = false := by rfl) :
    PE X (.Call (.Name "isinstance" p) [e, .Tuple [t1, t2] j pt] [] pos) (tO X.K W (eIsi f oi oe fe)) :=
  pe_of (pe_callB (call_isVT (.cons k1 (.cons k2 .nil)) C) hg hm (by rfl) (pa_cons he (pa_cons (pe_tup (pa_cons ht1 (pa_cons ht2 pa_nil s3) s0)) pa_nil s2) s1) (by decide) (by decide) s1 hpl) fun s H Q ⟨r, en, a, T, h⟩ => by
  refine tO_mono (tO_bind T h) fun x H1 ⟨r1, v, a1, m1, T1, hv, h1⟩ => ?_
  cases q : isV f oi oe a1 v with
  | none => rw [q] at h1; exact h1.elim
  | some b =>
    rw [q] at h1
    have h2 : Fin X.K (fun c d H' => W c d s H') r1 a1.n H1 (relV X.K) Q (.ok (.bl b) a1) := h1
    refine ⟨by rw [sizeLine_eq]; show 2 ≤ _; decide, fun tp ntp => ?_⟩
    have m := mo_up (K := X.K) (r := r1) (n := a1.n) ntp (.tup [c1, c2])
    exact ⟨x, tp, r1, v, a1, b, rfl, upd_same, T1.sr.up ntp _, hv.mo m, q, h2 r1 _ _ m (T1.sr.up ntp _) (.bl _)⟩
end
end VI
end
section
set_option maxRecDepth 100000
set_option maxHeartbeats 4000000
/-! Exceptions by plain values: raise, the one that is kept behind its suite. -/
namespace VI
open PySem PySem.Spec PyProof.Rows L2 PySem.SeqAt

section
variable {X : Cx} {pins : List (Addr × Obj)} {σ : L2.St} {H : Hp} {s : Shared} {a : Addr} {u : HO}
/-- what is not a tuple, locked or a table -/
def freeO (o : Option HO) : Prop := match o with
  | none => True
  | some (.xd _) => True
  | _ => False
/-- an object is told anew: one that wasn't tracked, or an exception's dict -/
theorem inv_re (I : Inv X pins σ H s) (hu : ObjOk X.prog X.w (upd H a u) s.heap a u) (hf : freeO (H a)) (h0 : ∀ o, X.s_0.heap.get? a = some o → X.H_0 a = none → a ∉ X.ex → False) (h1 : X.env.locals ≠ a) (h2 : ∀ x c, X.env.cells.lookup x = some c → c ≠ a) (h3 : ∀ p ∈ X.pn ++ pins, p.1 ≠ a) :
    Inv X pins σ (upd H a u) s := by
  have nf : ∀ {b : Addr} {o : HO}, H b = some o → (∀ fs, o ≠ .xd fs) → b ≠ a := fun {b o} e n z => by
    rw [z] at e
    rw [e] at hf
    cases o with
    | xd fs => exact n fs rfl
    | _ => exact hf
  refine ⟨I.ok, I.os, I.bare, ⟨I.base.keep, I.base.slot, fun b o e n x => ?_, I.base.there, fun b xs e => ?_, fun b o v e => ?_, fun b ps e => ?_⟩, I.loc, I.cell, ?_, fun x c e => ?_, fun p hp => ?_, fun b o e => ?_, I.len⟩
  · have q := I.base.free b o e n x
    rw [upd_ne (fun z => by subst z; exact h0 o e n x)]
    exact q
  · have q := I.base.tups b xs e
    rw [upd_ne (nf q (fun fs z => by cases z))]
    exact q
  · have q := I.base.frzs b o v e
    rw [upd_ne (nf q (fun fs z => by cases z))]
    exact q
  · obtain ⟨m, q⟩ := I.base.tbls b ps e
    exact ⟨m, by rw [upd_ne (nf q (fun fs z => by cases z))]; exact q⟩
  · rw [upd_ne h1]; exact I.free
  · rw [upd_ne (h2 x c e)]; exact I.freeC x c e
  · obtain ⟨z1, z2, z3⟩ := I.pin p hp
    exact ⟨z1, by rw [upd_ne (h3 p hp)]; exact z2, z3⟩
  · by_cases hb : b = a
    · subst hb
      rw [upd_same] at e
      cases e
      exact hu
    · rw [upd_ne hb] at e
      exact (I.hok b o e).stay (fun _ _ _ q => q) (fun c q => by rw [upd_ne (nf q (fun fs z => by cases z))]; exact q) fun c xs q => by rw [upd_ne (nf q (fun fs z => by cases z))]; exact q
/-- the exception's dict, told as one that stays -/
theorem inv_exd {fs : List (Str × V)} (I : Inv X pins σ H s) (h : H a = some (.xd fs)) : Inv X pins σ (upd H a (exd a fs)) s := by
  obtain ⟨mA, hn, hr⟩ := (show ObjOk X.prog X.w H s.heap a (.xd fs) from I.hok a _ h)
  refine inv_re I (exd_ok hn hr) (by rw [h]; exact True.intro) (fun o e n x => ?_) (fun z => ?_) (fun x c e z => ?_) fun p hp z => ?_
  · have q := I.base.free a o e n x
    rw [h] at q
    cases q
  · have q := I.free
    rw [z, h] at q
    cases q
  · have q := I.freeC x c e
    rw [z, h] at q
    cases q
  · have q := (I.pin p hp).2.1
    rw [z, h] at q
    cases q
theorem exO_is {P : Program} {w : World} {H : Hp} {h : Heap} {oe : Obj} (e : h.get? a = some oe) : ObjOk P w H h a (exO a oe) := ⟨e, ⟨oe, e⟩, fun h1 h2 z k => k _ z⟩
/-- an object that is new since the entry, and that nothing tells of, is told -/
theorem inv_exO {oe : Obj} (I : Inv X pins σ H s) (e : s.heap.get? a = some oe) (n : H a = none) (h0 : X.s_0.heap.get? a = none) (h1 : X.env.locals ≠ a) (h2 : ∀ v, oe.data ≠ .cell v) (h3 : ∀ p ∈ X.pn ++ pins, p.1 ≠ a) : Inv X pins σ (upd H a (exO a oe)) s :=
  inv_re I (exO_is e) (by rw [n]; exact True.intro) (fun o z => by rw [h0] at z; cases z) h1 (fun x c hc z => by
    obtain ⟨v, o, q1, q2⟩ := I.cell x c hc
    rw [z, e] at q1
    cases q1
    exact h2 v q2) h3
/-- how the world is told that has a caught exception at a -/
def kept (H : Hp) (a : Addr) (oe : Obj) (d : Option Addr) : Hp := upd (match d with
  | some dd => match H dd with
    | some (.xd fs) => upd H dd (exd dd fs)
    | _ => H
  | none => H) a (exO a oe)
end
/-! ### raise -/
def sRaise (c : Str) : GS := fun e a => .er c [] e a
def sRaise1 (c f : Str) (fe : FE) : GS := fun e a => xB e (fe e a) fun v a1 => .er c [(f, v)] e a1
/-- what is asked of a class without own __init__ -/
theorem sx_raise0 {X : Cx} {W : WX} {x m : Str} {j : Nat} {p p2 pos pos' : Pos} (hc : X.calm = true) (tk : Takes X W) (gC : X.mg x = some (.ref (He.ga X.K x))) (f : (He.Fa.exc x).ok X.K = true) (hg : Gl X x := by rfl) (hdb : (x == ("__debug__" : Str)) = false := by decide) :
    PS X (.Raise (some (.Call (.Name x p) [.Constant (.str m) j p2] [] pos)) none pos') (tX X.K W (sRaise x)) := by
  obtain ⟨q, kC, s1, s2⟩ := He.exc_ok f
  refine ps_of (ps_raise hc tk (pmk_own F.excBase_ValueError q gC kC (raises_own s1 s2) hg hdb)) fun D s H ⟨r, e, a, T, h⟩ => ?_
  have h2 : FinS X.K W D r a.n H (.er x [] e a) := h
  exact h2 r s H none .refl T ⟨[], .nil, (fun dd z => by cases z), fun _ => rfl⟩
end VI
end
section
set_option maxRecDepth 100000
set_option maxHeartbeats 4000000
/-! An own exception class whose __init__ says super().__init__(text), then self.part = part. -/
namespace VI
open PySem PySem.Spec PyProof.Rows L2 PySem.SeqAt

/-- its __init__'s body -/
def badBody (m : Str) (j : Nat) (p0 p1 p2 p3 p4 p5 p6 p7 p8 p9 : Pos) : List Stmt :=
  [.Expr (.Call (.Attribute (.Call (.Name "super" p0) [] [] p1) "__init__" p2) [.Constant (.str m) j p3] [] p4) p5, .Assign [.Attribute (.Name "self" p6) "part" p7] (.Name "part" p8) p9]
def badPar (q1 q2 : Pos) : Arguments := { posonlyargs := [], args := [⟨"self", none, q1⟩, ⟨"part", none, q2⟩], vararg := none, kwonlyargs := [], kw_defaults := [], kwarg := none, defaults := [] }
/-- its names -/
structure BadS (scope : Scope) : Prop where
  kind : scope.kind = .function
  co : scope.isCoroutine = false
  gen : scope.isGenerator = false
  cell : ∀ x ∈ scope.names, x.2 ≠ .cell
  self : scope.names.lookup ("self" : Str) = some .local
  part : scope.names.lookup ("part" : Str) = some .local
  sup : scope.names.lookup ("super" : Str) = some .globalImplicit
  cls : scope.names.lookup ("__class__" : Str) = some .free
def badSB (scope : Scope) : Bool := decide (scope.kind = .function) && (!scope.isCoroutine && (!scope.isGenerator && ((scope.names.all fun x => decide (x.2 ≠ .cell)) && (decide (scope.names.lookup ("self" : Str) = some .local) && (decide (scope.names.lookup ("part" : Str) = some .local) &&
  (decide (scope.names.lookup ("super" : Str) = some .globalImplicit) && decide (scope.names.lookup ("__class__" : Str) = some .free)))))))
theorem badS_ok {scope : Scope} (h : badSB scope = true) : BadS scope := by
  obtain ⟨h1, h⟩ := He.ba h
  obtain ⟨h2, h⟩ := He.ba h
  obtain ⟨h3, h⟩ := He.ba h
  obtain ⟨h4, h⟩ := He.ba h
  obtain ⟨h5, h⟩ := He.ba h
  obtain ⟨h6, h⟩ := He.ba h
  obtain ⟨h7, h8⟩ := He.ba h
  exact ⟨of_decide_eq_true h1, by simpa using h2, by simpa using h3, fun x hx => of_decide_eq_true (List.all_eq_true.mp h4 x hx), of_decide_eq_true h5, of_decide_eq_true h6, of_decide_eq_true h7, of_decide_eq_true h8⟩
structure BadC (P : Program) (K : PySem.W.Frag) (C fI : Addr) : Prop where
  fn : ∃ (oc : Value) (od : Option Addr) (osl : Array (Option Value)) (name qual : Str) (q1 q2 : Pos) (scope : Scope) (kV doc pm : Value) (an : Option Addr) (cda : Addr) (ct : Value) (cc : Addr) (m : Str) (j : Nat) (p0 p1 p2 p3 p4 p5 p6 p7 p8 p9 : Pos),
    K.lookup fI = some ⟨oc, od, .func (PySem.W.ksFn name qual (badPar q1 q2) (badBody m j p0 p1 p2 p3 p4 p5 p6 p7 p8 p9) scope .none kV doc pm an (.ref cda) ct cc), osl⟩ ∧ PySem.W.codeIn K (.ref cda) qual = true ∧ BadS scope ∧ (p2.endLine == p4.line) = true ∧
    (∃ ccl cdd vs ccs file tf, K.lookup cda = some ⟨ccl, cdd, .fields vs, ccs⟩ ∧ vs[2]? = some (.str file tf) ∧ ((P.main.file : Str) == file) = true) ∧ ∃ cl cld csl, K.lookup cc = some ⟨cl, cld, .cell (some (.ref C)), csl⟩
  cls : OexC K C
  init : PySem.W.findIn K (.ref C) "__init__" = some (some (.ref fI))
  ti : PySem.W.typeIn K (.ref fI) = some (.type "function")
  mro : PySem.W.mroIn K C (.ref C) = some true
  sub : PySem.W.subIn K (.ref C) (.type "ValueError") = some true
  sup : PySem.W.ks_superIn K C C "__init__" = some (some (.builtin "ValueError.__init__"))
  opq : PySem.W.nsIn K cStatics "thirdparty.any" = some none
  noa : PySem.W.findIn K (.ref C) "part" = some none
  top : (P.main.scope.names.lookup ("super" : Str)).isSome = false
section
open PySem.W PySem.Calls
variable {P : Program} {w : World} {K : Frag} {mg mb : Str → Option Value} {A : Around} {R : Result → Shared → Prop} {C fI x t0 : Addr} {u : Value} {hp : Heap} {g : Array GenState} {d : Drawn} {t : Nat} {os : OsState}
theorem super_call {env : PySem.Env} {m : Str} {j : Nat} {p0 p1 p2 p3 p4 : Pos} (h : (p2.endLine == p4.line) = true) :
    eval (.Call (.Attribute (.Call (.Name "super" p0) [] [] p1) "__init__" p2) [.Constant (.str m) j p3] [] p4) env = (do
      let ov ← attributeBase (.Call (.Name "super" p0) [] [] p1) "__init__" env (eval (.Call (.Name "super" p0) [] [] p1) env)
      standAt p2.atName
      let (f, first) ← holding [ov] (getMethod ov "__init__" (do return (← importBound (.Call (.Name "super" p0) [] [] p1) env).getD true))
      callWith p4 f first (backTo p4 (starEach [.Constant (.str m) j p3] env)) []) := by
  have e1 : methodCallPos true (.Call (.Name "super" p0) [] [] p1) env p2 p4 = pure p4 := by
    unfold methodCallPos
    rw [h] <;> rfl
  show (do
      let ov ← attributeBase (.Call (.Name "super" p0) [] [] p1) "__init__" env (eval (.Call (.Name "super" p0) [] [] p1) env)
      standAt p2.atName
      methodCall (.Call (.Name "super" p0) [] [] p1) "__init__" p2 p4 env ov 1 (backTo p4 (starEach [.Constant (.str m) j p3] env)) []) = _
  congr 1
  funext ov
  congr 1
  funext _
  show (do
    let (f, first) ← holding [ov] (getMethod ov "__init__" (do return (← importBound (.Call (.Name "super" p0) [] [] p1) env).getD true))
    let callPos ← methodCallPos true (.Call (.Name "super" p0) [] [] p1) env p2 p4
    callWith callPos f first (backTo p4 (starEach [.Constant (.str m) j p3] env)) []) = _
  rw [e1]
  congr 1
/-- its __init__, called -/
theorem bad_init (B : BadC P K C fI) (X : K.In hp) (G : hp.Ns mainGlobals mg) (ms : mg "super" = none) (Gb : hp.Ns builtinsNs mb) (bs : mb "super" = some (.type "super")) (lim : hp.NoLimit) (hd : A.depth < recursionLimit) (hx : hp.get? x = some (PySem.HandSPX.excO C t0)) (nx : K.lookup x = none)
    (fin : ∀ h' tk dx t1, (∀ b o, b ≠ x → hp.get? b = some o → h'.get? b = some o) → hp.objs.size ≤ dx → dx ≠ x → h'.get? x = some ({ cls := .ref C, dict := some dx, data := .fields #[.ref t1, .none, .none, .none, .bool false, .none] } : Obj) →
      h'.Ns1 dx (fun y => if y = "part" then some u else none) → R (.ok (.ret .none)) ⟨h', g, d, tk, os⟩) :
    codeAny (model P w) A (.call (.ref fI) ⟨[.ref x, u], []⟩) R ⟨hp, g, d, t, os⟩ := by
  obtain ⟨oc, od, osl, name, qual, q1, q2, scope, kV, doc, pm, an, cda, ct, cc, m, j, p0, p1, p2, p3, p4, p5, p6, p7, p8, p9, lk, hcd, S, hln, ⟨ccl, cdd, vs, ccs, file, tf, lc, hvs, hfile⟩, cl, cld, csl, lcc⟩ := B.fn
  obtain ⟨nm, q, N, cbs, bm, sn, sub, ab, col, dd, k0, k1, k2, k3, k5, lC, hbm⟩ := B.cls.cls
  have hcl : clsIn K C = some { name := nm, bases := cbs, mro := .ref C :: bm, ns := N, qualname := q, hasDict := true, slotNames := sn, subclasses := sub, abstract := ab, collection := col, hasDel := false } := by
    unfold clsIn
    rw [lC] <;> rfl
  have hxC : x ≠ C := fun z => by
    have y := X _ _ lC
    rw [← z, hx] at y
    cases y
  refine ks_codeAny_call_defAt (fd := ksFn name qual (badPar q1 q2) (badBody m j p0 p1 p2 p3 p4 p5 p6 p7 p8 p9) scope .none kV doc pm an (.ref cda) ct cc) (body := badBody m j p0 p1 p2 p3 p4 p5 p6 p7 p8 p9) (binds := [("self", .ref x), ("part", u)])
    hd (X _ _ lk) rfl lim (codeRec_of X hcd) rfl (.of_eq rfl) S.cell (fun y hy => ?_) (fun h1 hns k1 => ?_) S.co S.gen S.kind
  · rcases List.mem_cons.mp hy with rfl | hy
    · exact S.self
    · rcases List.mem_cons.mp hy with rfl | hy
      · exact S.part
      · cases hy
  have X1 : K.In h1 := X.keeps k1
  have x1 : h1.get? x = some (PySem.HandSPX.excO C t0) := k1 _ _ hx
  refine ks_wpAt_execs_cons (ks_wpAt_Expr_any (ks_wpAt_MethodCall ?_ (super_call hln)) (by
    show (scope.kind == .module && _) = false
    rw [S.kind] <;> rfl))
  refine ks_wpAt_super_base (f := fI) (cc := cda) S.sup S.cls rfl rfl (X1 _ _ lk) rfl rfl rfl (X1 _ _ lc) rfl hvs hfile B.top ?_
  refine ks_loadName_global S.kind S.sup (loadGlobal_builtin (G.keeps k1) ms (Gb.keeps k1) bs ⟨rfl, ?_⟩)
  refine wpAny_loadName_free S.kind S.cls rfl ⟨_, X1 _ _ lcc, rfl⟩ ?_
  refine wpAny_loadName_local S.kind S.self hns (v := .ref x) rfl ?_
  refine ks_wpAny_isType_cls (X1 _ _ lC) rfl ⟨rfl, ?_⟩
  refine ks_wpAny_call_super (X1 _ _ lC) rfl x1 rfl (fun c e => by cases e) (looks_mroIn X1 B.mro) fun h2 e2 k2 => ?_
  have X2 : K.In h2 := X1.keeps k2
  have x2 : h2.get? x = some (PySem.HandSPX.excO C t0) := k2 _ _ x1
  have I2 : InstAt h2 x (PySem.HandSPX.excO C t0) C none := ⟨x2, rfl, rfl, trivial⟩
  have hsup := B.sup
  unfold ks_superIn at hsup
  rw [hcl, Option.bind_some] at hsup
  refine kxs_getMethod kxs_ValueError e2 (looks_opaque X2 B.opq) (l₀ := .ref C :: bm) (fun A Q E s k q => wpAny_bind ((looks_clsIn X2 hcl) A _ E s k (wpAny_pure q))) rfl X2 hsup (I2.type.andThen (looks_subIn X2 B.sub)) hxC rfl ?_
  have k3 : ∀ b o, h2.get? b = some o → (h2.push (kxs_mw "ValueError.__init__" x)).get? b = some o := fun b o e => Heap.get?_push_of_some _ e
  have hw : (h2.push (kxs_mw "ValueError.__init__" x)).get? h2.objs.size = some (kxs_mw "ValueError.__init__" x) := Heap.get?_push_size _ rfl
  have x3 : (h2.push (kxs_mw "ValueError.__init__" x)).get? x = some (excRec (.ref C) t0 none .none .none (.bool false)) := k3 _ _ x2
  refine kxs_callWith (i := "ValueError.__init__") (x := x) (by rfl) (evalArgs_plain ?_)
  show wpAny _ _ (spliced ((false, eval (.Constant (.str m) j p3) (callEnv (ksFn name qual (badPar q1 q2) (badBody m j p0 p1 p2 p3 p4 p5 p6 p7 p8 p9) scope .none kV doc pm an (.ref cda) ct cc) hp.objs.size fI)) :: [])) _ _ _
  refine Calls.spliced_cons (Calls.Constant_str ?_)
  refine Calls.spliced_nil ⟨hw, ?_⟩
  refine wpAny_call (codeAny_of_tree ?_)
  show wpAny _ _ (callAny (.ref h2.objs.size) _) _ _ _
  simp only [callAny]
  refine wpAny_bind (wpAny_load hw ?_)
  simp only [kxs_mw, show (Value.type "method-wrapper" == Value.type "method" || Value.type "method-wrapper" == Value.type "builtin_function_or_method" || Value.type "method-wrapper" == Value.type "method-wrapper") = true by decide, if_true]
  refine KFB.if_so (by decide) ?_
  refine wpAny_bind (check_bound_init F.excBase_ValueError.toExcCallFacts ((X2.keeps k3) _ _ lC) x3 rfl ?_)
  refine wpAny_bind (wpAny_pure (wpAny_pure ?_))
  refine ⟨plainId_quiet F.excBase_ValueError.init.plain _, codeAny_builtin F.excBase_ValueError.initEntry ?_⟩
  refine exc_init_tree (cls := .ref C) (t0 := t0) (dv := none) (c2 := .none) (c3 := .none) (b4 := .bool false) x3 (by show 1 ≤ sizeLine; rw [sizeLine_eq]; decide) fun h4 k4 x4 _ => ?_
  have kk : ∀ b o, b ≠ x → h1.get? b = some o → h4.get? b = some o := fun b o n e => k4 b o n (k3 _ _ (k2 _ _ e))
  have X4 : K.In h4 := fun b o e => kk b o (fun z => by
    rw [z, nx] at e
    cases e) (X1 _ _ e)
  have nL : hp.objs.size ≠ x := fun z => by
    rw [← z] at hx
    exact Nat.lt_irrefl _ (Heap.lt_size hx)
  have hns4 : h4.Ns hp.objs.size fun y => [(("self" : Str), Value.ref x), (("part" : Str), u)].reverse.lookup y := by
    obtain ⟨o, es, ep, e1, r⟩ := hns
    exact ⟨o, es, ep, kk _ _ nL e1, r⟩
  have I4 : InstAt h4 x (excRec (.ref C) (h2.push (kxs_mw "ValueError.__init__" x)).objs.size none .none .none (.bool false)) C none := ⟨x4, rfl, rfl, trivial⟩
  refine wpAt_of_wpAny (wpAny_execs_cons (plainObj_wpAny_Assign_Attribute ?_ (by rfl)))
  refine ldc S.kind S.part hns4 (v := u) rfl ?_
  refine ldc S.kind S.self hns4 (v := .ref x) rfl ?_
  refine set_plain X4 I4 B.cls.sa ?_
  refine PySem.HandSPX.exc_osa X4 x4 hcl (show PySem.HandSPX.refsVE (.ref C :: bm) = true from hbm) rfl B.noa fun h5 tk dx k5 ndx dne x5 n5 => ?_
  have sz : hp.objs.size ≤ h4.objs.size := Nat.le_of_lt (by
    obtain ⟨o, es, ep, e1, r⟩ := hns4
    exact Heap.lt_size e1)
  exact wpAny_execs_nil (fin h5 _ dx _ (fun b o n e => k5 b o n (kk b o n (k1 _ _ e))) (Nat.le_trans sz ndx) dne x5 n5)
end
section
variable {X : Cx} {W : WX} {fe : FE} {x : Str} {e : Expr} {te : TE} {p pos pos' : Pos} {fI : Addr}
/-- what is left of C(y) -/
def badQ (C : Addr) (Q : XK) (vs : List V) (H : Hp) : Prop := ∃ y, vs = [y] ∧ ∀ d, H d = none → Q (.ref C) (some d) (upd H d (.xd [("part", y)]))
/-- C(e) -/
theorem pmk_bad {C : Addr} (B : BadC X.prog X.K C fI) (ms : X.mg "super" = none) (hr : Room 1 X.A) (gC : X.mg x = some (.ref C)) (he : PE X e te) (hg : Gl X x := by rfl) (hdb : (x == ("__debug__" : Str)) = false := by decide)
    (hs : starEach (e :: []) X.env = (false, eval e X.env) :: starEach [] X.env := by rfl) (hpl : (backTo pos (starEach [] X.env)).any (·.1) = false := by rfl) :
    PMk X (.Call (.Name x p) [e] [] pos) (fun σ H Q => te σ H fun y H1 => badQ C Q [y] H1) := by
  intro pins s σ H Q I h
  obtain ⟨nm, q, N, bs, bm, sn, sub, ab, col, dd, k0, k1, k2, k3, k5, lC, hbm⟩ := B.cls.cls
  refine wpAny_Call_Name_kw (ld_glob I hg gC ?_ hdb)
  refine PySem.W.callWith_K (h₀ := X.base) I.ok.mod.kin B.cls.kC (thn ((pa_cons he pa_nil hs).run pos pins s σ H (badQ C Q) I h) fun us s1 ⟨vs, H1, I1, r1, y, ev, q1⟩ => ⟨I1.kIn, ?_⟩) hs hpl
  subst ev
  obtain ⟨u, rfl, ry⟩ := vals1 r1
  show wpAny _ _ (call (.ref C) [u]) _ _ _
  obtain ⟨mb, hmb, hbb⟩ := I1.ok.mod.blt
  have Gm : s1.heap.Ns mainGlobals X.mg := I1.ok.mod.glob.keeps I1.bk
  have Gb : s1.heap.Ns builtinsNs mb := hmb.keeps I1.bk
  have lim := I1.nolimit
  have KX := I1.kIn
  obtain ⟨hp, g, d, t, os⟩ := s1
  have n1 : hp.objs.size ≤ hp.objs.size + 1 := Nat.le_succ _
  have kk : ∀ b o, hp.get? b = some o → ((hp.push (PySem.W.kdv_tup [u])).push (PySem.HandSPX.excO C hp.objs.size)).get? b = some o := fun b o z => Heap.get?_push_of_some _ (Heap.get?_push_of_some _ z)
  have ee : ((hp.push (PySem.W.kdv_tup [u])).push (PySem.HandSPX.excO C hp.objs.size)).get? (hp.objs.size + 1) = some (PySem.HandSPX.excO C hp.objs.size) := by
    heap_get
  have nx : X.K.lookup (hp.objs.size + 1) = none := by
    cases z : X.K.lookup (hp.objs.size + 1) with
    | none => rfl
    | some o => exact absurd (Heap.lt_size (KX _ _ z)) (Nat.not_lt.mpr (Nat.le_succ _))
  refine wpAny_call (PySem.HandSPX.call_own F.excBase_ValueError (fun Y => PySem.HandSPX.refsVE_contains Y bm hbm) (KX _ _ lC) (PySem.W.looks_findIn KX B.init) (fun self => PySem.W.bind_fn KX self B.ti) (by show 1 ≤ sizeLine; rw [sizeLine_eq]; decide) ?_)
  refine bad_init B (KX.keeps kk) (Gm.keeps kk) ms (Gb.keeps kk) ((hbb _ (by decide)).trans (by rfl)) (lim.keeps kk) (hr.make C [u] []).depth ee nx fun h2 tk dx t1 k2 nd dne x2 ns2 => ⟨rfl, ?_⟩
  have lt : ∀ {b : Addr} {o : Obj}, hp.get? b = some o → b ≠ hp.objs.size + 1 := fun {b o} z => Nat.ne_of_lt (Nat.lt_of_lt_of_le (Heap.lt_size z) n1)
  obtain ⟨G, g1, g2⟩ := restrict h2 fun b => decide (b ≠ hp.objs.size + 1)
  have gk : ∀ b, b ≠ hp.objs.size + 1 → G.get? b = h2.get? b := fun b hb => g1 b (decide_eq_true hb)
  have ga : G.get? (hp.objs.size + 1) = none := g2 _ (by simp)
  have kG : ∀ b o, hp.get? b = some o → G.get? b = some o := fun b o z => (gk b (lt z)).trans (k2 b o (lt z) (kk b o z))
  have sd : hp.objs.size ≤ dx := by
    rw [Heap.size_push, Heap.size_push] at nd
    exact Nat.le_trans (Nat.le_trans n1 (Nat.le_succ _)) nd
  have J := I1.laid (t' := tk) (a := dx) (o := .xd [("part", y)]) (h' := G) kG sd ⟨_, ns2.at (fun o z => (gk dx dne).trans z), relO_put (fs := []) ry fun _ => True.intro⟩
  have nd1 : H1 dx = none := I1.hok.fresh sd
  refine ⟨hp.objs.size + 1, _, _, _, _, .ref C, some dx, rfl, J, fun b o z => ?_, ga, x2, ⟨rfl, rfl⟩, rfl, rfl, ?_, rfl, I1.bare, raises_own B.cls.exC B.cls.tyC, q1 dx nd1⟩
  · by_cases hb : b = hp.objs.size + 1
    · rw [hb] at z
      rw [show G.get? (hp.objs.size + 1) = none from ga] at z
      cases z
    · exact (gk b hb).symm.trans z
  · rw [upd_ne dne.symm]
    exact I1.hok.fresh n1
theorem sx_raise1 (B : BadC X.prog X.K (He.ga X.K x) fI) (ms : X.mg "super" = none) (hr : Room 1 X.A) (hc : X.calm = true) (tk : Takes X W) (gC : X.mg x = some (.ref (He.ga X.K x))) (he : PE X e (tO X.K W fe)) (hg : Gl X x := by rfl) (hdb : (x == ("__debug__" : Str)) = false := by decide)
    (hs : starEach (e :: []) X.env = (false, eval e X.env) :: starEach [] X.env := by rfl) (hpl : (backTo pos (starEach [] X.env)).any (·.1) = false := by rfl) :
    PS X (.Raise (some (.Call (.Name x p) [e] [] pos)) none pos') (tX X.K W (sRaise1 x "part" fe)) := by
  refine ps_of (ps_raise hc tk (pmk_bad B ms hr gC he hg hdb hs hpl)) fun D s H ⟨r, en, a, T, h⟩ => ?_
  refine tO_mono (xB_bind T h) fun y H1 ⟨r1, v, a1, m1, T1, hv, h1⟩ => ⟨y, rfl, fun d nd => ?_⟩
  have h2 : FinS X.K W D r1 a1.n H1 (.er x [("part", v)] en a1) := h1
  have m2 := mo_up (K := X.K) (r := r1) (n := a1.n) nd (.xd [(("part" : Str), y)])
  exact h2 r1 s _ (some d) m2 (T1.mo m2 (T1.sr.up nd _)) ⟨_, .cons (hv.mo m2) .nil, (fun dd z => by cases z; exact upd_same), fun z => by cases z⟩
end
end VI
end
section
set_option maxRecDepth 100000
set_option maxHeartbeats 4000000
/-! try: body / except x as n: suite, the exception kept. -/
namespace VI
open PySem PySem.Spec PyProof.Rows L2 PySem.SeqAt

section
variable {X : Cx} {pins : List (Addr × Obj)} {σ : L2.St} {H : Hp} {s : Shared} {a : Addr}
theorem inv_suite (I : Inv X pins σ H s) (a : Addr) : Inv (X.suite a (X.pn ++ pins)) [] σ H s :=
  ⟨I.ok.suite _ _, I.os, I.bare, I.base, I.loc, I.cell, I.free, I.freeC, (fun p hp => I.pin p (by rw [List.append_nil] at hp; exact hp)), I.hok, I.len⟩
theorem inv_back {q : List (Addr × Obj)} (J : Inv (X.suite a (X.pn ++ pins)) q σ H s) (ok : X.Ok) : Inv X pins σ H s :=
  ⟨ok, J.os, J.bare, J.base, J.loc, J.cell, J.free, J.freeC, (fun p hp => J.pin p (List.mem_append_left _ hp)), J.hok, J.len⟩
/-- the exception is told -/
theorem inv_kept {oe : Obj} {d : Option Addr} (I : Inv X pins σ H s) (e : s.heap.get? a = some oe) (n : H a = none) (h0 : X.s_0.heap.get? a = none) (h1 : X.env.locals ≠ a) (h2 : ∃ vs, oe.data = .fields vs) (h3 : ∀ p ∈ X.pn ++ pins, p.1 ≠ a) : Inv X pins σ (kept H a oe d) s := by
  obtain ⟨vs, hv⟩ := h2
  have nc : ∀ v, oe.data ≠ .cell v := fun v z => by
    rw [hv] at z
    cases z
  unfold kept
  cases d with
  | none => exact inv_exO I e n h0 h1 nc h3
  | some dd =>
    show Inv X pins σ (upd (match H dd with | some (.xd fs) => upd H dd (exd dd fs) | _ => H) a (exO a oe)) s
    split
    · rename_i fs q
      exact inv_exO (inv_exd I q) e (by rw [upd_ne (fun z => by rw [z, q] at n; cases n)]; exact n) h0 h1 nc h3
    · exact inv_exO I e n h0 h1 nc h3
end
/-- what the clause wishes of an exception of the body: slot i is n's -/
def wKeep (K : PySem.W.Frag) (c : Value) (i : Nat) (ts : TS) (Wout : WX) (D : Ends) : WX := fun cls d σ H => ∃ b, PySem.W.exmOne K cls c = some b ∧
  (b = true → ∀ (a : Addr) (oe : Obj), H a = none → Zc cls d oe → (∃ vs, oe.data = .fields vs) → ts ⟨fun σ' H' => D.nx (σ'.set i none) H', D.rt, fun σ' H' => D.bk (σ'.set i none) H', fun σ' H' => D.ct (σ'.set i none) H'⟩ (σ.set i (some (.ref a))) (kept H a oe d)) ∧ (b = false → Wout cls d σ H)
section
variable {X : Cx} {x n : Str} {c : Value} {i : Nat} {body suite : List Stmt} {b0 : Stmt} {np pos pos' : Pos} {tb : WX → TS} {ts : TS} {Wout : WX}
theorem ps_try_keep (stk : X.stack = X.env :: X.outer) (frm : X.env.frame = some X.env.locals) (nex : X.ex = []) (hN : X.N.Nodup) (hi : X.N[i]? = some n) (kn : X.env.kindOf n = some .local) (hc : Names X x c) (tk : Takes X Wout)
    (hbody : ∀ (W : WX) (pn : List (Addr × Obj)) (xe : Value → Shared → Prop), Takes (X.tr pn xe) W → PassesOwn (model X.prog X.w) X.A X.env xe → PSs (X.tr pn xe) body (tb W)) (hsuite : ∀ (a : Addr) (pn : List (Addr × Obj)), PSs (X.suite a pn) (b0 :: suite) ts) :
    PS X (.Try body [.ExceptHandler (some (.Name x np)) (some n) (b0 :: suite) pos'] [] [] pos) (fun D σ H => tb (wKeep X.K c i ts Wout D) D σ H) := by
  constructor
  intro pins s σ H D I h
  have ok := I.ok
  have hfr : X.A.frames = some (X.env :: X.outer) := by
    rw [ok.frames, stk]
  refine wpAny_Try_except ?_
  refine wpAny_mono ((hbody (wKeep X.K c i ts Wout D) (X.pn ++ pins)
    (fun e z1 => wpAny (model X.prog X.w) X.A (noteFrame e X.env) (fun _ z2 => wpAny (model X.prog X.w) X.A (setFlight e none) (fun _ z3 =>
      wpAny (model X.prog X.w) X.A (handleBy e X.env [.ExceptHandler (some (.Name x np)) (some n) (b0 :: suite) pos']) (SP X pins D) X.xe z3) X.xe z2) X.xe z1) ?caught PassesOwn.looking).run [] s σ H D (I.toTry _) h) (fun f z hz => ?_) fun e z hz => hz
  case caught =>
    intro u s' hx
    obtain ⟨a, B, sI, pi2, σ2, H2, cls, d, rfl, JT, nb, up, sky, na, hos, hag, b, hb1, hyes, hno⟩ := hx
    have J : Inv X pins σ2 H2 sI := JT.ofTry ok
    have sky2 : Sky B (X.env :: X.outer) a (Zc cls d) X.env.locals s'.heap := by
      rw [← stk]
      exact sky
    show wpAny (model X.prog X.w) X.A (noteFrame (.ref a) X.env) _ _ _
    refine Sky.land Zc.steady hfr frm sky2 fun h3 f3 u3 => ?_
    have J3 : Inv X pins σ2 H2 { s' with heap := h3 } := J.landed nb f3.1 (up.trans u3) hos hag
    obtain ⟨oe3, vs3, e3, z3, d3⟩ := f3.there
    have nfr : a ∉ frs (X.env :: X.outer) := fun hm => by
      obtain ⟨_, o', q, nn⟩ := f3.2.2.1.mem hm
      rw [e3] at q
      cases q
      exact nn _ d3
    have n1 : X.env.locals ≠ a := fun z => nfr (List.mem_filterMap.mpr ⟨X.env, List.mem_cons_self, by rw [frm, z]⟩)
    have n2 : a ∉ X.fs := fun hm => by
      obtain ⟨e, he, q⟩ := List.mem_filterMap.mp hm
      exact nfr (List.mem_filterMap.mpr ⟨e, List.mem_cons_of_mem _ he, q⟩)
    have nI : sI.heap.get? a = none := by
      cases q : sI.heap.get? a with
      | none => rfl
      | some o =>
        have y := nb a o q (by rw [stk]; exact nfr)
        rw [f3.2.1] at y
        cases y
    have n0 : X.s_0.heap.get? a = none := by
      cases q : X.s_0.heap.get? a with
      | none => rfl
      | some o =>
        obtain ⟨o', y⟩ := J.base.there a o q (by rw [nex]; exact fun z => nomatch z)
        rw [nI] at y
        cases y
    have n3 : ∀ p ∈ X.pn ++ pins, p.1 ≠ a := fun p hp z => by
      have y := (J.pin p hp).1
      rw [z, nI] at y
      cases y
    have S3 := J3.suite e3 d3 na n1.symm n2
    refine wpAny_handleBy_cons (codeAny_handlers_test ?_) (by intro q; cases q)
    have LT : PySem.W.Looks (model X.prog X.w) h3 (typeOf (.ref a)) cls := fun A Q E s k q => wpAny_typeOf_ref (k _ _ e3) (by rw [z3.1]; exact q)
    have LM := PySem.W.exm_one (M := model X.prog X.w) J3.kIn LT hb1
    have test : ∀ {Q : Value → Shared → Prop} {E : Value → Shared → Prop}, Q c { s' with heap := h3 } → wpAny (model X.prog X.w) (X.A.mark (some (.ref a))) (eval (.Name x np) X.env) Q E { s' with heap := h3 } := fun {Q E} q => by
      obtain ⟨g1, g2, hm | ⟨hm, hv, hnn⟩⟩ := hc
      · exact ld_glob (X := X.suite a ((a, oe3) :: (X.pn ++ pins))) S3 g1 hm q g2
      · exact ld_blt (X := X.suite a ((a, oe3) :: (X.pn ++ pins))) S3 g1 hm hv q hnn g2
    refine test (LM.here ?_)
    cases b with
    | false =>
      show wpAny _ X.A (handleBy (.ref a) X.env []) _ _ _
      refine wpAny_handleBy_nil ?_
      obtain ⟨k1, k2, k3, oe, vs, T, oT, ts', he, hz, hd, h1, hr⟩ := id f3
      unfold PySem.passOn
      refine wpAny_bind (wpAny_field he hd h1 ?_)
      rw [if_neg (show ¬ ((Value.ref T == Value.none) = true) from by
        simp)]
      have out : wpAny (model X.prog X.w) X.A (setFlight (.ref a) X.env.frame) (fun _ z4 => wpAny (model X.prog X.w) X.A (throw (.ref a) : Sem Flow) (SP X pins D) X.xe z4) X.xe { s' with heap := h3 } := by
        rw [frm]
        refine HandSPX.setFlight_upZ f3 fun h4 q4 u4 => wpAny_throw (tk _ _ ?_)
        exact ⟨a, B, sI, pins, σ2, H2, cls, d, rfl, J, nb, (up.trans u3).trans u4, .inr (.inr (by
          rw [stk]
          exact q4)), na, hos, hag, hno rfl⟩
      first
        | exact wpAny_bind (wpAny_pure (wpAny_bind out))
        | exact wpAny_bind out
    | true =>
      refine codeAny_handlers_suite_as ?_
      refine HandSPX.lands_againZ f3 fun h4 f4 u4 => ?_
      have J4 : Inv X pins σ2 H2 { s' with heap := h4 } := J.landed nb f4.1 ((up.trans u3).trans u4) hos hag
      obtain ⟨oe4, vs4, e4, z4, d4⟩ := f4.there
      have S4 := inv_suite (inv_kept (d := d) J4 e4 na n0 n1 ⟨_, d4⟩ n3) a
      refine store_ok (X := X.suite a (X.pn ++ pins)) (v := .ref a) S4 hN hi (.inl kn) rfl (fun s5 S5 => ?_) (.inr kn)
      refine wpAny_mono ((hsuite a (X.pn ++ pins)).run [] s5 _ _ _ S5 (hyes rfl a oe4 na z4 ⟨_, d4⟩)) (fun f s6 hsp => ?_) fun _ _ z => False.elim z
      have end_ : ∀ {σ6 : L2.St} {H6 : Hp} {Q : Shared → Prop}, Inv (X.suite a (X.pn ++ pins)) [] σ6 H6 s6 → (∀ s7, Inv X pins (σ6.set i none) H6 s7 → Q s7) →
          wpAny (model X.prog X.w) X.A (do bindName X.env n .none; unbindBehindTheSuite X.env n pos') (fun _ s7 => Q s7) X.xe s6 := fun {σ6 H6 Q} S6 hq => gone_ok (inv_back S6 ok) hN hi kn hq
      cases f with
      | ret u =>
        obtain ⟨v6, σ6, H6, S6, r6, q6⟩ := hsp
        exact end_ S6 fun s7 J7 => ⟨_, _, _, J7, r6, q6⟩
      | next =>
        obtain ⟨σ6, H6, S6, q6⟩ := hsp
        exact end_ S6 fun s7 J7 => ⟨_, _, J7, q6⟩
      | brk =>
        obtain ⟨σ6, H6, S6, q6⟩ := hsp
        exact end_ S6 fun s7 J7 => ⟨_, _, J7, q6⟩
      | cont =>
        obtain ⟨σ6, H6, S6, q6⟩ := hsp
        exact end_ S6 fun s7 J7 => ⟨_, _, J7, q6⟩
  cases f with
  | ret u =>
    obtain ⟨v, σ', H', J', r, q⟩ := hz
    exact ⟨v, σ', H', J'.ofTry ok, r, q⟩
  | next =>
    obtain ⟨σ', H', J', q⟩ := hz
    exact wpAny_execs_nil ⟨σ', H', J'.ofTry ok, q⟩
  | brk =>
    obtain ⟨σ', H', J', q⟩ := hz
    exact ⟨σ', H', J'.ofTry ok, q⟩
  | cont =>
    obtain ⟨σ', H', J', q⟩ := hz
    exact ⟨σ', H', J'.ofTry ok, q⟩
end
end VI
end
section
set_option maxRecDepth 100000
set_option maxHeartbeats 4000000
/-! try by plain values. -/
namespace VI
open PySem PySem.Spec PyProof.Rows L2 PySem.SeqAt

/-- slot i is empty -/
def unp : Env → Nat → Env
  | [], _ => []
  | _ :: e, 0 => none :: e
  | o :: e, i + 1 => o :: unp e i
theorem unp_is : ∀ (e : Env) (i : Nat), unp e i = e.set i none
  | [], _ => by simp [unp]
  | _ :: _, 0 => rfl
  | _ :: e, i + 1 => by rw [unp, unp_is e i] <;> rfl
theorem ST.unset {K : PySem.W.Frag} {r : Nat → Addr} {e : Env} {a : AH} {s : L2.St} {H : Hp} (T : ST K r e a s H) (i : Nat) : ST K r (unp e i) a (s.set i none) H := by
  rw [unp_is]
  refine ⟨T.sr, fun j v q => ?_, by rw [List.length_set, List.length_set]; exact T.ln⟩
  by_cases hj : i = j
  · subst hj
    by_cases hi : i < e.length
    · rw [List.getElem?_set_self hi] at q
      cases q
    · rw [List.getElem?_eq_none (by rw [List.length_set]; omega)] at q
      cases q
  · rw [List.getElem?_set_ne hj] at q ⊢
    exact T.er j v q
section
variable {K : PySem.W.Frag} {r : Nat → Addr} {n : Nat} {a : AH} {H H' : Hp}
/-- all but the dicts of exceptions stay -/
theorem mo_but (k : ∀ b o, H b = some o → (∀ fs, o ≠ .xd fs) → H' b = some o) : Mo K r n H r n H' :=
  ⟨Nat.le_refl _, fun _ _ => rfl, fun c o u h => k _ _ h (fun fs z => by cases z), fun c φ h => k _ _ h (fun fs z => by cases z), fun h p hp => by
    obtain ⟨ps, h1, h2, h3⟩ := h p hp
    refine ⟨ps, k _ _ h1 (fun fs z => by cases z), h2, fun pos cv hc => ?_⟩
    obtain ⟨c, e1, e2⟩ := h3 pos cv hc
    exact ⟨c, e1, k _ _ e2 (fun fs z => by unfold LamX.CodeO at z; cases z)⟩, fun c xs h q => ⟨k _ _ h (fun fs z => by cases z), q⟩⟩
theorem SR.but (S : SR K r a H) (k : ∀ b o, H b = some o → (∀ fs, o ≠ .xd fs) → H' b = some o) : SR K r a H' := by
  have m := mo_but (K := K) (r := r) (n := a.n) k
  refine ⟨S.inj, S.bd, S.all, fun i o e => ?_, m.tab S.tb⟩
  obtain ⟨w, hw, iw⟩ := (S.ob i o e).at_
  refine (S.ob i o e).mo m fun u hu => k _ _ hu fun fs z => ?_
  rw [hw] at hu
  cases hu
  rw [z] at iw
  cases iw
theorem kept_but {b : Addr} {oe : Obj} {d : Option Addr} (nb : H b = none) : ∀ c o, H c = some o → (∀ fs, o ≠ .xd fs) → kept H b oe d c = some o := fun c o h n => by
  unfold kept
  rw [upd_ne (ne_of_none h nb)]
  cases d with
  | none => exact h
  | some dd =>
    show (match H dd with | some (.xd fs) => upd H dd (exd dd fs) | _ => H) c = some o
    cases q : H dd with
    | none => exact h
    | some u =>
      cases u with
      | xd fs =>
        show upd H dd (exd dd fs) c = some o
        rw [upd_ne (fun z => by
          rw [z, q] at h
          exact n fs (Option.some.inj h).symm)]
        exact h
      | _ => exact h
theorem fr_zip : ∀ {fs : List (Str × PV)} {xs : List (Str × V)}, FR K r n H fs xs → (fs.map (·.1)).zip (xs.map (·.2)) = xs ∧ VRs K r n H (fs.map (·.2)) (xs.map (·.2)) ∧ fs.length = xs.length
  | _, _, .nil => ⟨rfl, .nil, rfl⟩
  | _, _, .cons h hs => by
    obtain ⟨h1, h2, h3⟩ := fr_zip hs
    refine ⟨?_, .cons h h2, by rw [List.length_cons, List.length_cons, h3]⟩
    rw [List.map_cons, List.map_cons, List.zip_cons_cons, h1]
theorem kept_exc {b : Addr} {oe : Obj} {d : Option Addr} {c : Str} {fs : List (Str × PV)} (nb : H b = none) (hz : Zc (.ref (He.ga K c)) d oe) (hv : ∃ vs, oe.data = .fields vs) (h : DR K r n H d fs) : VR K r n (kept H b oe d) (.exc c (fs.map (·.1)) (fs.map (·.2))) (.ref b) := by
  obtain ⟨xs, h1, h2, h3⟩ := h
  obtain ⟨z1, z2, z3⟩ := fr_zip h1
  have m := mo_but (K := K) (r := r) (n := n) (kept_but (oe := oe) (d := d) nb)
  refine .exc (ys := xs.map (·.2)) ⟨d, oe, ?_, hz, hv, fun dd e => ?_, fun e => ?_, by rw [List.length_map, List.length_map, z3]⟩ (z2.mo m)
  · unfold kept
    exact upd_same
  · subst e
    have q := h2 dd rfl
    unfold kept
    rw [upd_ne (ne_of_none q nb)]
    show (match H dd with | some (.xd fs) => upd H dd (exd dd fs) | _ => H) dd = _
    rw [q, z1]
    exact upd_same
  · have q := h3 e
    rw [q] at h1
    cases h1
    rfl
end
def unS (i : Nat) : RS → RS
  | .nx e a => .nx (unp e i) a
  | .bk e a => .bk (unp e i) a
  | .ct e a => .ct (unp e i) a
  | .rt v a => .rt v a
  | _ => .no
/-- try: body / except x as n: suite; cs: which classes the clause catches -/
def sTry (cs : List (Str × Bool)) (i : Nat) (f g : GS) : GS := fun e a => match f e a with
  | .er c fs e1 a1 => match asc cs c with
    | some true => unS i (g (put e1 i (.exc c (fs.map (·.1)) (fs.map (·.2)))) a1)
    | some false => .er c fs e1 a1
    | none => .no
  | o => o
section
variable {X : Cx} {W : WX} {x n : Str} {c : Value} {body suite : List Stmt} {b0 : Stmt} {np pos pos' : Pos} {f g : GS}
theorem fin_un {K : PySem.W.Frag} {D : Ends} {r : Nat → Addr} {n : Nat} {H : Hp} {o : RS} {i : Nat} (h : FinS K W D r n H (unS i o)) :
    FinS K (fun _ _ _ _ => False) ⟨fun σ' H' => D.nx (σ'.set i none) H', D.rt, fun σ' H' => D.bk (σ'.set i none) H', fun σ' H' => D.ct (σ'.set i none) H'⟩ r n H o := by
  cases o with
  | nx e a =>
    have h' : FinS K W D r n H (.nx (unp e i) a) := h
    exact fun r' s' H' m T => h' r' _ H' m (T.unset i)
  | bk e a =>
    have h' : FinS K W D r n H (.bk (unp e i) a) := h
    exact fun r' s' H' m T => h' r' _ H' m (T.unset i)
  | ct e a =>
    have h' : FinS K W D r n H (.ct (unp e i) a) := h
    exact fun r' s' H' m T => h' r' _ H' m (T.unset i)
  | rt v a => exact h
  | er c fs e a => exact h.elim
  | no => exact h.elim
theorem sx_try (cs : List (Str × Bool)) (i : Nat) (hcs : ∀ p ∈ cs, PySem.W.exmOne X.K (.ref (He.ga X.K p.1)) c = some p.2) (stk : X.stack = X.env :: X.outer) (frm : X.env.frame = some X.env.locals) (nex : X.ex = []) (hN : X.N.Nodup) (hc : Names X x c) (tk : Takes X W)
    (hbody : ∀ (W : WX) (pn : List (Addr × Obj)) (xe : Value → Shared → Prop), Takes (X.tr pn xe) W → PassesOwn (model X.prog X.w) X.A X.env xe → PSs (X.tr pn xe) body (tX X.K W f)) (hsuite : ∀ (a : Addr) (pn : List (Addr × Obj)), PSs (X.suite a pn) (b0 :: suite) (tX X.K (fun _ _ _ _ => False) g))
    (hi : X.N[i]? = some n := by rfl) (kn : X.env.kindOf n = some .local := by rfl) : PS X (.Try body [.ExceptHandler (some (.Name x np)) (some n) (b0 :: suite) pos'] [] [] pos) (tX X.K W (sTry cs i f g)) :=
  ps_of (ps_try_keep (tb := fun W => tX X.K W f) stk frm nex hN hi kn hc tk hbody hsuite) fun D s H ⟨r, e, a, T, h⟩ => by
  refine ⟨r, e, a, T, ?_⟩
  have h' : FinS X.K W D r a.n H (match f e a with | .er c fs e1 a1 => (match asc cs c with | some true => unS i (g (put e1 i (.exc c (fs.map (·.1)) (fs.map (·.2)))) a1) | some false => .er c fs e1 a1 | none => .no) | o => o) := h
  cases q : f e a with
  | nx e1 a1 => rw [q] at h'; exact h'
  | bk e1 a1 => rw [q] at h'; exact h'
  | ct e1 a1 => rw [q] at h'; exact h'
  | rt v a1 => rw [q] at h'; exact h'
  | no => rw [q] at h'; exact h'.elim
  | er cl fs e1 a1 =>
    rw [q] at h'
    intro r1 s1 H1 d m1 T1 hd
    have h2 : FinS X.K W D r a.n H (match asc cs cl with | some true => unS i (g (put e1 i (.exc cl (fs.map (·.1)) (fs.map (·.2)))) a1) | some false => .er cl fs e1 a1 | none => .no) := h'
    cases qa : asc cs cl with
    | none => rw [qa] at h2; exact h2.elim
    | some b =>
      rw [qa] at h2
      refine ⟨b, hcs _ (asc_mem qa), fun eb p oe np hz hv => ?_, fun eb => ?_⟩
      · subst eb
        have h3 : FinS X.K W D r a.n H (unS i (g (put e1 i (.exc cl (fs.map (·.1)) (fs.map (·.2)))) a1)) := h2
        have kb := kept_but (oe := oe) (d := d) np
        have m2 := mo_but (K := X.K) (r := r1) (n := a1.n) kb
        have T2 : ST X.K r1 e1 a1 s1 (kept H1 p oe d) := T1.mo m2 (T1.sr.but kb)
        exact ⟨r1, _, a1, T2.set i (kept_exc np hz hv hd), fin_un (FinS.later (m1.trans m2) h3)⟩
      · subst eb
        have h3 : FinS X.K W D r a.n H (.er cl fs e1 a1) := h2
        exact h3 r1 s1 H1 d m1 T1 hd
end
/-! ### a caught exception's field -/
def exl : List Str → List PV → Str → Option PV
  | k :: ks, v :: vs, f => match f == k with
    | true => some v
    | false => exl ks vs f
  | _, _, _ => none
theorem exl_rel {K : PySem.W.Frag} {r : Nat → Addr} {n : Nat} {H : Hp} {f : Str} {v : PV} : ∀ {ns : List Str} {l : List PV} {ys : List V}, VRs K r n H l ys → exl ns l f = some v → ∃ y, (ns.zip ys).lookup f = some y ∧ VR K r n H v y
  | k :: ks, _, _, .cons (v := w) (x := y) h hs, e => by
    rw [List.zip_cons_cons]
    unfold exl at e
    cases q : (f == k) with
    | true =>
      rw [q] at e
      have e' : some w = some v := e
      cases e'
      exact ⟨y, by simp [List.lookup, q], h⟩
    | false =>
      rw [q] at e
      obtain ⟨z, h1, h2⟩ := exl_rel hs e
      exact ⟨z, by simp [List.lookup, q, h1], h2⟩
  | [], _, _, .nil, e => by cases e
  | [], _, _, .cons _ _, e => by cases e
  | _ :: _, _, _, .nil, e => by cases e
def memS : List Str → Str → Bool
  | [], _ => false
  | k :: l, x => match x == k with
    | true => true
    | false => memS l x
theorem memS_mem : ∀ {l : List Str} {x : Str}, memS l x = true → x ∈ l
  | [], _, h => by cases h
  | k :: l, x, h => by
    have h' : (match x == k with | true => true | false => memS l x) = true := h
    split at h'
    · rename_i q
      rw [beq_iff_eq.mp q]
      exact List.mem_cons_self
    · exact List.mem_cons_of_mem _ (memS_mem h')
def eXf (cs : List Str) (f : Str) (fe : FE) : FE := fun e a => (fe e a).bind fun v a1 => match v with
  | .exc c ns l => match memS cs c with
    | true => match exl ns l f with
      | some u => .ok u a1
      | none => .no
    | false => .no
  | _ => .no
theorem v_xf {X : Cx} {W : WX} {fe : FE} {e : Expr} {pos : Pos} {f : Str} (cs : List Str) (hcs : ∀ c ∈ cs, XfC X.K (He.ga X.K c) ∧ PySem.W.findIn X.K (.ref (He.ga X.K c)) f = some none) (he : PE X e (tO X.K W fe)) (hb : attributeBase e f X.env (eval e X.env) = eval e X.env := by rfl) :
    PE X (.Attribute e f pos) (tO X.K W (eXf cs f fe)) := by
  refine ⟨fun pins s σ H Q I ⟨r, en, a, T, h⟩ => attr_of hb (thn (he.run pins s σ H _ I (tO_bind T h)) fun u s1 hh => ?_)⟩
  obtain ⟨x, H1, I1, rx, r1, v, a1, m1, T1, hv, h1⟩ := hh
  cases hv with
  | exc hx hs =>
    rename_i c ns l p ys
    obtain ⟨d, oe, e1, hz, ⟨vs, hd⟩, e2, e3, e4⟩ := hx
    have h2 : Fin X.K (fun c d H' => W c d σ H') r1 a1.n H1 (relV X.K) Q (match memS cs c with | true => (match exl ns l f with | some u => .ok u a1 | none => .no) | false => .no) := h1
    cases q1 : memS cs c with
    | false => rw [q1] at h2; exact h2.elim
    | true =>
      rw [q1] at h2
      have h3 : Fin X.K (fun c d H' => W c d σ H') r1 a1.n H1 (relV X.K) Q (match exl ns l f with | some u => .ok u a1 | none => .no) := h2
      cases q2 : exl ns l f with
      | none => rw [q2] at h3; exact h3.elim
      | some w =>
        rw [q2] at h3
        have h4 : Fin X.K (fun c d H' => W c d σ H') r1 a1.n H1 (relV X.K) Q (.ok w a1) := h3
        obtain ⟨y, hl, hw⟩ := exl_rel hs q2
        obtain ⟨T0, no⟩ := hcs c (memS_mem q1)
        cases d with
        | none =>
          rw [e3 rfl] at hl
          cases hl
        | some dd =>
          cases (show u = Value.ref p from rx)
          obtain ⟨mA, hns, hr⟩ := exd_at I1.hok (e2 dd rfl)
          obtain ⟨od, ho, hl2⟩ := lookIn_ns hns
          obtain ⟨u2, hu, ru⟩ := RelO.some_of (v := y) (o := mA f) (by rw [← hl]; exact hr f)
          have hk : ObjOk X.prog X.w H1 s1.heap p (exO p oe) := I1.hok p _ e1
          have J : PySem.W.InstAt s1.heap p oe (He.ga X.K c) (some od) := ⟨hk.1, hz.1, by unfold PySem.W.notCls; rw [hd] <;> rfl, by rw [hz.2]; exact ho⟩
          exact HandSPX.exc_get I1.kIn J T0.ga T0.gg T0.exC (PySem.W.findObj_own T0.hdC no rfl (by rw [hl2, hu])) (handed_of ru) ⟨y, H1, I1.tok _, ru, h4.here T1.sr hw⟩
  | _ => exact h1.elim
end VI
end
section
set_option maxRecDepth 100000
set_option maxHeartbeats 4000000
/-! Calls with defaults, with keywords; instances. -/
namespace VI
open PySem PySem.Spec PyProof.Rows L2 PySem.SeqAt

section
variable {X : Cx} {W : WX} {fs : FA} {e : Expr} {es : List Expr} {pos : Pos} {k : Nat} {F : FN} {f : Addr} {fd : FuncData} {ps : List Str} {pins : List (Addr × Obj)} {σ : L2.St} {H : Hp} {s : Shared} {Q : VK} {us : List Value} {vs : List V} {args : Args}
theorem run_code {B : Result → Shared → Prop} (tk : Takes X W) (I : Inv X pins σ H s) (h : codeAny (model X.prog X.w) X.A (.call (.ref f) ⟨us, kw⟩) (CR (L2.CX X.prog X.w) X.stack X.prog X.w H s Q (WE W σ)) s) : wpAny (model X.prog X.w) X.A (call (.ref f) us kw) (EP X pins σ Q) X.xe s := by
  refine wpAny_call (codeAny_mono h fun r s' hq => ?_)
  match r, hq with
  | .error e, hq => exact passAt tk σ pins H s e s' I hq
  | .ok (.ret u), hq => exact I.after hq
  | .ok .next, hq => exact hq.elim
  | .ok .brk, hq => exact hq.elim
  | .ok .cont, hq => exact hq.elim
/-- a promise that serves here: with the guards, or without -/
def Pr (X : Cx) (k : Nat) (f : Addr) (fd : FuncData) (ps : List Str) (F : FN) : Prop := FnOk X.prog X.w X.K X.mg X.base (L2.CX X.prog X.w) k f fd ps (spF X.K F) ∨ (X.A.guards = some [] ∧ FnG X.prog X.w X.K X.mg X.base k f fd ps (spF X.K F))
theorem Pr.run (h : Pr X k f fd ps F) (hr : Room k X.A) (tk : Takes X W) (I : Inv X pins σ H s) (b : vs.length = ps.length → BindsTo s fd ⟨us, kw⟩ (ps.zip ws)) (r : Vals vs ws) (q : spF X.K F vs H Q (WE W σ)) : wpAny (model X.prog X.w) X.A (call (.ref f) us kw) (EP X pins σ Q) X.xe s := by
  rcases h with h | ⟨hg, h⟩
  · exact run_code (B := fun _ _ => True) tk I (h.run X.A X.stack s H ⟨us, kw⟩ ws vs Q (WE W σ) hr I.env0 (b (h.len _ _ _ _ q)) r q)
  · exact run_code (B := fun _ _ => True) tk I (h.run X.A X.stack s H ⟨us, kw⟩ ws vs Q (WE W σ) hg hr I.env0 (b (h.len _ _ _ _ q)) r q)
end
section
variable {X : Cx} {W : WX} {fs : FA} {e : Expr} {es : List Expr} {pos p : Pos} {k : Nat} {F : FN} {x : Str} {ps : List Str}
/-! ### defaults -/
structure HasD (X : Cx) (k : Nat) (x : Str) (ps : List Str) (F : FN) (dv : List PV) : Prop where
  ex : ∃ f fd ds dvs, Pr X k f fd ps F ∧ X.mg x = some (.ref f) ∧ PySem.W.keepIn X.K (.ref f) = true ∧ Binds X.K fd ps ds ∧ Vals dvs ds ∧ ∀ r n H, VRs X.K r n H dv dvs
def eCallD (F : FN) (dv : List PV) (fs : FA) : FE := fun e a => (fs e a).bind fun vs a1 => F (vs ++ dv) a1
theorem v_callD {dv : List PV} (h : HasD X k x ps F dv) (hr : Room k X.A) (tk : Takes X W) (ha : PA X (e :: es) (tOs X.K W fs)) (hg : Gl X x := by rfl) (hdb : (x == ("__debug__" : Str)) = false := by decide)
    (he : starEach (e :: es) X.env = (false, eval e X.env) :: starEach es X.env := by rfl) (hpl : (backTo pos (starEach es X.env)).any (·.1) = false := by rfl) : PE X (.Call (.Name x p) (e :: es) [] pos) (tO X.K W (eCallD F dv fs)) := by
  obtain ⟨f, fd, ds, dvs, hF, hm, hk, hb, hd, hv⟩ := h.ex
  refine ⟨fun pins s σ H Q I ⟨r, en, a, T, q⟩ => wpAny_Call_Name_kw (ld_glob I hg hm ?_ hdb)⟩
  refine PySem.W.callWith_K (h₀ := X.base) I.ok.mod.kin hk (thn (ha.run pos pins s σ H _ I (tOs_bind T q)) ?_) he hpl
  intro us s1 ⟨vs, H1, I1, r1, r2, l, a1, m1, T1, hvs, h1⟩
  refine ⟨I1.kIn, hF.run hr tk I1 (fun hl => hb s1 us I1.kIn ?_) (r1.append hd) ⟨r2, l ++ dv, a1, T1.sr, hvs.app (hv _ _ _), h1⟩⟩
  rw [← (r1.append hd).length]
  exact hl
/-! ### keywords: all of them, from the last parameter to the first -/
theorem vk_nil : PK X [] (tOs X.K W aNil) := ⟨fun pos pins s σ H Q I ⟨r, e, a, T, h⟩ => pk_nil.run pos pins s σ H Q I (by
  have h2 : Fin X.K (fun c d H' => W c d σ H') r a.n H (relVs X.K) Q (.ok [] a) := h
  exact h2 r H [] .refl T.sr .nil)⟩
theorem vk_cons {nm : Option Str} {kpos : Pos} {kws : List Keyword} {fa : FE} {fr : FA} (ha : PE X e (tO X.K W fa)) (hr : PK X kws (tOs X.K W fr)) : PK X (⟨nm, e, kpos⟩ :: kws) (tOs X.K W (aCons fa fr)) :=
  ⟨fun pos pins s σ H Q I ⟨r, en, a, T, h⟩ => (pk_cons ha hr).run pos pins s σ H Q I (by
  refine tO_mono (tO_bind T h) fun x H1 ⟨r1, v, a1, m1, T1, hv, h1⟩ => ?_
  refine tOs_mono (tOs_bind T1 h1) fun xs H2 ⟨r2, vs, a2, m2, T2, hvs, h2⟩ => ?_
  have h3 : Fin X.K (fun c d H' => W c d σ H') r2 a2.n H2 (relVs X.K) Q (.ok (v :: vs) a2) := h2
  exact h3 r2 H2 _ .refl T2.sr (.cons (hv.mo m2) hvs))⟩
structure HasR (X : Cx) (k : Nat) (x : Str) (ps : List Str) (F : FN) (ks : List Str) : Prop where
  ex : ∃ f fd, Pr X k f fd ps F ∧ X.mg x = some (.ref f) ∧ PySem.W.keepIn X.K (.ref f) = true ∧ ∀ (s : Shared) (ws : List Value), X.K.In s.heap → ws.length = ps.length → BindsTo s fd ⟨[], ks.zip ws⟩ (ps.zip ws.reverse)
def eCallR (F : FN) (fs : FA) : FE := fun e a => (fs e a).bind fun vs a1 => F vs.reverse a1
theorem vals_rev : ∀ {vs : List V} {us : List Value}, Vals vs us → Vals vs.reverse us.reverse
  | _, _, .nil => .nil
  | _, _, .cons h hs => by
    rw [List.reverse_cons, List.reverse_cons]
    exact (vals_rev hs).append (.cons h .nil)
theorem v_callR {ks : List Str} {kws : List Keyword} (h : HasR X k x ps F ks) (hr : Room k X.A) (tk : Takes X W) (ha : PK X kws (tOs X.K W fs)) (hg : Gl X x := by rfl) (hdb : (x == ("__debug__" : Str)) = false := by decide) (hall : (backToKw pos (keywordEach kws X.env)).all (·.1.isSome) = true := by rfl)
    (hks : (backToKw pos (keywordEach kws X.env)).filterMap (·.1) = ks := by rfl) (hpl : ((backTo pos (starEach [] X.env)).any (·.1) || (backToKw pos (keywordEach kws X.env)).any (·.1.isNone)) = false := by rfl) : PE X (.Call (.Name x p) [] kws pos) (tO X.K W (eCallR F fs)) := by
  obtain ⟨f, fd, hF, hm, hk, hb⟩ := h.ex
  refine ⟨fun pins s σ H Q I ⟨r, en, a, T, q⟩ => wpAny_Call_Name_kw (ld_glob I hg hm ?_ hdb)⟩
  refine PySem.W.callWith_KW0 (h₀ := X.base) I.ok.mod.kin hk hall (thn (ha.run pos pins s σ H _ I (tOs_bind T q)) ?_) hpl
  intro us s1 ⟨vs, H1, I1, r1, r2, l, a1, m1, T1, hvs, h1⟩
  refine ⟨I1.kIn, ?_⟩
  rw [hks]
  refine hF.run (vs := vs.reverse) (ws := us.reverse) hr tk I1 (fun hl => hb s1 us I1.kIn ?_) (vals_rev r1) ⟨r2, l.reverse, a1, T1.sr, hvs.rev, h1⟩
  rw [← r1.length, ← List.length_reverse]
  exact hl
/-! ### instances -/
structure HasM (X : Cx) (k : Nat) (x : Str) (ps : List Str) (F : FN) : Prop where
  ex : ∃ f fd, Mk X.K (He.ga X.K x) f ∧ FnOk X.prog X.w X.K X.mg X.base (L2.CX X.prog X.w) k f fd ps (spF X.K F) ∧ X.mg x = some (.ref (He.ga X.K x)) ∧ Binds X.K fd ps []
def mkR (n : Nat) : R PV → R PV
  | .ok v a => match v with
    | .non => .ok (.ref n) a
    | _ => .no
  | .er c fs a => .er c fs a
  | .no => .no
def eMake (x : Str) (F : FN) (fs : FA) : FE := fun e a => (fs e a).bind fun vs a1 => mkR a1.n (F (.ref a1.n :: vs) (a1.new (.ins x [])))
theorem v_make (h : HasM X k x ps F) (hr : Room (k + 1) X.A) (tk : Takes X W) (ha : PA X (e :: es) (tOs X.K W fs)) (hg : Gl X x := by rfl) (hdb : (x == ("__debug__" : Str)) = false := by decide)
    (he : starEach (e :: es) X.env = (false, eval e X.env) :: starEach es X.env := by rfl) (hpl : (backTo pos (starEach es X.env)).any (·.1) = false := by rfl) : PE X (.Call (.Name x p) (e :: es) [] pos) (tO X.K W (eMake x F fs)) := by
  obtain ⟨f, fd, M, hF, hm, hb⟩ := h.ex
  refine ⟨fun pins s σ H Q I ⟨r, en, a, T, q⟩ => wpAny_Call_Name_kw (ld_glob I hg hm ?_ hdb)⟩
  refine PySem.W.callWith_K (h₀ := X.base) I.ok.mod.kin M.kp (thn (ha.run pos pins s σ H _ I (tOs_bind T q)) ?_) he hpl
  intro us s1 ⟨vs, H1, I1, r1, r2, l, a1, m1, T1, hvs, h1⟩
  refine ⟨I1.kIn, ?_⟩
  show wpAny _ _ (call (.ref (He.ga X.K x)) us) _ _ _
  have n1 : H1 (s1.heap.objs.size + 1) = none := I1.hok.fresh (Nat.le_succ _)
  have n2 : H1 s1.heap.objs.size = none := I1.hok.fresh (Nat.le_refl _)
  have ne : s1.heap.objs.size ≠ s1.heap.objs.size + 1 := Nat.ne_of_lt (Nat.lt_succ_self _)
  have n3 : upd H1 s1.heap.objs.size (.own (s1.heap.objs.size + 1)) (s1.heap.objs.size + 1) = none := by
    rw [upd_ne ne.symm]
    exact n1
  have mA := mo_up (K := X.K) (r := r2) (n := a1.n) n2 (.own (s1.heap.objs.size + 1))
  have mB := mo_new (K := X.K) (r := r2) (n := a1.n) n3 (.ins (He.ga X.K x) s1.heap.objs.size [])
  have S2 : SR X.K (rn r2 a1.n (s1.heap.objs.size + 1)) (a1.new (.ins x [])) (upd (upd H1 s1.heap.objs.size (.own (s1.heap.objs.size + 1))) (s1.heap.objs.size + 1) (.ins (He.ga X.K x) s1.heap.objs.size [])) :=
    (T1.sr.up n2 _).new n3 (.ins upd_same .nil)
  have sp : spF X.K F (.ref (s1.heap.objs.size + 1) :: vs) (upd (upd H1 s1.heap.objs.size (.own (s1.heap.objs.size + 1))) (s1.heap.objs.size + 1) (.ins (He.ga X.K x) s1.heap.objs.size []))
      (fun v H2 => v = .non ∧ Q (.ref (s1.heap.objs.size + 1)) H2) (WE W σ) := by
    have hv : VR X.K (rn r2 a1.n (s1.heap.objs.size + 1)) (a1.n + 1) (upd (upd H1 s1.heap.objs.size (.own (s1.heap.objs.size + 1))) (s1.heap.objs.size + 1) (.ins (He.ga X.K x) s1.heap.objs.size [])) (.ref a1.n) (.ref (s1.heap.objs.size + 1)) := by
      have z : VR X.K (rn r2 a1.n (s1.heap.objs.size + 1)) (a1.n + 1) (upd (upd H1 s1.heap.objs.size (.own (s1.heap.objs.size + 1))) (s1.heap.objs.size + 1) (.ins (He.ga X.K x) s1.heap.objs.size [])) (.ref a1.n) (.ref (rn r2 a1.n (s1.heap.objs.size + 1) a1.n)) := .ref (Nat.lt_succ_self _)
      rw [rn_self] at z
      exact z
    refine ⟨_, .ref a1.n :: l, a1.new (.ins x []), S2, .cons hv (hvs.mo (mA.trans mB)), ?_⟩
    have h2 : Fin X.K (fun c d H' => W c d σ H') r2 a1.n H1 (relV X.K) Q (mkR a1.n (F (.ref a1.n :: l) (a1.new (.ins x [])))) := h1
    cases q1 : F (.ref a1.n :: l) (a1.new (.ins x [])) with
    | no => rw [q1] at h2; exact h2.elim
    | er c fl a2 =>
      rw [q1] at h2
      have h3 : Fin X.K (fun c d H' => W c d σ H') r2 a1.n H1 (relV X.K) Q (.er c fl a2) := h2
      exact fun r' H' d m S hd => h3 r' H' d ((mA.trans mB).trans m) S hd
    | ok v a2 =>
      rw [q1] at h2
      cases v with
      | non =>
        have h3 : Fin X.K (fun c d H' => W c d σ H') r2 a1.n H1 (relV X.K) Q (.ok (.ref a1.n) a2) := h2
        intro r' H' x' m S hx
        cases hx
        have er : r' a1.n = s1.heap.objs.size + 1 := (m.at_ a1.n (Nat.lt_succ_self _)).trans rn_self
        have z := h3 r' H' (.ref (r' a1.n)) ((mA.trans mB).trans m) S (.ref (Nat.lt_of_lt_of_le (Nat.lt_succ_self _) m.le))
        rw [er] at z
        exact ⟨rfl, z⟩
      | _ => exact h2.elim
  have I2 := Inv.made (C := He.ga X.K x) I1
  have r3 : Vals (V.ref (s1.heap.objs.size + 1) :: vs) (Value.ref (s1.heap.objs.size + 1) :: us) := .cons rfl r1
  have hl : (Value.ref (s1.heap.objs.size + 1) :: us).length = ps.length := by
    rw [← r3.length]
    exact hF.len _ _ _ _ sp
  have bb := hb _ (Value.ref (s1.heap.objs.size + 1) :: us) I2.kIn (by rw [List.append_nil]; exact hl)
  rw [List.append_nil] at bb
  refine wpAny_call (make_map (f := f) I1.kIn M.makes M.init (beq_iff_eq.mp M.fn) (codeAny_mono (hF.run _ X.stack _ _ ⟨Value.ref (s1.heap.objs.size + 1) :: us, []⟩ _ _ _ _ (hr.make (He.ga X.K x) us []) (I2.env0.make (He.ga X.K x) us []) bb r3 sp) fun res s' hq => ?_))
  match res, hq with
  | .error er, hq => exact passAt tk σ pins _ _ er s' I2 hq
  | .ok .next, hq => exact hq.elim
  | .ok .brk, hq => exact hq.elim
  | .ok .cont, hq => exact hq.elim
  | .ok (.ret u), hq =>
    obtain ⟨v, H', I3, rv, ev, q3⟩ := I2.after hq
    subst ev
    exact ⟨rv, ⟨V.ref (s1.heap.objs.size + 1), H', I3, rfl, q3⟩⟩
end
end VI
end
section
set_option maxRecDepth 100000
set_option maxHeartbeats 4000000
/-! Lambdas without parameters: made, kept, called by a def that catches what they raise. -/
namespace VI
open PySem PySem.Spec PyProof.Rows L2 PySem.SeqAt

/-- a lambda's object -/
abbrev lamO (q : Str) (params : Arguments) (body : Expr) (scope : Scope) (cl : List (Str × Addr)) (pm : Value) (c : Addr) (ct : Value) : Obj := PySem.W.kla_obj "<lambda>" q params body scope cl pm c ct
section
variable {X : Cx} {pins : List (Addr × Obj)} {σ : L2.St} {H : Hp} {s : Shared}
/-- a lambda is made: its object is new, and told from now on -/
theorem lam_new {T : List (Addr × Str)} {c P : Addr} {params : Arguments} {body : Expr} {scope : Scope} {pos : Pos} {E : Value → Shared → Prop} {Q : Value → Shared → Prop} (I : Inv X pins σ H s) (TB : LamX.TabB X.base X.mg c P) (hcode : X.env.code = .ref c)
    (hm : (P, X.env.qual ++ "<lambda>") ∈ T) (hu : ∀ p ∈ T, p.1 = P → p.2 = X.env.qual ++ "<lambda>") (hT : LamX.Tabs T H) (hdef : defaultsOf params X.env = ([], [])) (hfree : ∀ y ∈ scope.names, y.2 = .free → ∃ c, X.env.cells.lookup y.1 = some c)
    (fin : ∀ (f c' : Addr) (pm ct : Value) (H1 : Hp) (s' : Shared), Inv X pins σ H1 s' → LamX.ExtN H H1 → LamX.Tabs T H1 → H1 f = some (exO f (lamO (X.env.qual ++ "<lambda>") params body scope (cloFrom X.env.cells scope.names []) pm c' ct)) → H1 c' = some (LamX.CodeO c' (X.env.qual ++ "<lambda>")) → (∀ b, H1 b = none → H b = none) → Q (.ref f) s') :
    wpAny (model X.prog X.w) X.A (eval (.Lambda params body scope pos) X.env) Q E s := by
  obtain ⟨ps, hP, ht, ha⟩ := hT _ hm
  refine PySem.W.kla_eval hdef ?_
  have tabP : s.heap.get? P = some { cls := .none, data := .fields ps } := I.hok P _ hP
  have told : ∀ {f c' : Addr} {pm ct : Value} {H1 : Hp} {s' : Shared}, Inv X pins σ H1 s' → LamX.ExtN H H1 → LamX.Tabs T H1 → s.heap.objs.size ≤ f → H1 f = none → s'.heap.get? f = some (lamO (X.env.qual ++ "<lambda>") params body scope (cloFrom X.env.cells scope.names []) pm c' ct) →
      H1 c' = some (LamX.CodeO c' (X.env.qual ++ "<lambda>")) → (∀ b, H1 b = none → H b = none) → Q (.ref f) s' := by
    intro f c' pm ct H1 s' I1 ex T1 sz nf hf hc nn
    have n0 : X.s_0.heap.get? f = none := by
      cases q : X.s_0.heap.get? f with
      | none => rfl
      | some o => exact absurd (Heap.lt_size q) (Nat.not_lt.mpr (Nat.le_trans I.sz sz))
    have n1 : X.env.locals ≠ f := fun z => by
      have y := I.lt
      rw [z] at y
      exact Nat.lt_irrefl _ (Nat.lt_of_lt_of_le y sz)
    have n3 : ∀ p ∈ X.pn ++ pins, p.1 ≠ f := fun p hp z => by
      have y := Heap.lt_size (I.pin p hp).1
      rw [z] at y
      exact Nat.lt_irrefl _ (Nat.lt_of_lt_of_le y sz)
    have keep : ∀ b o, H1 b = some o → upd H1 f (exO f (lamO (X.env.qual ++ "<lambda>") params body scope (cloFrom X.env.cells scope.names []) pm c' ct)) b = some o := fun b o e => by
      rw [upd_ne (ne_of_none e nf)]
      exact e
    exact fin f c' pm ct _ s' (inv_exO I1 hf nf n0 n1 (fun v z => by cases z) n3) (fun b o e n => keep b o (ex b o e n)) (T1.ext keep) upd_same (keep _ _ hc) fun b z => by
      by_cases hb : b = f
      · rw [hb, upd_same] at z
        cases z
      · rw [upd_ne hb] at z
        exact nn b z
  cases hc : codeAmong pos ps.toList with
  | some cv =>
    obtain ⟨c', e, hco⟩ := ha pos cv hc
    subst e
    refine PySem.W.kla_makeFunctionHit (mg := X.mg) (c := c) (P := P) (ps := ps) (closure_ok hfree) I.ok.glob (I.mod.glob.keeps I.bk) hcode (TB.code.keeps I.bk) tabP ht hc (TB.bm.keeps I.bk) fun ct h' tk hx hsz => ?_
    have I1 : Inv X pins σ H { s with heap := h'.push (lamO (X.env.qual ++ "<lambda>") params body scope (cloFrom X.env.cells scope.names []) ((X.mg "__name__").getD .none) c' ct), toks := tk } := I.kept fun b o e => Heap.get?_push_of_some _ (hx b o e)
    exact told I1 (LamX.ExtN.refl H) hT hsz (I.hok.fresh hsz) (Heap.get?_push_size _ rfl) hco fun b z => z
  | none =>
    refine PySem.W.kla_makeFunction (mg := X.mg) (c := c) (P := P) (ps := ps) (closure_ok hfree) I.ok.glob (I.mod.glob.keeps I.bk) hcode (TB.code.keeps I.bk) tabP ht hc TB.gP (TB.bm.keeps I.bk) fun c' ct h' tk hx hge hlt hrec htb => ?_
    obtain ⟨c2, oc, vs, t, e2, hoc, hd, hv⟩ := hrec
    cases e2
    have hsz : s.heap.objs.size ≤ h'.objs.size := Nat.le_trans hge (Nat.le_of_lt hlt)
    have nC : H c' = none := I.hok.fresh hge
    have I1 := LamX.inv_table (t' := tk) (more := #[rawInt pos.line, rawInt pos.col, .ref c']) (h' := h'.push (lamO (X.env.qual ++ "<lambda>") params body scope (cloFrom X.env.cells scope.names []) ((X.mg "__name__").getD .none) c' ct)) I hP
      (fun b o hb e => Heap.get?_push_of_some _ (hx b o hb e)) (Heap.get?_push_of_some _ htb) hge ⟨oc, vs, t, Heap.get?_push_of_some _ hoc, hd, hv⟩
    have hE : LamX.ExtN H (upd (upd H P (.tbl (ps ++ #[rawInt pos.line, rawInt pos.col, .ref c']))) c' (LamX.CodeO c' (X.env.qual ++ "<lambda>"))) := fun b o e n => by
      rw [upd_ne (ne_of_none e nC), upd_ne (fun z => by
        rw [z, hP] at e
        exact n ps (Option.some.inj e).symm)]
      exact e
    have eL : (ps ++ #[rawInt pos.line, rawInt pos.col, .ref c']).toList = ps.toList ++ [rawInt pos.line, rawInt pos.col, .ref c'] := by
      simp
    refine told I1 hE (fun p hp => ?_) hsz ?_ (Heap.get?_push_size _ rfl) upd_same fun b z => ?_
    · by_cases hb : p.1 = P
      · rw [hu p hp hb, hb]
        refine ⟨_, by rw [upd_ne (ne_of_none hP nC), upd_same], by rw [eL]; exact PySem.TriplesOk_snoc _ _ _ _ ht, fun p' cv hcv => ?_⟩
        rw [eL] at hcv
        rcases LamX.among_app _ ht hcv with z | z
        · obtain ⟨c0, e1, e2⟩ := ha p' cv z
          exact ⟨c0, e1, hE _ _ e2 LamX.codeO_ne⟩
        · exact ⟨c', z, upd_same⟩
      · obtain ⟨qs, a1, a2, a3⟩ := hT p hp
        refine ⟨qs, by rw [upd_ne (ne_of_none a1 nC), upd_ne hb]; exact a1, a2, fun p' cv hcv => ?_⟩
        obtain ⟨c0, e1, e2⟩ := a3 p' cv hcv
        exact ⟨c0, e1, hE _ _ e2 LamX.codeO_ne⟩
    · have d1 : h'.objs.size ≠ c' := Nat.ne_of_gt hlt
      have d2 : h'.objs.size ≠ P := Nat.ne_of_gt (Nat.lt_of_lt_of_le (Heap.lt_size tabP) hsz)
      rw [upd_ne d1, upd_ne d2]
      exact I.hok.fresh hsz
    · by_cases hb : b = c'
      · rw [hb, upd_same] at z
        cases z
      · rw [upd_ne hb] at z
        by_cases hb2 : b = P
        · rw [hb2, upd_same] at z
          cases z
        · rw [upd_ne hb2] at z
          exact z
end
section
variable {K : PySem.W.Frag} {r : Nat → Addr} {n : Nat} {a : AH} {H H' : Hp}
theorem mo_extN (k : LamX.ExtN H H') (t : LamX.Tabs (TBL K) H') : Mo K r n H r n H' :=
  ⟨Nat.le_refl _, fun _ _ => rfl, fun c o u h => k _ _ h (fun ps z => by cases z), fun c φ h => k _ _ h (fun ps z => by cases z), fun _ => t, fun c xs h q => ⟨k _ _ h (fun ps z => by cases z), q⟩⟩
theorem SR.extN (S : SR K r a H) (k : LamX.ExtN H H') (t : LamX.Tabs (TBL K) H') : SR K r a H' := by
  have m := mo_extN (r := r) (n := a.n) k t
  refine ⟨S.inj, S.bd, S.all, fun i o e => ?_, t⟩
  obtain ⟨w, hw, iw⟩ := (S.ob i o e).at_
  refine (S.ob i o e).mo m fun u hu => k _ _ hu fun fs z => ?_
  rw [hw] at hu
  cases hu
  rw [z] at iw
  cases iw
end
/-- a lambda whose body computes fb -/
structure LamOk (X : Cx) (k : Nat) (params : Arguments) (body : Expr) (scope : Scope) (fb : FE) : Prop where
  L : LamX.LamS X.env.scope scope
  df : defaultsOf params X.env = ([], [])
  bind : ∀ (q : Str) (cl : List (Str × Addr)) (pm cv ct : Value), bindArgs (PySem.W.kla_fn "<lambda>" q params body scope cl pm cv ct) ⟨[], []⟩ = pure []
  body : ∀ (A : Around) (outer : List PySem.Env) (s : Shared) (H : Hp) (E : XK) (f c : Addr), Room k (A.deeper (LamX.lamEnv X scope s.heap.objs.size f c)) → Takes (LamX.lamCx X A outer s H E scope f c) (WE' E) → PE (LamX.lamCx X A outer s H E scope f c) body (tO X.K (WE' E) fb)
/-- what the world tells of a lambda at f -/
def LamAt (X : Cx) (H : Hp) (params : Arguments) (body : Expr) (scope : Scope) (f c : Addr) : Prop := ∃ pm ct, H f = some (exO f (lamO (X.env.qual ++ "<lambda>") params body scope (cloFrom X.env.cells scope.names []) pm c ct)) ∧ H c = some (LamX.CodeO c (X.env.qual ++ "<lambda>"))
theorem LamAt.mo {X : Cx} {r r' : Nat → Addr} {n n' : Nat} {H H' : Hp} {params : Arguments} {body : Expr} {scope : Scope} {f c : Addr} (h : LamAt X H params body scope f c) (m : Mo X.K r n H r' n' H') : LamAt X H' params body scope f c := by
  obtain ⟨pm, ct, h1, h2⟩ := h
  exact ⟨pm, ct, m.ext _ _ h1, m.ext _ _ h2⟩
section
variable {X : Cx} {pins : List (Addr × Obj)} {σ : L2.St} {H : Hp} {s : Shared}
/-- x(), in the def that got the lambda -/
theorem act {CXg : CXT} {Eg : XK} {Ng : List Str} {qg : Str} {sg : Scope} {g f c : Addr} {cdg : Value} {params : Arguments} {body : Expr} {scope : Scope} {fb : FE} {k i : Nat} {a : Str} {pn : List (Addr × Obj)} {xe : Value → Shared → Prop} {W : WX} {p1 p2 : Pos}
    (I : Inv X pins σ H s) (L : LamOk X k params body scope fb) (tk : Takes ((cxOf CXg X.prog X.w X.K X.mg X.base Ng qg sg g cdg X.A X.stack s H Eg).tr pn xe) W) (hr : Room (k + 1) (X.A.deeper (envOfC qg sg s.heap.objs.size g cdg)))
    (hN : Ng[i]? = some a) (hv : Vis sg a) (hd : (a == ("__debug__" : Str)) = false := by decide) (hcd : (a == ("__classdict__" : Str)) = false := by decide) :
    PE ((cxOf CXg X.prog X.w X.K X.mg X.base Ng qg sg g cdg X.A X.stack s H Eg).tr pn xe) (.Call (.Name a p1) [] [] p2)
      (fun z HZ Q => z[i]? = some (some (.ref f)) ∧ LamAt X HZ params body scope f c ∧ tO X.K (WE' (WE W z)) fb σ HZ Q) := by
  refine ⟨fun pz sz σz HZ Q IZ ⟨hs, hl, ht⟩ => ?_⟩
  refine wpAny_Call_Name_kw (thn ((pe_var (pos := p1) (i := i) hN hv hd hcd).run pz sz σz HZ (fun v H1 => v = .ref f ∧ H1 = HZ) IZ ⟨.ref f, hs, rfl, rfl⟩) fun u s1 ⟨v, H1, I1, r1, ev, eH⟩ => ?_)
  subst ev
  rw [eH] at I1
  obtain rfl : u = Value.ref f := r1
  obtain ⟨pm, ct, hf, hc⟩ := hl
  have of1 : s1.heap.get? f = some (lamO (X.env.qual ++ "<lambda>") params body scope (cloFrom X.env.cells scope.names []) pm c ct) := by
    obtain ⟨z, _⟩ := I1.hok f _ hf
    exact z
  refine PySem.W.callWith_F0 ⟨_, _, _, _, of1⟩ ?_
  have un : Un (frs X.stack) [] H HZ s.heap s1.heap := I1.base
  obtain ⟨⟨oc, vs, t, hoc, hdc, hvc⟩, _, _⟩ := I1.hok c _ hc
  have rc : codeAny (model X.prog X.w) (X.A.deeper (envOfC qg sg s.heap.objs.size g cdg)) (.call (.ref f) ⟨[], []⟩) (CR (L2.CX X.prog X.w) (envOfC qg sg s.heap.objs.size g cdg :: X.stack) X.prog X.w HZ s1 Q (WE W σz)) s1 := by
    refine PySem.W.kla_callFunE hr.depth of1 rfl L.L.co L.L.gen rfl ⟨c, oc, vs, t, rfl, hoc, hdc, hvc⟩ ?_
    rw [L.bind]
    refine wpAny_pure (wpAny_newFunctionEnv (fun y hy => (L.L.own y hy).2) (fun y hy => absurd hy (by
      simp)) (fun h1 hns hsb => ⟨I1.nolimit.fresh _ hsb, ?_⟩) L.L.kind)
    show codeAny _ _ (.expr body (LamX.lamEnv X scope s1.heap.objs.size f c)) _ _
    have kp : ∀ b o, s1.heap.get? b = some o → h1.get? b = some o := fun b o e => hsb.extBut b o (Nat.ne_of_lt (Heap.lt_size e)) (Heap.get?_push_of_some _ e)
    have J : Inv (LamX.lamCx X (X.A.deeper (envOfC qg sg s.heap.objs.size g cdg)) (envOfC qg sg s.heap.objs.size g cdg :: X.stack) s1 HZ (WE W σz) scope f c) [] σ HZ { s1 with heap := h1, toks := s1.toks + ([] : List (Str × Value)).length } :=
      LamX.lam_start2 I L.L I1.env0 hr.hd un hns kp
    refine PySem.W.kla_codeExpr (wpAny_mono ((L.body _ _ s1 HZ _ f c (hr.deeper _) (takes_of rfl rfl rfl rfl)).run [] _ _ HZ Q J ht) (fun v s' ⟨w', H', J', rv, q⟩ => ?_) fun e s' hq => hq)
    exact ⟨w', H', J'.os, J'.bare, J'.base, J'.hok, rv, q⟩
  refine wpAny_call (codeAny_mono rc fun r s' hq => ?_)
  match r, hq with
  | .error e, hq => exact passAt tk σz pz HZ s1 e s' I1 hq
  | .ok (.ret u), hq => exact I1.after hq
  | .ok .next, hq => exact hq.elim
  | .ok .brk, hq => exact hq.elim
  | .ok .cont, hq => exact hq.elim
end
end VI
end
section
set_option maxRecDepth 100000
set_option maxHeartbeats 4000000
/-! A def that calls what it got and gives what was caught. -/
namespace VI
open PySem PySem.Spec PyProof.Rows L2 PySem.SeqAt

def cauBody (j : Nat) (p1 p2 p3 p4 p5 p6 p7 p8 p9 q1 q2 q3 q4 q5 q6 : Pos) : List Stmt :=
  [.Assign [.Name "found" p1] (.Constant .none j p2) p3,
   .Try [.Expr (.Call (.Name "work" p4) [] [] p5) p6] [.ExceptHandler (some (.Name "RoundError" p7)) (some "error") [.Assign [.Name "found" p8] (.Name "error" p9) q1] q2] [] [] q3,
   .Return (some (.Name "found" q4)) q5]
abbrev cauN : List Str := ["work", "found", "error"]
/-- the def stands -/
structure CauD (K : PySem.W.Frag) (mg : Str → Option Value) (g : Addr) : Prop where
  ex : ∃ (oc : Value) (od : Option Addr) (osl : Array (Option Value)) (params : Arguments) (kV doc pm : Value) (an : Option Addr) (cdv ct : Value) (sg : Scope) (j : Nat) (p1 p2 p3 p4 p5 p6 p7 p8 p9 q1 q2 q3 q4 q5 q6 : Pos),
    K.lookup g = some ⟨oc, od, .func (PySem.W.fnOf "_law_caught" "_law_caught" params (cauBody j p1 p2 p3 p4 p5 p6 p7 p8 p9 q1 q2 q3 q4 q5 q6) sg .none kV doc pm an cdv ct), osl⟩ ∧ PySem.W.codeIn K cdv "_law_caught" = true ∧
    L2.Binds K (PySem.W.fnOf "_law_caught" "_law_caught" params (cauBody j p1 p2 p3 p4 p5 p6 p7 p8 p9 q1 q2 q3 q4 q5 q6) sg .none kV doc pm an cdv ct) ["work"] [] ∧ FnScope cauN ["work"] sg ∧
    sg.names.lookup ("work" : Str) = some .local ∧ sg.names.lookup ("found" : Str) = some .local ∧ sg.names.lookup ("error" : Str) = some .local ∧ sg.names.lookup ("RoundError" : Str) = some .globalImplicit
  at_ : mg "_law_caught" = some (.ref g)
  kp : PySem.W.keepIn K (.ref g) = true
  re : mg "RoundError" = some (.ref (He.ga K "RoundError"))
/-- what comes of it -/
def cau (cs : List (Str × Bool)) : R PV → R PV
  | .ok _ a => .ok .non a
  | .er c fs a => match asc cs c with
    | some true => .ok (.exc c (fs.map (·.1)) (fs.map (·.2))) a
    | _ => .no
  | .no => .no
section
variable {X : Cx} {pins : List (Addr × Obj)} {σ : L2.St} {H : Hp} {s : Shared} {Q : VK} {g f c : Addr} {params : Arguments} {body : Expr} {scope : Scope} {fb : FE} {k : Nat} {cs : List (Str × Bool)}
theorem cau_run (hcs : ∀ p ∈ cs, PySem.W.exmOne X.K (.ref (He.ga X.K p.1)) (.ref (He.ga X.K "RoundError")) = some p.2) (C : CauD X.K X.mg g) (hr : Room (k + 2) X.A) (I : Inv X pins σ H s) (L : LamOk X k params body scope fb) (hl : LamAt X H params body scope f c)
    (hq : ∃ r e a, ST X.K r e a σ H ∧ Fin X.K (fun _ _ _ => False) r a.n H (relV X.K) Q (cau cs (fb e a))) : wpAny (model X.prog X.w) X.A (call (.ref g) [.ref f]) (EP X pins σ Q) X.xe s := by
  obtain ⟨oc, od, osl, pg, kV, doc, pm, an, cdv, ct, sg, j, p1, p2, p3, p4, p5, p6, p7, p8, p9, q1, q2, q3, q4, q5, q6, lk, hcg, hb, Sg, lw, lf, le, lr⟩ := C.ex
  have rc : codeAny (model X.prog X.w) X.A (.call (.ref g) ⟨[.ref f], []⟩) (CR C8.CX0 X.stack X.prog X.w H s Q C8.E0) s := by
    refine LamX.run_ofS (N := cauN) (ps := ["work"]) (us := [.ref f]) (vs := [.ref f]) lk hcg Sg hr I.env0 (hb s [.ref f] I.kIn rfl) (.cons rfl .nil) rfl fun hr' => ?_
    have nd : cauN.Nodup := Sg.nd
    have body' : PSs (cxOf C8.CX0 X.prog X.w X.K X.mg X.base cauN "_law_caught" sg g cdv X.A X.stack s H C8.E0).nox (cauBody j p1 p2 p3 p4 p5 p6 p7 p8 p9 q1 q2 q3 q4 q5 q6) _ :=
      pss_cons (ps_set (i := 1) nd rfl (.inl lf) pe_non (by rfl) (.inr lf))
        (pss_cons (ps_try_keep (X := (cxOf C8.CX0 X.prog X.w X.K X.mg X.base cauN "_law_caught" sg g cdv X.A X.stack s H C8.E0).nox) (c := .ref (He.ga X.K "RoundError")) (i := 2) (ts := tAsg (tVar 2) (gName 1)) (Wout := fun _ _ _ _ => False)
            (tb := fun W => tDrop (fun z HZ Q => z[0]? = some (some (V.ref f)) ∧ LamAt X HZ params body scope f c ∧ tO X.K (WE' (WE W z)) fb σ HZ Q)) rfl rfl rfl nd rfl le ⟨lr, by decide, .inl C.re⟩ LamX.takes0
            (fun W pn xe tk _ => pss_one (ps_expr (act (CXg := C8.CX0) (Eg := C8.E0) (i := 0) I L tk hr' rfl (.inl lw)))) (fun a pn => pss_one (ps_set nd rfl (.inl lf) (pe_var rfl (.inl le)) (by rfl) (.inr lf))))
          (pss_one (ps_ret (pe_var (i := 1) rfl (.inl lf)))))
    refine ⟨_, body'.nox, ?_⟩
    obtain ⟨r, e, a, T, hf⟩ := hq
    refine ⟨rfl, hl, r, e, a, T, ?_⟩
    cases q : fb e a with
    | no => rw [q] at hf; exact hf.elim
    | ok v a1 =>
      rw [q] at hf
      have h2 : Fin X.K (fun _ _ _ => False) r a.n H (relV X.K) Q (.ok .non a1) := hf
      exact fun r' H' x m S hx => ⟨.non, rfl, h2 r' H' .non m S .non⟩
    | er cl fs a1 =>
      rw [q] at hf
      have h2 : Fin X.K (fun _ _ _ => False) r a.n H (relV X.K) Q (match asc cs cl with | some true => .ok (.exc cl (fs.map (·.1)) (fs.map (·.2))) a1 | _ => .no) := hf
      intro r1 H1 d m1 S1 hd
      cases qa : asc cs cl with
      | none => rw [qa] at h2; exact h2.elim
      | some b =>
        rw [qa] at h2
        cases b with
        | false => exact h2.elim
        | true =>
          have h3 : Fin X.K (fun _ _ _ => False) r a.n H (relV X.K) Q (.ok (.exc cl (fs.map (·.1)) (fs.map (·.2))) a1) := h2
          refine ⟨true, hcs _ (asc_mem qa), fun _ p oe np hz hv => ?_, fun z => by cases z⟩
          have kb := kept_but (oe := oe) (d := d) np
          have m2 := mo_but (K := X.K) (r := r1) (n := a1.n) kb
          exact ⟨.ref p, rfl, .ref p, rfl, h3 r1 _ (.ref p) (m1.trans m2) (S1.but kb) (kept_exc np hz hv hd)⟩
  refine wpAny_call (codeAny_mono rc fun r s' hq => ?_)
  match r, hq with
  | .error e, hq => exact (show False from hq).elim
  | .ok (.ret u), hq => exact I.after hq
  | .ok .next, hq => exact hq.elim
  | .ok .brk, hq => exact hq.elim
  | .ok .cont, hq => exact hq.elim
end
end VI
end
section
set_option maxRecDepth 100000
set_option maxHeartbeats 4000000
/-! Lambdas handed straight on; lambdas kept in a list. -/
namespace VI
open PySem PySem.Spec PyProof.Rows L2 PySem.SeqAt

/-- where lambdas are made -/
structure LamH (X : Cx) : Prop where
  ex : ∃ c P, LamX.TabB X.base X.mg c P ∧ X.env.code = .ref c ∧ (P, X.env.qual ++ "<lambda>") ∈ TBL X.K ∧ ∀ p ∈ TBL X.K, p.1 = P → p.2 = X.env.qual ++ "<lambda>"
def eCau (cs : List (Str × Bool)) (fb : FE) : FE := fun e a => cau cs (fb e a)
theorem cau_fin {K : PySem.W.Frag} {E : XK} {r : Nat → Addr} {n : Nat} {H : Hp} {Q : VK} {cs : List (Str × Bool)} {o : R PV} (h : Fin K E r n H (relV K) Q (cau cs o)) : Fin K (fun _ _ _ => False) r n H (relV K) Q (cau cs o) := by
  cases o with
  | ok v a => exact h
  | no => exact h
  | er c fs a =>
    have h' : Fin K E r n H (relV K) Q (match asc cs c with | some true => .ok (.exc c (fs.map (·.1)) (fs.map (·.2))) a | _ => .no) := h
    show Fin K _ r n H (relV K) Q (match asc cs c with | some true => .ok (.exc c (fs.map (·.1)) (fs.map (·.2))) a | _ => .no)
    cases q : asc cs c with
    | none => rw [q] at h'; exact h'.elim
    | some b =>
      rw [q] at h'
      cases b with
      | false => exact h'.elim
      | true => exact h'
section
variable {X : Cx} {W : WX} {params : Arguments} {body : Expr} {scope : Scope} {fb : FE} {k : Nat} {cs : List (Str × Bool)} {g : Addr} {p p' lpos pos : Pos}
/-- _law_caught(lambda: body) -/
theorem v_cauL (Hh : LamH X) (hcs : ∀ p ∈ cs, PySem.W.exmOne X.K (.ref (He.ga X.K p.1)) (.ref (He.ga X.K "RoundError")) = some p.2) (C : CauD X.K X.mg g) (hr : Room (k + 2) X.A) (L : LamOk X k params body scope fb) (hg : Gl X "_law_caught" := by rfl) :
    PE X (.Call (.Name "_law_caught" p) [.Lambda params body scope lpos] [] pos) (tO X.K W (eCau cs fb)) := by
  obtain ⟨c, P, TB, hcode, hm, hu⟩ := Hh.ex
  refine ⟨fun pins s σ H Q I ⟨r, e, a, T, h⟩ => wpAny_Call_Name_kw (ld_glob I hg C.at_ ?_ (by decide))⟩
  refine PySem.W.callWith_K (h₀ := X.base) I.ok.mod.kin C.kp ?_ (by rfl) (by rfl)
  show wpAny _ _ (spliced ((false, eval (.Lambda params body scope lpos) X.env) :: backTo pos (starEach [] X.env))) _ _ s
  refine Calls.spliced_cons (lam_new I TB hcode hm hu T.sr.tb L.df (L.L.has I.ok) fun f c' pm ct H1 s' I1 eN T1 hf hc nn => ?_)
  have m := mo_extN (K := X.K) (r := r) (n := a.n) eN T1
  exact Calls.spliced_nil ⟨I1.kIn, cau_run hcs C hr I1 L ⟨pm, ct, hf, hc⟩ ⟨r, e, a, T.mo m (T.sr.extN eN T1), Fin.later m (cau_fin h)⟩⟩
/-- _law_caught(x), x a lambda -/
def tCauV (X : Cx) (k : Nat) (cs : List (Str × Bool)) (j : Nat) : TE := fun σ H Q => ∃ params body scope fb f c, LamOk X k params body scope fb ∧ σ[j]? = some (some (V.ref f)) ∧ LamAt X H params body scope f c ∧ ∃ r e a, ST X.K r e a σ H ∧ Fin X.K (fun _ _ _ => False) r a.n H (relV X.K) Q (cau cs (fb e a))
theorem pe_cauV {x : Str} {j : Nat} (hcs : ∀ p ∈ cs, PySem.W.exmOne X.K (.ref (He.ga X.K p.1)) (.ref (He.ga X.K "RoundError")) = some p.2) (C : CauD X.K X.mg g) (hr : Room (k + 2) X.A) (hj : X.N[j]? = some x) (hv : Vis X.env.scope x) (hg : Gl X "_law_caught" := by rfl)
    (hd : (x == ("__debug__" : Str)) = false := by decide) (hcd : (x == ("__classdict__" : Str)) = false := by decide) : PE X (.Call (.Name "_law_caught" p) [.Name x p'] [] pos) (tCauV X k cs j) := by
  refine ⟨fun pins s σ H Q I ⟨params, body, scope, fb, f, c, L, hs, hl, hq⟩ => wpAny_Call_Name_kw (ld_glob I hg C.at_ ?_ (by decide))⟩
  refine PySem.W.callWith_K (h₀ := X.base) I.ok.mod.kin C.kp (thn ((pa_cons (pe_var (i := j) hj hv hd hcd) pa_nil (by rfl)).run pos pins s σ H (fun vs H1 => vs = [V.ref f] ∧ H1 = H) I ⟨_, hs, rfl, rfl⟩) ?_) (by rfl) (by rfl)
  intro us s1 ⟨vs, H1, I1, r1, ev, eH⟩
  subst ev
  rw [eH] at I1
  obtain ⟨u, rfl, ru⟩ := vals1 r1
  obtain rfl : u = Value.ref f := ru
  exact ⟨I1.kIn, cau_run hcs C hr I1 L hl hq⟩
/-- a lambda, made -/
def tLamR (X : Cx) (params : Arguments) (body : Expr) (scope : Scope) : TE := fun _ H Q => LamX.Tabs (TBL X.K) H ∧ ∀ f c H1, LamX.ExtN H H1 → LamX.Tabs (TBL X.K) H1 → LamAt X H1 params body scope f c → (∀ b, H1 b = none → H b = none) → Q (.ref f) H1
theorem pe_lam (Hh : LamH X) (L : LamOk X k params body scope fb) : PE X (.Lambda params body scope pos) (tLamR X params body scope) := by
  obtain ⟨c, P, TB, hcode, hm, hu⟩ := Hh.ex
  refine ⟨fun pins s σ H Q I ⟨hT, h⟩ => lam_new I TB hcode hm hu hT L.df (L.L.has I.ok) fun f c' pm ct H1 s' I1 eN T1 hf hc nn => ?_⟩
  exact ⟨.ref f, H1, I1, rfl, h f c' H1 eN T1 ⟨pm, ct, hf, hc⟩ nn⟩
end
/-! ### lambdas in a list -/
inductive LamsAt (X : Cx) (k : Nat) (H : Hp) : List FE → List V → Prop where
  | nil : LamsAt X k H [] []
  | cons {params : Arguments} {body : Expr} {scope : Scope} {fb : FE} {f c : Addr} {fbs : List FE} {xs : List V} (L : LamOk X k params body scope fb) (h : LamAt X H params body scope f c) (t : LamsAt X k H fbs xs) : LamsAt X k H (fb :: fbs) (.ref f :: xs)
section
variable {X : Cx} {k : Nat} {H H' : Hp}
theorem LamAt.keep {params : Arguments} {body : Expr} {scope : Scope} {f c : Addr} (m : ∀ b φ, H b = some (.ext φ) → H' b = some (.ext φ)) (h : LamAt X H params body scope f c) : LamAt X H' params body scope f c := by
  obtain ⟨pm, ct, h1, h2⟩ := h
  exact ⟨pm, ct, m _ _ h1, m _ _ h2⟩
theorem LamsAt.keep (m : ∀ b φ, H b = some (.ext φ) → H' b = some (.ext φ)) : ∀ {fbs : List FE} {xs : List V}, LamsAt X k H fbs xs → LamsAt X k H' fbs xs
  | _, _, .nil => .nil
  | _, _, .cons L h t => .cons L (h.keep m) (t.keep m)
theorem LamsAt.snoc {params : Arguments} {body : Expr} {scope : Scope} {fb : FE} {f c : Addr} (L : LamOk X k params body scope fb) (h : LamAt X H params body scope f c) : ∀ {fbs : List FE} {xs : List V}, LamsAt X k H fbs xs → LamsAt X k H (fbs ++ [fb]) (xs ++ [.ref f])
  | _, _, .nil => .cons L h .nil
  | _, _, .cons L' h' t => .cons L' h' (LamsAt.snoc L h t)
theorem LamsAt.len : ∀ {fbs : List FE} {xs : List V}, LamsAt X k H fbs xs → fbs.length = xs.length
  | _, _, .nil => rfl
  | _, _, .cons _ _ t => by rw [List.length_cons, List.length_cons, t.len]
end
/-- for x in the lambdas: y = _law_caught(x); g -/
def sLams (iw ic : Nat) (cs : List (Str × Bool)) (g : GS) : List FE → GS
  | [] => sNil
  | fb :: l => fun e a => match Nat.blt iw e.length with
    | true => xB (unp e iw) (cau cs (fb (unp e iw) a)) fun v a1 => match g (put (unp e iw) ic v) a1 with
      | .nx e2 a2 => sLams iw ic cs g l e2 a2
      | .ct e2 a2 => sLams iw ic cs g l e2 a2
      | .bk e2 a2 => .nx e2 a2
      | o => o
    | false => .no
def sChunk (iws iw ic : Nat) (cs : List (Str × Bool)) (g : GS) (fbs : List FE) : GS := fun e a => sLams iw ic cs g fbs (unp e iws) a
theorem ST.any {K : PySem.W.Frag} {r : Nat → Addr} {e : Env} {a : AH} {s : L2.St} {H : Hp} (T : ST K r e a s H) (i : Nat) (x : Option V) : ST K r (unp e i) a (s.set i x) H := by
  rw [unp_is]
  refine ⟨T.sr, fun j v q => ?_, by rw [List.length_set, List.length_set]; exact T.ln⟩
  by_cases hj : i = j
  · subst hj
    by_cases hi : i < e.length
    · rw [List.getElem?_set_self hi] at q
      cases q
    · rw [List.getElem?_eq_none (by rw [List.length_set]; omega)] at q
      cases q
  · rw [List.getElem?_set_ne hj] at q ⊢
    exact T.er j v q
/-- between the makings -/
def tCh (X : Cx) (W : WX) (k iws iw ic : Nat) (cs : List (Str × Bool)) (g : GS) (all done : List FE) : TS := fun D σ H => ∃ H0 r e a p xs s0, ST X.K r e a s0 H0 ∧ FinS X.K W D r a.n H0 (sLams iw ic cs g all (unp e iws) a) ∧ H0 p = none ∧ LamX.ExtN H0 H ∧ LamX.Tabs (TBL X.K) H ∧ H p = some (.lst xs) ∧ LamsAt X k H done xs ∧
  σ = s0.set iws (some (V.ref p)) ∧ iws < s0.length
section
variable {X : Cx} {W : WX} {k iws iw ic : Nat} {cs : List (Str × Bool)} {g : GS} {all done : List FE} {fb : FE} {params : Arguments} {body : Expr} {scope : Scope} {rest : List Stmt} {ws wk cn : Str} {p1 p2 p3 p4 p5 lpos : Pos}
theorem sx_ch1 (Hh : LamH X) (L : LamOk X k params body scope fb) (hN : X.N.Nodup) (h : PSs X rest (tCh X W k iws iw ic cs g all [fb])) (hi : X.N[iws]? = some ws := by rfl) (hx : Loc X.env.scope ws := by first | exact Or.inl rfl | exact Or.inr rfl)
    (hf : X.fn ws = true ∨ X.env.scope.names.lookup ws = some .local := by first | exact .inl rfl | exact .inr rfl | assumption) (hs : swapsWith (.List [.Lambda params body scope lpos] p2) (some (.Name ws p1)) p3.line X.env = pure false := by rfl)
    (hst : starEach ((.Lambda params body scope lpos) :: []) X.env = (false, eval (.Lambda params body scope lpos) X.env) :: starEach [] X.env := by rfl) :
    PSs X (.Assign [.Name ws p1] (.List [.Lambda params body scope lpos] p2) p3 :: rest) (tX X.K W (sChunk iws iw ic cs g all)) := by
  have key := pss_cons (ps_set (i := iws) (pos' := p1) hN hi hx (pe_lst (pos := p2) (pa_cons (pe_lam (pos := lpos) Hh L) pa_nil hst)) hs hf) h
  refine ⟨fun pins s σ H D I ⟨r, e, a, T, hq⟩ => key.run pins s σ H D I ?_⟩
  have hlen : iws < σ.length := by
    rw [I.len]
    exact (List.getElem?_eq_some_iff.mp hi).1
  refine ⟨T.sr.tb, fun f c H1 eN T1 hl nn => ⟨by show 1 ≤ sizeLine; rw [sizeLine_eq]; decide, fun p np => ?_⟩⟩
  exact ⟨H, r, e, a, p, [.ref f], σ, T, hq, nn p np, fun b o q n => by rw [upd_ne (ne_of_none (eN b o q n) np)]; exact eN b o q n, T1.ext (fun b o q => by rw [upd_ne (ne_of_none q np)]; exact q), upd_same,
    .cons L (hl.keep fun b φ q => by rw [upd_ne (ne_of_none q np)]; exact q) .nil, rfl, hlen⟩
/-- what is known of p's neighbours -/
theorem up_extN {H H1 : Hp} {p : Addr} {o : HO} (n : H p = none) (k : LamX.ExtN H H1) : LamX.ExtN H (upd H1 p o) := fun b u q m => by
  rw [upd_ne (ne_of_none q n)]
  exact k b u q m
theorem up_tabs {T : List (Addr × Str)} {H : Hp} {p : Addr} {xs ys : List V} (h : H p = some (.lst xs)) (t : LamX.Tabs T H) : LamX.Tabs T (upd H p (.lst ys)) := fun q hq => by
  obtain ⟨ps, h1, h2, h3⟩ := t q hq
  have ne : ∀ {b : Addr} {u : HO}, H b = some u → (∀ zs, u ≠ .lst zs) → b ≠ p := fun {b u} e n z => by
    rw [z, h] at e
    exact n xs (Option.some.inj e).symm
  refine ⟨ps, by rw [upd_ne (ne h1 (fun zs z => by cases z))]; exact h1, h2, fun pos cv hc => ?_⟩
  obtain ⟨c, e1, e2⟩ := h3 pos cv hc
  exact ⟨c, e1, by rw [upd_ne (ne e2 (fun zs z => by unfold LamX.CodeO at z; cases z))]; exact e2⟩
theorem sx_ch2 (Hh : LamH X) (L : LamOk X k params body scope fb) (h : PSs X rest (tCh X W k iws iw ic cs g all (done ++ [fb]))) (hl : done.length < 1000) (hi : X.N[iws]? = some ws := by rfl) (hv : Vis X.env.scope ws := by first | exact Or.inl rfl | exact Or.inr (Or.inl rfl) | exact Or.inr (Or.inr rfl))
    (hd : (ws == ("__debug__" : Str)) = false := by decide) (hcd : (ws == ("__classdict__" : Str)) = false := by decide) (hst : starEach ((.Lambda params body scope lpos) :: []) X.env = (false, eval (.Lambda params body scope lpos) X.env) :: starEach [] X.env := by rfl)
    (hbase : attributeBase (.Name ws p1) "append" X.env (eval (.Name ws p1) X.env) = eval (.Name ws p1) X.env := by rfl)
    (hfew : ((backTo p3 (starEach [.Lambda params body scope lpos] X.env)).all (fun x => !x.1) && (backToKw p3 (keywordEach [] X.env)).all (fun x => x.1.isSome)
      && decide ([Expr.Lambda params body scope lpos].length + ([] : List Keyword).length + (if ([] : List Keyword).isEmpty then 0 else 1) < 30)) = true := by rfl)
    (hline : (p2.endLine == p3.line) = true := by rfl) (hplain : (backTo p3 (starEach [] X.env)).any (·.1) = false := by rfl) (hs : swapsWith (.Call (.Attribute (.Name ws p1) "append" p2) [.Lambda params body scope lpos] [] p3) none p4.line X.env = pure false := by rfl) :
    PSs X (.Expr (.Call (.Attribute (.Name ws p1) "append" p2) [.Lambda params body scope lpos] [] p3) p4 :: rest) (tCh X W k iws iw ic cs g all done) := by
  have m1 : PE X (.Call (.Attribute (.Name ws p1) "append" p2) [.Lambda params body scope lpos] [] p3) _ := pe_bf F.plainAttrs_list F.slot_list_append F.type_list_append mt_append (pe_var (i := iws) hi hv hd hcd) (pa_cons (pe_lam (pos := lpos) Hh L) pa_nil hst) hbase hfew hline hst hplain
  have key := pss_cons (ps_expr (pos := p4) m1 hs) h
  refine ⟨fun pins s σ H D I ⟨H0, r, e, a, p, xs, s0, T, hq, np, eN, tb, hp, hls, es, hsz⟩ => key.run pins s σ H D I ?_⟩
  subst es
  refine ⟨.ref p, by rw [List.getElem?_set_self hsz], fun pins' σ' s' v I' rv => tyV_is I' rv (.inl ⟨rfl, xs, SqL.of hp⟩), tb, fun f c H1 eN1 T1 hl1 nn => ?_⟩
  have hp1 : H1 p = some (.lst xs) := eN1 p _ hp (fun ps z => by cases z)
  refine ⟨p, xs, .ref f, rfl, rfl, hp1, by rw [← hls.len, sizeLine_eq]; omega, ?_⟩
  have ke : ∀ b φ, H b = some (.ext φ) → H1 b = some (.ext φ) := fun b φ q => eN1 b _ q (fun ps z => by cases z)
  have k2 : ∀ b φ, H1 b = some (.ext φ) → upd H1 p (.lst (xs ++ [.ref f])) b = some (.ext φ) := fun b φ q => by
    rw [upd_ne (fun z => by
      rw [z, hp1] at q
      cases q)]
    exact q
  exact ⟨H0, r, e, a, p, xs ++ [.ref f], s0, T, hq, np, up_extN np (eN.trans eN1), up_tabs hp1 T1, upd_same, .snoc L (hl1.keep k2) ((hls.keep ke).keep k2), rfl, hsz⟩
theorem cau_ner {o : R PV} {c : Str} {fs : List (Str × PV)} {a : AH} (h : cau cs o = .er c fs a) : False := by
  cases o with
  | ok v a => cases h
  | no => cases h
  | er c2 fs2 a2 =>
    have h' : (match asc cs c2 with | some true => R.ok (PV.exc c2 (fs2.map Prod.fst) (fs2.map Prod.snd)) a2 | _ => .no) = .er c fs a := h
    cases q : asc cs c2 with
    | none => rw [q] at h'; cases h'
    | some b =>
      rw [q] at h'
      cases b <;> cases h'
theorem sx_ch3 {b : Addr} {brest : List Stmt} {q1 q2 q3 q4 q5 : Pos} (hcs : ∀ p ∈ cs, PySem.W.exmOne X.K (.ref (He.ga X.K p.1)) (.ref (He.ga X.K "RoundError")) = some p.2) (C : CauD X.K X.mg b) (hr : Room (k + 2) X.A) (hp : PassesOwn (model X.prog X.w) X.A X.env X.xe) (hc : X.calm = true) (hN : X.N.Nodup)
    (hb : PSs X brest (tX X.K W g)) (hi : X.N[iws]? = some ws := by rfl) (hv : Vis X.env.scope ws := by first | exact Or.inl rfl | exact Or.inr (Or.inl rfl) | exact Or.inr (Or.inr rfl)) (hi2 : X.N[iw]? = some wk := by rfl) (hv2 : X.env.scope.names.lookup wk = some .local := by rfl) (hi3 : X.N[ic]? = some cn := by rfl) (hv3 : X.env.scope.names.lookup cn = some .local := by rfl)
    (hg : Gl X "_law_caught" := by rfl) (hd : (ws == ("__debug__" : Str)) = false := by decide) (hcd : (ws == ("__classdict__" : Str)) = false := by decide) (hd2 : (wk == ("__debug__" : Str)) = false := by decide) (hcd2 : (wk == ("__classdict__" : Str)) = false := by decide)
    (hs : ∀ x, foldedSetIterable (.Name ws p1) X.env x = pure x := by intro _; rfl) (hs2 : swapsWith (.Call (.Name "_law_caught" q1) [.Name wk q2] [] q3) (some (.Name cn q4)) q5.line X.env = pure false := by rfl) :
    PSs X [.For (.Name wk p2) (.Name ws p1) (.Assign [.Name cn q4] (.Call (.Name "_law_caught" q1) [.Name wk q2] [] q3) q5 :: brest) [] p3] (tCh X W k iws iw ic cs g all all) := by
  have key := pss_one (ps_for (pos := p3) hp hc (pi_val (pe_var (pos := p1) (i := iws) hi hv hd hcd)) (pg_name (pos := p2) (i := iw) hN hi2 (.inl hv2) (.inr hv2))
    (pss_cons (ps_set (i := ic) (pos' := q4) hN hi3 (.inl hv3) (pe_cauV (p := q1) (p' := q2) (pos := q3) (k := k) (j := iw) hcs C hr hi2 (.inl hv2) hg hd2 hcd2) hs2 (.inr hv3)) hb) hs)
  refine ⟨fun pins s σ H D I ⟨H0, r, e, a, p, xs, s0, T, hq, np, eN, tb, hpl, hls, es, hsz⟩ => key.run pins s σ H D I ?_⟩
  subst es
  have m0 := mo_extN (K := X.K) (r := r) (n := a.n) eN tb
  have T0 : ST X.K r (unp e iws) a (s0.set iws (some (V.ref p))) H := (T.mo m0 (T.sr.extN eN tb)).any iws _
  refine ⟨.ref p, by rw [List.getElem?_set_self hsz], p, xs, rfl, .inl ⟨SqL.of hpl, ?_⟩⟩
  refine ⟨fun i m σ H => ∃ r e a fbs, ST X.K r e a σ H ∧ H p = some (.lst xs) ∧ (∀ j, j < a.n → r j ≠ p) ∧ LamsAt X k H fbs (xs.drop i) ∧ m = fbs.length ∧ FinS X.K W D r a.n H (sLams iw ic cs g fbs e a),
    ⟨all.length, r, unp e iws, a, all, T0, hpl, fun j hj => T.sr.ne_none hj np, hls, rfl, FinS.later m0 hq⟩, ?_⟩
  rintro i m σ H ⟨r, e, a, fbs, T, hpl, hnr, hls, rfl, hq⟩
  generalize hxs : xs.drop i = ys at hls
  cases hls with
  | nil =>
    have h2 : FinS X.K W D r a.n H (.nx e a) := hq
    exact .inl ⟨⟨xs, SqL.of hpl, drop_nil hxs⟩, h2 r σ H .refl T⟩
  | @cons params body scope fb f c fbs ys L hl t =>
    obtain ⟨e1, eD⟩ := drop_cons hxs
    refine .inr ⟨⟨xs, .ref f, SqL.of hpl, e1⟩, _, fun σ' H' z => ⟨fbs.length, Nat.lt_succ_self _, z⟩, fun x H' ⟨eH, hy⟩ => ?_⟩
    subst eH
    have hx := hy xs (SqL.of hpl)
    rw [e1] at hx
    cases hx
    have h1 : FinS X.K W D r a.n H' (match Nat.blt iw e.length with | true => xB (unp e iw) (cau cs (fb (unp e iw) a)) fun v a1 => (match g (put (unp e iw) ic v) a1 with | .nx e2 a2 => sLams iw ic cs g fbs e2 a2 | .ct e2 a2 => sLams iw ic cs g fbs e2 a2 | .bk e2 a2 => .nx e2 a2 | o => o) | false => .no) := hq
    cases hlt : Nat.blt iw e.length with
    | false => rw [hlt] at h1; exact h1.elim
    | true =>
    rw [hlt] at h1
    have niw : iw < σ.length := by
      rw [← T.ln]
      exact Nat.le_of_ble_eq_true hlt
    refine ⟨params, body, scope, fb, f, c, L, by rw [List.getElem?_set_self niw], hl, r, unp e iw, a, T.any iw _, ?_⟩
    have h2 : FinS X.K W D r a.n H' (xB (unp e iw) (cau cs (fb (unp e iw) a)) fun v a1 => match g (put (unp e iw) ic v) a1 with | .nx e2 a2 => sLams iw ic cs g fbs e2 a2 | .ct e2 a2 => sLams iw ic cs g fbs e2 a2 | .bk e2 a2 => .nx e2 a2 | o => o) := h1
    cases qc : cau cs (fb (unp e iw) a) with
    | no => rw [qc] at h2; exact h2.elim
    | er c2 fs2 a2 => exact (cau_ner qc).elim
    | ok v a1 =>
      rw [qc] at h2
      intro r1 H1 x m1 S1 hx
      have h3 : FinS X.K W D r a.n H' (match g (put (unp e iw) ic v) a1 with | .nx e2 a2 => sLams iw ic cs g fbs e2 a2 | .ct e2 a2 => sLams iw ic cs g fbs e2 a2 | .bk e2 a2 => .nx e2 a2 | o => o) := h2
      have T1 : ST X.K r1 (put (unp e iw) ic v) a1 ((σ.set iw (some (V.ref f))).set ic (some x)) H1 := ((T.any iw (some (V.ref f))).mo m1 S1).set ic hx
      refine ⟨r1, _, a1, T1, ?_⟩
      have go : ∀ e2 a2, FinS X.K W D r a.n H' (sLams iw ic cs g fbs e2 a2) → ∀ r' s' H2, Mo X.K r1 a1.n H1 r' a2.n H2 → ST X.K r' e2 a2 s' H2 →
          ∃ r e a fbs_1, ST X.K r e a s' H2 ∧ H2 p = some (.lst xs) ∧ (∀ j, j < a.n → r j ≠ p) ∧ LamsAt X k H2 fbs_1 (xs.drop (i + 1)) ∧ fbs.length = fbs_1.length ∧ FinS X.K W D r a.n H2 (sLams iw ic cs g fbs_1 e a) := by
        intro e2 a2 hf r' s' H2 m2 T2
        have mm := m1.trans m2
        obtain ⟨z1, z2⟩ := mm.oth p xs hpl hnr
        exact ⟨r', e2, a2, fbs, T2, z1, z2, by rw [eD]; exact t.keep (fun b φ q => mm.ext b φ q), rfl, FinS.later mm hf⟩
      cases qg : g (put (unp e iw) ic v) a1 with
      | nx e2 a2 => rw [qg] at h3; exact go e2 a2 h3
      | ct e2 a2 => rw [qg] at h3; exact go e2 a2 h3
      | bk e2 a2 =>
        rw [qg] at h3
        have h4 : FinS X.K W D r a.n H' (.nx e2 a2) := h3
        exact fun r' s' H2 m2 T2 => h4 r' s' H2 (m1.trans m2) T2
      | rt v2 a2 =>
        rw [qg] at h3
        have h4 : FinS X.K W D r a.n H' (.rt v2 a2) := h3
        exact fun r' H2 x2 m2 S2 hx2 => h4 r' H2 x2 (m1.trans m2) S2 hx2
      | er c2 fs2 e2 a2 =>
        rw [qg] at h3
        have h4 : FinS X.K W D r a.n H' (.er c2 fs2 e2 a2) := h3
        exact fun r' s' H2 d m2 T2 hd => h4 r' s' H2 d (m1.trans m2) T2 hd
      | no => rw [qg] at h3; exact h3.elim
end
end VI
end
section
set_option maxRecDepth 100000
set_option maxHeartbeats 4000000
/-! The head's facts. -/
namespace VI
open PySem PySem.Spec PyProof.Rows L2 PySem.SeqAt

/-! ### an exception class over ValueError, its own __init__ -/
def oexB (K : PySem.W.Frag) (C : Addr) : Bool := (match K.lookup C with
  | some ⟨.type t, _, .cls cd, sl⟩ => (match cd.mro, sl.toList with
    | .ref C' :: bm, [_, _, _, _, some (.builtin n), _] => decide (t = "type") && (decide (C' = C) && (decide (n = "ValueError.__new__") && (!cd.hasDel && (cd.hasDict && PySem.HandSPX.refsVE bm))))
    | _, _ => false)
  | _ => false) && (He.eqO (PySem.W.findIn K (.ref C) "__setattr__") (some (some (.builtin "object.__setattr__"))) && (decide (PySem.W.subIn K (.ref C) (.type "BaseException") = some true) && (decide (PySem.W.typeIn K (.ref C) = some (.type "type")) && PySem.W.keepIn K (.ref C))))
theorem oexB_ok {K : PySem.W.Frag} {C : Addr} (h : oexB K C = true) : OexC K C := by
  obtain ⟨q, h⟩ := He.ba h
  obtain ⟨h2, h⟩ := He.ba h
  obtain ⟨h3, h⟩ := He.ba h
  obtain ⟨h4, h5⟩ := He.ba h
  refine ⟨?_, He.eqO_ok h2, of_decide_eq_true h3, of_decide_eq_true h4, h5⟩
  split at q
  · rename_i t dd cd sl ho
    split at q
    · rename_i C' bm k0 k1 k2 k3 n k5 hm hs
      obtain ⟨q1, q⟩ := He.ba q
      obtain ⟨q2, q⟩ := He.ba q
      obtain ⟨q3, q⟩ := He.ba q
      obtain ⟨q4, q⟩ := He.ba q
      obtain ⟨q5, q6⟩ := He.ba q
      have e1 := of_decide_eq_true q1
      have e2 := of_decide_eq_true q2
      have e3 := of_decide_eq_true q3
      subst e1 e2 e3
      obtain ⟨nm, bs, mro, ns, qn, hd, sn, sub, ab, col, del⟩ := cd
      dsimp only at hm q4 q5
      subst hm
      have d1 : del = false := by
        simpa using q4
      subst d1 q5
      have hsl : sl = #[k0, k1, k2, k3, some (.builtin "ValueError.__new__"), k5] := by
        obtain ⟨l⟩ := sl
        simp only at hs
        rw [hs]
      subst hsl
      exact ⟨nm, qn, ns, bs, bm, sn, sub, ab, col, dd, k0, k1, k2, k3, k5, ho, q6⟩
    · cases q
  · cases q
/-- its __init__ as the text has it -/
structure BadD where
  x : Str
  qual : Str
  params : Arguments
  body : List Stmt
  scope : Scope
abbrev FnC : Type := Option (Str × Str × Arguments × FuncBody × Scope × Addr × List Str × Value × Addr)
def badW (K : PySem.W.Frag) (x : Str) : FnC := match K.lookup (He.ma K (He.ga K x) "__init__") with
  | some ⟨_, _, .func fd, _⟩ => some (fd.name, fd.qualname, fd.params, fd.body, fd.scope, fd.globals, fd.closure.map (·.1), fd.defaults, fd.builtins)
  | _ => none
def BadD.val (d : BadD) : FnC := some ("__init__", d.qual, d.params, .stmts d.body, d.scope, mainGlobals, ["__class__"], .none, builtinsNs)
def badB (file : Str) (K : PySem.W.Frag) (d : BadD) : Bool := oexB K (He.ga K d.x) && (He.eqO (PySem.W.findIn K (.ref (He.ga K d.x)) "__init__") (some (some (.ref (He.ma K (He.ga K d.x) "__init__")))) && (decide (PySem.W.typeIn K (.ref (He.ma K (He.ga K d.x) "__init__")) = some (.type "function")) &&
  (decide (PySem.W.mroIn K (He.ga K d.x) (.ref (He.ga K d.x)) = some true) && (decide (PySem.W.subIn K (.ref (He.ga K d.x)) (.type "ValueError") = some true) && (decide (PySem.W.ks_superIn K (He.ga K d.x) (He.ga K d.x) "__init__" = some (some (.builtin "ValueError.__init__"))) &&
  (decide (PySem.W.nsIn K cStatics "thirdparty.any" = some none) && (decide (PySem.W.findIn K (.ref (He.ga K d.x)) "part" = some none) && (match K.lookup (He.ma K (He.ga K d.x) "__init__") with
    | some ⟨_, _, .func fd, _⟩ => PySem.W.codeIn K fd.code d.qual && ((match fd.code with
      | .ref c => (match K.lookup c with
        | some ⟨_, _, .fields vs, _⟩ => (match (vs[2]? : Option Value) with
          | some (.str f _) => file == f
          | _ => false)
        | _ => false)
      | _ => false) && (match fd.closure with
      | [(_, cc)] => (match K.lookup cc with
        | some ⟨_, _, .cell (some (.ref D)), _⟩ => decide (D = He.ga K d.x)
        | _ => false)
      | _ => false))
    | _ => false))))))))
theorem badB_ok {P : Program} {K : PySem.W.Frag} {d : BadD} (e : badW K d.x = d.val) (h : badB P.main.file K d = true) (htop : (P.main.scope.names.lookup ("super" : Str)).isSome = false)
    (hbody : ∃ q1 q2 m j p0 p1 p2 p3 p4 p5 p6 p7 p8 p9, d.params = badPar q1 q2 ∧ d.body = badBody m j p0 p1 p2 p3 p4 p5 p6 p7 p8 p9 ∧ (p2.endLine == p4.line) = true) (hs : badSB d.scope = true) : BadC P K (He.ga K d.x) (He.ma K (He.ga K d.x) "__init__") := by
  obtain ⟨h1, h⟩ := He.ba h
  obtain ⟨h2, h⟩ := He.ba h
  obtain ⟨h3, h⟩ := He.ba h
  obtain ⟨h4, h⟩ := He.ba h
  obtain ⟨h5, h⟩ := He.ba h
  obtain ⟨h6, h⟩ := He.ba h
  obtain ⟨h7, h⟩ := He.ba h
  obtain ⟨h8, h9⟩ := He.ba h
  refine ⟨?_, oexB_ok h1, He.eqO_ok h2, of_decide_eq_true h3, of_decide_eq_true h4, of_decide_eq_true h5, of_decide_eq_true h6, of_decide_eq_true h7, of_decide_eq_true h8, htop⟩
  obtain ⟨q1, q2, m, j, p0, p1, p2, p3, p4, p5, p6, p7, p8, p9, b1, b2, b3⟩ := hbody
  unfold badW at e
  split at h9
  · rename_i oc od fd osl lk
    rw [lk] at e
    obtain ⟨n1, n2, n3, n4, n5, n6, n7, n8, n9, n10, n11, n12, n13, n14, n15⟩ := fd
    have e2 : (some (n1, n2, n3, n4, n5, n6, n7.map (·.1), n8, n15) : FnC) = some (("__init__" : Str), d.qual, d.params, FuncBody.stmts d.body, d.scope, mainGlobals, [("__class__" : Str)], Value.none, builtinsNs) := e
    simp only [Option.some.injEq, Prod.mk.injEq] at e2
    obtain ⟨z1, z2, z3, z4, z5, z6, z7, z8, z9⟩ := e2
    subst z1 z2 z3 z4 z5 z6 z8 z9
    obtain ⟨w1, h9⟩ := He.ba h9
    obtain ⟨w2, w3⟩ := He.ba h9
    split at w2
    · rename_i c ec
      dsimp only at ec
      subst ec
      split at w2
      · rename_i ccl cdd vs ccs lc
        split at w2
        · rename_i f tf ev
          split at w3
          · rename_i y cc ecl
            dsimp only at ecl
            subst ecl
            split at w3
            · rename_i cl cld D csl lcc
              have eD := of_decide_eq_true w3
              subst eD
              have ey : y = "__class__" := by
                simpa using z7
              subst ey
              rw [b1, b2] at lk
              exact ⟨oc, od, osl, _, _, q1, q2, _, n9, n10, n11, n12, c, n14, cc, m, j, p0, p1, p2, p3, p4, p5, p6, p7, p8, p9, lk, w1, badS_ok hs, b3, ⟨ccl, cdd, vs, ccs, f, tf, lc, ev, w2⟩, cl, cld, csl, lcc⟩
            · cases w3
          · cases w3
        · cases w2
      · cases w2
    · cases w2
  · cases h9
/-! ### the tables of lambdas -/
def tabD (K : PySem.W.Frag) : Bool := TBN.all fun a => TBN.all fun b => decide ((He.cT K (a.1, none)).2 = (He.cT K (b.1, none)).2 → a.2 = b.2)
theorem lamH_of {X : Cx} {nm q : Str} (hB : BaseOk X.K X.mg X.base) (hD : tabD X.K = true) (hm : (nm, q) ∈ TBN) (hq : X.env.qual ++ "<lambda>" = q) (hc : X.env.code = .ref (He.cT X.K (nm, none)).1) : LamH X := by
  refine ⟨_, _, hB _ (List.mem_map.mpr ⟨_, hm, rfl⟩), hc, ?_, fun p hp e => ?_⟩
  · rw [hq]
    exact List.mem_map.mpr ⟨_, hm, rfl⟩
  · obtain ⟨z, hz, ez⟩ := List.mem_map.mp hp
    have k := of_decide_eq_true (List.all_eq_true.mp (List.all_eq_true.mp hD z hz) _ hm)
    rw [hq, ← ez]
    exact k (by rw [← e, ← ez])
/-! ### the Hook -/
abbrev AlV : Type := He.AlD × List FnC × Bool
def KV (n : Nat) (g : Addr → Option Obj) : PySem.W.Frag := He.frT g (cStatics :: He.asD g n)
structure Hd where
  n : Nat
  fa : List He.Fa
  fn : List He.DefD
  cl : List BadD
  ex : PySem.W.Frag → Bool
def tfs : List He.Defn := TBN.map fun p => (p.1, none)
def obsV (Z : Hd) (g : Addr → Option Obj) : AlV := (He.obsD Z.fa Z.fn (KV Z.n g), Z.cl.map (fun d => badW (KV Z.n g) d.x), Z.ex (KV Z.n g) && He.tabsB g tfs (KV Z.n g))
def valV (Z : Hd) : AlV := (He.valD Z.fn, Z.cl.map BadD.val, true)
structure SaysV (Z : Hd) (K : PySem.W.Frag) (h : Heap) : Prop where
  d : He.SaysD Z.fa Z.fn K
  c : Z.cl.map (fun d => badW K d.x) = Z.cl.map BadD.val
  ex : Z.ex K = true
  hd : ∀ p ∈ tfs, PySem.W.codeHdIn K (He.cT K p).1 (He.cT K p).2 = true
  out : ∀ p ∈ tfs, K.lookup (He.cT K p).2 = none
  empty : ∀ p ∈ tfs, h.get? (He.cT K p).2 = some { cls := .none, data := .fields #[] }
theorem saysV_of {Z : Hd} {h : Heap} (e : obsV Z h.get? = valV Z) : SaysV Z (KV Z.n h.get?) h := by
  have e1 : He.obsD Z.fa Z.fn (KV Z.n h.get?) = He.valD Z.fn := congrArg (fun z : AlV => z.1) e
  have e2 : Z.cl.map (fun d => badW (KV Z.n h.get?) d.x) = Z.cl.map BadD.val := congrArg (fun z : AlV => z.2.1) e
  have e3 : (Z.ex (KV Z.n h.get?) && He.tabsB h.get? tfs (KV Z.n h.get?)) = true := congrArg (fun z : AlV => z.2.2) e
  obtain ⟨h1, h2⟩ := He.ba e3
  have key : ∀ p ∈ tfs, PySem.W.codeHdIn (KV Z.n h.get?) (He.cT (KV Z.n h.get?) p).1 (He.cT (KV Z.n h.get?) p).2 = true ∧ ∃ o, h.get? (He.cT (KV Z.n h.get?) p).2 = some o ∧ He.emptyTab o = true := fun p hp => by
    obtain ⟨h3, h4⟩ := He.ba (List.all_eq_true.mp h2 p hp)
    refine ⟨h3, ?_⟩
    cases q : h.get? (He.cT (KV Z.n h.get?) p).2 with
    | none =>
      rw [q] at h4
      cases h4
    | some o =>
      rw [q] at h4
      exact ⟨o, rfl, h4⟩
  refine ⟨e1, e2, h1, fun p hp => (key p hp).1, fun p hp => ?_, fun p hp => ?_⟩
  · obtain ⟨_, o, q, z⟩ := key p hp
    exact He.frT_none q z
  · obtain ⟨_, o, q, z⟩ := key p hp
    rw [q, He.emptyTab_eq z]
def hookV (Z : Hd) : PySem.W.Hook where
  α := AlV
  obs := fun s => obsV Z s.heap.get?
  val := fun _ => valV Z
  says := fun _ h => ∃ K : PySem.W.Frag, K.In h ∧ SaysV Z K h
  of := fun _ _ e => ⟨_, He.frT_in, saysV_of e⟩
  keeps := fun _ _ _ ⟨K, hK, c⟩ k => ⟨K, PySem.W.Frag.In.keeps hK k, ⟨c.d, c.c, c.ex, c.hd, c.out, fun p hp => k _ _ (c.empty p hp)⟩⟩
theorem obsV_eq {Z : Hd} {g : Addr → Option Obj} {s : Shared} (h : ∀ a, g a = s.heap.get? a) : obsV Z g = (hookV Z).obs s := by
  have e : g = s.heap.get? := funext h
  rw [e] <;> rfl
theorem SaysV.bad {Z : Hd} {K : PySem.W.Frag} {h : Heap} (c : SaysV Z K h) (i : Nat) {d : BadD} (e : Z.cl[i]? = some d) : badW K d.x = d.val := by
  have e2 : (Z.cl.map fun d => badW K d.x)[i]? = (Z.cl.map BadD.val)[i]? := by
    rw [c.c]
  rw [List.getElem?_map, List.getElem?_map, e] at e2
  exact Option.some.inj e2
/-! ### a def in which lambdas stand -/
section
variable {P : Program} {w : World} {K : PySem.W.Frag} {mg : Str → Option Value} {base : Heap} {x qual : Str} {params : Arguments} {body : List Stmt} {scope : Scope} {dvs : List V} {kws : List (Str × V)} {fd : FuncData} {N ps : List Str} {k : Nat} {g : GS} {p : He.Defn}
theorem okGL (D : FunD K x qual params body scope dvs kws (He.fAd K p) fd) (S : FnScope N ps scope)
    (hbody : ∀ (A : Around) (outer : List PySem.Env) (s : Shared) (H : Hp) (E : XK), A.guards = some [] → Room k (A.deeper (envOfC qual scope s.heap.objs.size (He.fAd K p) (.ref (He.cT K p).1))) → Takes (cxB P w K mg base N qual scope (He.fAd K p) (.ref (He.cT K p).1) A outer s H E) (WE' E) →
      PSs (cxB P w K mg base N qual scope (He.fAd K p) (.ref (He.cT K p).1) A outer s H E) body (tX K (WE' E) g)) : FnG P w K mg base (k + 1) (He.fAd K p) fd ps (spF K (mkF ps.length N.length g)) := by
  have key : ∀ (cdv : Value), cdv = .ref (He.cT K p).1 → ∀ (A : Around) (outer : List PySem.Env) (s : Shared) (H : Hp) (E : XK), A.guards = some [] → Room k (A.deeper (envOfC qual scope s.heap.objs.size (He.fAd K p) cdv)) → Takes (cxB P w K mg base N qual scope (He.fAd K p) cdv A outer s H E) (WE' E) →
      PSs (cxB P w K mg base N qual scope (He.fAd K p) cdv A outer s H E) body (tX K (WE' E) g) := fun cdv e => by
    subst e
    exact hbody
  refine okG0 D S fun cdv A outer s H E hg ⟨oc, od, fd', osl, lk, ef, hcd⟩ hr tk => ?_
  obtain ⟨c, ec⟩ := He.codeIn_ref hcd
  have e2 : cdv = .ref (He.cT K p).1 := by
    rw [ec]
    exact congrArg Value.ref (He.codeOf_eq lk (ef.trans ec)).symm
  exact key cdv e2 A outer s H E hg hr tk
end
end VI
end
section
set_option maxRecDepth 100000
set_option maxHeartbeats 4000000
/-! What a claim's walk leans on. -/
namespace VI
open PySem PySem.Spec PyProof.Rows L2 PySem.SeqAt

def bks : List BK := [.non, .bool, .int, .str, .tuple, .list, .dict]
theorem bks_all (t : BK) : t ∈ bks := by
  cases t <;> simp [bks]
def isB (x : Str) (oi oe : List (Str × Bool)) (K : PySem.W.Frag) : Bool := (bks.all fun t => decide (PySem.W.kitOne K (.type t.nm) (.ref (He.ga K x)) = some false)) && ((oi.all fun p => insB K p.1 && decide (PySem.W.kitOne K (.ref (He.ga K p.1)) (.ref (He.ga K x)) = some p.2)) &&
  (oe.all fun p => excB K p.1 && decide (PySem.W.kitOne K (.ref (He.ga K p.1)) (.ref (He.ga K x)) = some p.2)))
theorem isB_ok {K : PySem.W.Frag} {x : Str} {oi oe : List (Str × Bool)} (h : isB x oi oe K = true) : IsC K (.ref (He.ga K x)) (fun _ => false) oi oe := by
  obtain ⟨h1, h⟩ := He.ba h
  obtain ⟨h2, h3⟩ := He.ba h
  refine ⟨fun t => of_decide_eq_true (List.all_eq_true.mp h1 t (bks_all t)), fun p hp => ?_, fun p hp => ?_⟩
  · obtain ⟨a, b⟩ := He.ba (List.all_eq_true.mp h2 p hp)
    exact ⟨insB_ok a, of_decide_eq_true b⟩
  · obtain ⟨a, b⟩ := He.ba (List.all_eq_true.mp h3 p hp)
    exact ⟨excB_ok a, of_decide_eq_true b⟩
/-- a class's field that only its instances have, of exceptions -/
def xfs (cs : List Str) (f : Str) (K : PySem.W.Frag) : Bool := cs.all fun c => excB K c && He.eqO (PySem.W.findIn K (.ref (He.ga K c)) f) (some none)
theorem xfs_ok {K : PySem.W.Frag} {cs : List Str} {f : Str} (h : xfs cs f K = true) : ∀ c ∈ cs, XfC K (He.ga K c) ∧ PySem.W.findIn K (.ref (He.ga K c)) f = some none := fun c hc => by
  obtain ⟨a, b⟩ := He.ba (List.all_eq_true.mp h c hc)
  exact ⟨excB_xf a, He.eqO_ok b⟩
def fIsInt : BK → Bool
  | .int => true
  | .bool => true
  | _ => false
def fIsBool : BK → Bool
  | .bool => true
  | _ => false
def fIsTup : BK → Bool
  | .tuple => true
  | _ => false
def fIsSeq : BK → Bool
  | .tuple => true
  | .list => true
  | _ => false
theorem is_int {K : PySem.W.Frag} : IsC K (.type "int") fIsInt [] [] := ⟨(fun t => by cases t <;> exact kit_ty (by decide +kernel)), (fun p hp => by cases hp), (fun p hp => by cases hp)⟩
theorem is_bool {K : PySem.W.Frag} : IsC K (.type "bool") fIsBool [] [] := ⟨(fun t => by cases t <;> exact kit_ty (by decide +kernel)), (fun p hp => by cases hp), (fun p hp => by cases hp)⟩
theorem is_tuple {K : PySem.W.Frag} : IsC K (.type "tuple") fIsTup [] [] := ⟨(fun t => by cases t <;> exact kit_ty (by decide +kernel)), (fun p hp => by cases hp), (fun p hp => by cases hp)⟩
theorem is_seq {K : PySem.W.Frag} : IsT K [.type "list", .type "tuple"] fIsSeq [] [] := ⟨(fun t => by cases t <;> kernel_rfl), (fun p hp => by cases hp), (fun p hp => by cases hp)⟩
/-! ### what stands of defs -/
section
variable (P : Program) (w : World) (K : PySem.W.Frag) (mg : Str → Option Value) (base : Heap)
abbrev HasP (k : Nat) (x : Str) (ps : List Str) (F : FN) : Prop := ∃ f fd, FnOk P w K mg base (L2.CX P w) k f fd ps (spF K F) ∧ mg x = some (.ref f) ∧ PySem.W.keepIn K (.ref f) = true ∧ Binds K fd ps []
abbrev HasGP (k : Nat) (x : Str) (ps : List Str) (F : FN) : Prop := ∃ f fd, FnG P w K mg base k f fd ps (spF K F) ∧ mg x = some (.ref f) ∧ PySem.W.keepIn K (.ref f) = true ∧ Binds K fd ps []
abbrev HasDP (k : Nat) (x : Str) (ps : List Str) (F : FN) (dv : List PV) : Prop := ∃ f fd ds dvs, FnOk P w K mg base (L2.CX P w) k f fd ps (spF K F) ∧ mg x = some (.ref f) ∧ PySem.W.keepIn K (.ref f) = true ∧ Binds K fd ps ds ∧ Vals dvs ds ∧ ∀ r n H, VRs K r n H dv dvs
abbrev HasRP (k : Nat) (x : Str) (ps : List Str) (F : FN) (ks : List Str) : Prop := ∃ f fd, FnOk P w K mg base (L2.CX P w) k f fd ps (spF K F) ∧ mg x = some (.ref f) ∧ PySem.W.keepIn K (.ref f) = true ∧ ∀ (s : Shared) (ws : List Value), K.In s.heap → ws.length = ps.length → BindsTo s fd ⟨[], ks.zip ws⟩ (ps.zip ws.reverse)
abbrev HasMP (k : Nat) (x : Str) (ps : List Str) (F : FN) : Prop := ∃ f fd, Mk K (He.ga K x) f ∧ FnOk P w K mg base (L2.CX P w) k f fd ps (spF K F) ∧ mg x = some (.ref (He.ga K x)) ∧ Binds K fd ps []
end
theorem HasDP.to {X : Cx} {k : Nat} {x : Str} {ps : List Str} {F : FN} {dv : List PV} (h : HasDP X.prog X.w X.K X.mg X.base k x ps F dv) : HasD X k x ps F dv := by
  obtain ⟨f, fd, ds, dvs, h1, h2⟩ := h
  exact ⟨f, fd, ds, dvs, .inl h1, h2⟩
theorem HasRP.to {X : Cx} {k : Nat} {x : Str} {ps : List Str} {F : FN} {ks : List Str} (h : HasRP X.prog X.w X.K X.mg X.base k x ps F ks) : HasR X k x ps F ks := by
  obtain ⟨f, fd, h1, h2⟩ := h
  exact ⟨f, fd, .inl h1, h2⟩
section
variable {K : PySem.W.Frag} {x qual : Str} {params : Arguments} {body : List Stmt} {scope : Scope} {kws : List (Str × V)} {f : Addr} {fd : FuncData} {ps ks : List Str}
theorem bindsR (F : FunD K x qual params body scope [] kws f fd)
    (h : ∀ (kV doc pm : Value) (an : Option Addr) (cdv ct : Value) (ws : List Value), ws.length = ps.length → bindArgs (PySem.W.fnOf x qual params body scope .none kV doc pm an cdv ct) ⟨[], ks.zip ws⟩ = pure (ps.zip ws.reverse)) (s : Shared) (ws : List Value) (_ : K.In s.heap) (hl : ws.length = ps.length) : BindsTo s fd ⟨[], ks.zip ws⟩ (ps.zip ws.reverse) := by
  obtain ⟨oc, od, dV, kV, doc, pm, an, cdv, ct, osl, rfl, lk, hcd, hD, hK⟩ := F.ex
  rcases hD with ⟨_, rfl⟩ | ⟨e, _⟩
  · exact .of_eq (h kV doc pm an cdv ct ws hl)
  · exact absurd rfl e
/-- the def that catches, from what the head tells -/
theorem cauD_of {mg : Str → Option Value} {g : Addr} {fd : FuncData} {params : Arguments} {body : List Stmt} {sg : Scope} (F : FunD K "_law_caught" "_law_caught" params body sg [] kws g fd) (hb : ∃ j p1 p2 p3 p4 p5 p6 p7 p8 p9 q1 q2 q3 q4 q5 q6, body = cauBody j p1 p2 p3 p4 p5 p6 p7 p8 p9 q1 q2 q3 q4 q5 q6) (S : FnScope cauN ["work"] sg)
    (h : ∀ (kV doc pm : Value) (an : Option Addr) (cdv ct : Value) (us : List Value), us.length = 1 → bindArgs (PySem.W.fnOf "_law_caught" "_law_caught" params body sg .none kV doc pm an cdv ct) ⟨us, []⟩ = pure ((["work"] : List Str).zip us)) (l1 : sg.names.lookup ("work" : Str) = some .local) (l2 : sg.names.lookup ("found" : Str) = some .local)
    (l3 : sg.names.lookup ("error" : Str) = some .local) (l4 : sg.names.lookup ("RoundError" : Str) = some .globalImplicit) (m1 : mg "_law_caught" = some (.ref g)) (m2 : mg "RoundError" = some (.ref (He.ga K "RoundError"))) : CauD K mg g := by
  have kp := F.kp
  have bn := F.bindsN (ps := ["work"]) h
  obtain ⟨oc, od, dV, kV, doc, pm, an, cdv, ct, osl, rfl, lk, hcd, hD, hK⟩ := F.ex
  obtain ⟨j, p1, p2, p3, p4, p5, p6, p7, p8, p9, q1, q2, q3, q4, q5, q6, rfl⟩ := hb
  rcases hD with ⟨_, rfl⟩ | ⟨e, _⟩
  · exact ⟨⟨oc, od, osl, params, kV, doc, pm, an, cdv, ct, sg, j, p1, p2, p3, p4, p5, p6, p7, p8, p9, q1, q2, q3, q4, q5, q6, lk, hcd, bn, S, l1, l2, l3, l4⟩, m1, kp, m2⟩
  · exact absurd rfl e
end
/-! ### the facts at a base -/
structure Fx (Z : Hd) (exs : List (PySem.W.Frag → Bool)) (file : Str) (P : Program) (K : PySem.W.Frag) (mg : Str → Option Value) (base : Heap) : Prop where
  x : K.In base
  g : base.Ns mainGlobals mg
  c : ∃ h, SaysV Z K h
  ee : ∀ e ∈ exs, e K = true
  b : BaseOk K mg base
  fl : P.main.file = file
  tp : (P.main.scope.names.lookup ("super" : Str)).isSome = false
section
variable {Z : Hd} {exs : List (PySem.W.Frag → Bool)} {file : Str} {P : Program} {K : PySem.W.Frag} {mg : Str → Option Value} {base : Heap}
theorem Fx.fact (F : Fx Z exs file P K mg base) (i : Nat) {f : He.Fa} (h : Z.fa[i]? = some f) : f.ok K = true := let ⟨_, c⟩ := F.c; c.d.fact i h
theorem Fx.fr (F : Fx Z exs file P K mg base) (i : Nat) {x : Str} (h : Z.fa[i]? = some (.free x) := by rfl) : mg x = none := He.free_ok F.x F.g (F.fact i h)
theorem Fx.glo (F : Fx Z exs file P K mg base) (i : Nat) {x : Str} (h : Z.fa[i]? = some (.glo x) := by rfl) : mg x = some (.ref (He.ga K x)) := He.glo_ok F.x F.g (F.fact i h)
theorem Fx.gi (F : Fx Z exs file P K mg base) (i : Nat) {x : Str} {n : Int} (h : Z.fa[i]? = some (.int x n) := by rfl) : ∃ t, mg x = some (.int n t) := He.int_ok F.x F.g (F.fact i h)
theorem Fx.ex (F : Fx Z exs file P K mg base) (i : Nat) {e : PySem.W.Frag → Bool} (h : exs[i]? = some e := by rfl) : e K = true := F.ee e (List.mem_of_getElem? h)
theorem Fx.fn (F : Fx Z exs file P K mg base) (i : Nat) {d : He.DefD} (h : Z.fn[i]? = some d := by rfl) : ∃ fd, FunD K d.name d.qual d.params d.body d.scope (d.dvs K) (d.kws K) (He.fAd K d.at_) fd := let ⟨_, c⟩ := F.c; c.d.def_ i h
theorem Fx.bad (F : Fx Z exs file P K mg base) (i : Nat) {d : BadD} (h : Z.cl[i]? = some d) (hb : badB file K d = true) (hbody : ∃ q1 q2 m j p0 p1 p2 p3 p4 p5 p6 p7 p8 p9, d.params = badPar q1 q2 ∧ d.body = badBody m j p0 p1 p2 p3 p4 p5 p6 p7 p8 p9 ∧ (p2.endLine == p4.line) = true) (hs : badSB d.scope = true) :
    BadC P K (He.ga K d.x) (He.ma K (He.ga K d.x) "__init__") := by
  obtain ⟨h0, c⟩ := F.c
  exact badB_ok (c.bad i h) (by rw [F.fl]; exact hb) F.tp hbody hs
end
/-- the i-th statement of a class's body -/
def inner (s : Stmt) (i : Nat) : Stmt := match s with
  | .ClassDef (body := b) .. => b.getD i (.Pass ⟨0, 0, 0, 0⟩)
  | _ => .Pass ⟨0, 0, 0, 0⟩
/-! ### x += n -/
def sAugI (i : Nat) (fe : FE) : GS := fun e a => match slot e i with
  | some (.int n) => xB e (fe e a) fun v a1 => match v with
    | .int m => .nx (put e i (.int (n + m))) a1
    | _ => .no
  | _ => .no
theorem sx_aug {X : Cx} {W : WX} {fe : FE} {ex : Expr} {pos : Pos} (i : Nat) {x : Str} {pos' : Pos} (hN : X.N.Nodup) (he : PE X ex (tO X.K W fe)) (hi : X.N[i]? = some x := by rfl) (hx : Loc X.env.scope x := by first | exact Or.inl rfl | exact Or.inr rfl)
    (hf : X.fn x = true ∨ X.env.scope.names.lookup x = some .local := by first | exact .inl rfl | exact .inr rfl | assumption) : PS X (.AugAssign (.Name x pos') .Add ex pos) (tX X.K W (sAugI i fe)) := ps_of (ps_aug hN hi hx he in_add hf) fun D s H ⟨r, e, a, T, h⟩ => by
  unfold sAugI at h
  split at h
  · rename_i n e1
    obtain ⟨y, h1, h2⟩ := T.er i _ (slot_get e1)
    cases h2
    refine ⟨.int n, h1, tO_mono (xB_bind T h) fun z H1 ⟨r1, v, a1, m1, T1, hv, h3⟩ => ?_⟩
    cases hv with
    | int m =>
      have h4 : FinS X.K W D r1 a1.n H1 (.nx (put e i (.int (n + m))) a1) := h3
      exact ⟨n, m, rfl, rfl, h4 r1 _ H1 .refl (T1.set i (.int _))⟩
    | _ => exact h3.elim
  · exact h.elim
end VI
end
section
set_option maxRecDepth 100000
/-! The plain functions of the defs that the law reaches. -/
namespace VI
open PySem
def cauCs : List (Str × Bool) := [("BadWord", true), ("BadNumber", true), ("BadSkin", true), ("BadBridge", true)]
def g__law_begun : GS := (sSeq (sSet 1 (eLc [2] (fVal (eVar 0)) (bNm 2) (eBin cGe (eCB bAbs (aCons (eVar 2) aNil)) (eBin bPow (eC (.int 10)) (eC (.int 18)))) (eBin bSub (eCB bAbs (aCons (eVar 2) aNil)) (eBin bPow (eC (.int 10)) (eC (.int 18))))))
    (sRet (eDisp (pCons (eC (.str "large")) (eVar 1) (pCons (eC (.str "rest")) (eC (.int 0)) (pCons (eC (.str "cells")) (eLc [2] (fVal (eVar 0)) (bNm 2) (eC (.bl true)) (eCB bAbs (aCons (eVar 2) aNil))) (pCons (eC (.str "turn")) (eC (.int 0)) pNil)))))))
def F__law_begun : FN := mkF 1 3 g__law_begun
def g__law_mixed : GS := (sSeq (sAsg (eBin bAdd (eBin ixO (eVar 0) (eC (.str "turn"))) (eC (.int 1))) (gSub (eVar 0) (eC (.str "turn"))))
    (sSeq (sPar 1 2 (aCons (eCB bInt (aCons (eBin ixO (eVar 0) (eC (.str "turn"))) aNil)) (aCons (eC (.int 0)) aNil)))
    (sSeq (sFor (fVal (eLst (aCons (eC (.int 2147483629)) (aCons (eC (.int 2147483587)) (aCons (eC (.int 2147483579)) aNil))))) (gNm 3)
    (sSeq (sSet 4 (eBin bMod (eCB bInt (aCons (eBin bAdd (eBin bMul (eVar 1) (eC (.int 69621))) (eBin bDiv (eVar 3) (eC (.int 7)))) aNil)) (eVar 3)))
    (sSeq (sFor (fVal (eBin ixO (eVar 0) (eC (.str "cells")))) (gNm 5)
    (sSet 4 (eBin bMod (eCB bInt (aCons (eBin bAdd (eBin bAdd (eBin bMul (eVar 4) (eC (.int 48271))) (eCB bInt (aCons (eVar 5) aNil))) (eC (.int 1))) aNil)) (eVar 3))))
    (sSet 2 (eBin bAdd (eBin bMul (eVar 2) (eC (.int 2147483647))) (eBin bMod (eCB bInt (aCons (eBin bPow (eVar 4) (eC (.int 5))) aNil)) (eVar 3)))))))
    (sRet (eVar 2)))))
def F__law_mixed : FN := mkF 1 6 g__law_mixed
def g__law_take : GS := (sSeq (sWhl (fun _ _ => 1000) (eAnd (eBin cEq (eBin ixO (eVar 0) (eC (.str "rest"))) (eC (.int 0))) (eBin cNe (eBin ixO (eVar 0) (eC (.str "large"))) (eLst aNil)))
    (sAsg (eBM 0 mPop (eBin ixO (eVar 0) (eC (.str "large"))) (aCons (eC (.int 0)) aNil)) (gSub (eVar 0) (eC (.str "rest")))))
    (sSeq (sIf (eBin cEq (eBin ixO (eVar 0) (eC (.str "rest"))) (eC (.int 0)))
    (sAsg (eCall F__law_mixed (aCons (eVar 0) aNil)) (gSub (eVar 0) (eC (.str "rest"))))
    sNil)
    (sSeq (sSet 2 (eBin bMod (eCB bInt (aCons (eBin ixO (eVar 0) (eC (.str "rest"))) aNil)) (eVar 1)))
    (sSeq (sAsg (eBin bDiv (eCB bInt (aCons (eBin ixO (eVar 0) (eC (.str "rest"))) aNil)) (eVar 1)) (gSub (eVar 0) (eC (.str "rest"))))
    (sRet (eVar 2))))))
def F__law_take : FN := mkF 2 3 g__law_take
def g__law_shuffled : GS := (sSeq (sPar 2 3 (aCons (eCB bList (aCons (eVar 1) aNil)) (aCons (eLst aNil) aNil)))
    (sSeq (sWhl (fun _ _ => 1000) (eBin cNe (eVar 2) (eLst aNil))
    (sDrop (eBM 0 mAppend (eVar 3) (aCons (eBM 0 mPop (eVar 2) (aCons (eCall F__law_take (aCons (eVar 0) (aCons (eCB bLen (aCons (eVar 2) aNil)) aNil))) aNil)) aNil))))
    (sRet (eVar 3))))
def F__law_shuffled : FN := mkF 2 4 g__law_shuffled
def g__law_row : GS := (sRet (eBin bAdd (eTup (aCons (eC (.int 0)) aNil)) (eCB bTuple (aCons (eCall F__law_shuffled (aCons (eVar 0) (aCons (eRgL (eC (.int 1)) (eBin bMul (eC (.int 2)) (eVar 1))) aNil))) aNil))))
def F__law_row : FN := mkF 2 2 g__law_row
def g__law_freed : GS := (sSeq (sSet 1 (eLst aNil))
    (sSeq (sFor (fVal (eVar 0)) (gNm 2)
    (sIf (eAnd (eBin cNe (eVar 1) (eLst aNil)) (eBin cEq (eBin ixO (eVar 1) (eBin bSub (eCB bLen (aCons (eVar 1) aNil)) (eC (.int 1)))) (eBin bXor (eVar 2) (eC (.int 1)))))
    (sDrop (eBM0 0 mPop (eVar 1)))
    (sDrop (eBM 0 mAppend (eVar 1) (aCons (eVar 2) aNil)))))
    (sRet (eCB bTuple (aCons (eVar 1) aNil)))))
def F__law_freed : FN := mkF 1 3 g__law_freed
def g__law_walk : GS := (sSeq (sSet 3 (eBM 1 mIndexT (eVar 0) (aCons (eBin bXor (eVar 2) (eC (.int 1))) aNil)))
    (sSeq (sIf (eBin cEq (eVar 2) (eBin ixO (eVar 0) (eVar 1)))
    (sRet (eBin bMod (eCB bInt (aCons (eBin bAdd (eVar 3) (eC (.int 1))) aNil)) (eCB bLen (aCons (eVar 0) aNil))))
    sNil)
    (sRet (eIf (eBin cEq (eVar 2) (eBin ixO (eVar 0) (eBin bSub (eVar 1) (eC (.int 1))))) (eVar 3) (eC .non)))))
def F__law_walk : FN := mkF 3 4 g__law_walk
def g__law_tight : GS := (sSeq (sPar 4 5 (aCons (eCall F__law_freed (aCons (eVar 2) aNil)) (aCons (eC (.bl true)) aNil)))
    (sSeq (sWhl (fun _ _ => 1000) (eAnd (eBin cNe (eVar 4) (eTup aNil)) (eVar 5))
    (sSeq (sPar 6 7 (aCons (eCall F__law_walk (aCons (eVar 0) (aCons (eVar 1) (aCons (eBin ixO (eVar 4) (eC (.int 0))) aNil)))) (aCons (eCall F__law_walk (aCons (eVar 0) (aCons (eVar 3) (aCons (eBin bXor (eBin ixO (eVar 4) (eBin bSub (eCB bLen (aCons (eVar 4) aNil)) (eC (.int 1)))) (eC (.int 1))) aNil)))) aNil)))
    (sIf (eBin (cIs true) (eVar 6) (eC .non))
    (sPar 1 4 (aCons (eVar 6) (aCons (eSl (eVar 4) (oSome (eC (.int 1))) oNone) aNil)))
    (sIf (eBin (cIs true) (eVar 7) (eC .non))
    (sPar 3 4 (aCons (eVar 7) (aCons (eSl (eVar 4) oNone (oSome (eBin bSub (eCB bLen (aCons (eVar 4) aNil)) (eC (.int 1))))) aNil)))
    (sSet 5 (eC (.bl false)))))))
    (sRet (eTup (aCons (eVar 1) (aCons (eVar 4) (aCons (eVar 3) aNil)))))))
def F__law_tight : FN := mkF 4 8 g__law_tight
def g__law_undone : GS := (sRet (eCB bTuple (aCons (eLc [1] (fVal (eRev (eVar 0))) (bNm 1) (eC (.bl true)) (eBin bXor (eVar 1) (eC (.int 1)))) aNil)))
def F__law_undone : FN := mkF 1 2 g__law_undone
def g__law_bridge : GS := (sSeq (sAsg (eCall F__law_tight (aCons (eVar 0) (aCons (eVar 1) (aCons (eVar 2) (aCons (eVar 3) aNil))))) (gTu 3 (gCo (gNm 4) (gCo (gNm 5) (gCo (gNm 6) gNo)))))
    (sSeq (sIf (eBin cNe (eVar 5) (eTup aNil))
    (sRet (eCB bMin (aCons (eTup (aCons (eVar 4) (aCons (eVar 5) (aCons (eVar 6) aNil)))) (aCons (eTup (aCons (eVar 6) (aCons (eCall F__law_undone (aCons (eVar 5) aNil)) (aCons (eVar 4) aNil)))) aNil))))
    sNil)
    (sSeq (sIf (eBin cEq (eVar 4) (eVar 6))
    (sRet (eC .non))
    sNil)
    (sSeq (sPar 7 8 (aCons (eLst (aCons (eTup (aCons (eCB bMin (aCons (eVar 4) (aCons (eVar 6) aNil))) (aCons (eTup aNil) (aCons (eCB bMax (aCons (eVar 4) (aCons (eVar 6) aNil))) aNil)))) aNil)) (aCons (eCB bLen (aCons (eVar 0) aNil)) aNil)))
    (sSeq (sFor (fVal (eLst (aCons (eTup (aCons (eVar 4) (aCons (eVar 6) aNil))) (aCons (eTup (aCons (eVar 6) (aCons (eVar 4) aNil))) aNil)))) (gTu 2 (gCo (gNm 9) (gCo (gNm 10) gNo)))
    (sIf (eBin cEq (eVar 10) (eBin bMod (eCB bInt (aCons (eBin bAdd (eVar 9) (eC (.int 1))) aNil)) (eVar 8)))
    (sSeq (sSet 11 (eBM 1 mIndexT (eVar 0) (aCons (eBin bXor (eBin ixO (eVar 0) (eVar 9)) (eC (.int 1))) aNil)))
    (sSeq (sSet 12 (eBin bMod (eCB bInt (aCons (eBin bAdd (eVar 11) (eC (.int 1))) aNil)) (eVar 8)))
    (sDrop (eBM 0 mAppend (eVar 7) (aCons (eTup (aCons (eCB bMin (aCons (eVar 11) (aCons (eVar 12) aNil))) (aCons (eTup aNil) (aCons (eCB bMax (aCons (eVar 11) (aCons (eVar 12) aNil))) aNil)))) aNil)))))
    sNil))
    (sRet (eCB bMin (aCons (eVar 7) aNil))))))))
def F__law_bridge : FN := mkF 4 13 g__law_bridge
def g_need_skin : GS := (sIf (eNot (eIsi (fun _ => false) [("Skin", true)] [] (eVar 0)))
    (sRaise1 "BadSkin" "part" (eC .non))
    sNil)
def F_need_skin : FN := mkF 1 1 g_need_skin
def g_need_bands : GS := (sSeq (sDrop (eCall F_need_skin (aCons (eVar 0) aNil)))
    (sIf (eBin cLt (eFld ["Skin"] "bands" (eVar 0)) (eC (.int 2)))
    (sRaise1 "BadSkin" "part" (eC (.str "bands")))
    sNil))
def F_need_bands : FN := mkF 1 1 g_need_bands
def g_is_number : GS := (sRet (eAnd (eIsi fIsInt [] [] (eVar 0)) (eNot (eIsi fIsBool [] [] (eVar 0)))))
def F_is_number : FN := mkF 1 1 g_is_number
def g_is_between : GS := (sRet (eAnd (eCall F_is_number (aCons (eVar 0) aNil)) (eCh cLe cLe (eVar 1) (eVar 0) (eVar 2))))
def F_is_between : FN := mkF 3 3 g_is_between
def g_need_between : GS := (sIf (eNot (eCall F_is_between (aCons (eVar 0) (aCons (eVar 1) (aCons (eVar 2) aNil)))))
    (sRaise1 "BadNumber" "part" (eVar 3))
    sNil)
def F_need_between : FN := mkF 4 4 g_need_between
def g_is_letters : GS := (sRet (eAnd (eIsi fIsTup [] [] (eVar 1)) (eCB bAll (aCons (eLc [2] (fVal (eVar 1)) (bNm 2) (eC (.bl true)) (eCall F_is_between (aCons (eVar 2) (aCons (eC (.int 0)) (aCons (eBin bSub (eCB bLen (aCons (eFld ["Skin"] "row" (eVar 0)) aNil)) (eC (.int 1))) aNil))))) aNil))))
def F_is_letters : FN := mkF 2 3 g_is_letters
def g_is_word : GS := (sSeq (sDrop (eCall F_need_skin (aCons (eVar 0) aNil)))
    (sRet (eAnd (eCall F_is_letters (aCons (eVar 0) (aCons (eVar 1) aNil))) (eBin cLe (eCB bLen (aCons (eVar 1) aNil)) (eC (.int 200))))))
def F_is_word : FN := mkF 2 2 g_is_word
def g_need_word : GS := (sIf (eNot (eCall F_is_word (aCons (eVar 0) (aCons (eVar 1) aNil))))
    (sRaise "BadWord")
    sNil)
def F_need_word : FN := mkF 2 2 g_need_word
def g_gap_behind : GS := (sRet (eBin bMod (eBin bAdd (eBM 1 mIndexT (eVar 0) (aCons (eVar 1) aNil)) (eC (.int 1))) (eCB bLen (aCons (eVar 0) aNil))))
def F_gap_behind : FN := mkF 2 2 g_gap_behind
def g_walked : GS := (sSeq (sSet 3 (eC (.int 0)))
    (sSeq (sWhl (fun _ _ => 1000) (eAnd (eBin cLt (eVar 3) (eCB bLen (aCons (eVar 2) aNil))) (eBin (cIn false) (eBin ixO (eVar 2) (eVar 3)) (eTup (aCons (eBin ixO (eVar 0) (eVar 1)) (aCons (eBin ixO (eVar 0) (eBin bSub (eVar 1) (eC (.int 1)))) aNil)))))
    (sSeq (sSet 4 (eBin bXor (eBin ixO (eVar 2) (eVar 3)) (eC (.int 1))))
    (sSeq (sSet 1 (eIf (eBin cEq (eBin ixO (eVar 2) (eVar 3)) (eBin ixO (eVar 0) (eVar 1))) (eCall F_gap_behind (aCons (eVar 0) (aCons (eVar 4) aNil))) (eBM 1 mIndexT (eVar 0) (aCons (eVar 4) aNil))))
    (sAugI 3 (eC (.int 1))))))
    (sRet (eTup (aCons (eVar 1) (aCons (eSl (eVar 2) (oSome (eVar 3)) oNone) aNil))))))
def F_walked : FN := mkF 3 5 g_walked
def g_freed : GS := (sSeq (sSet 1 (eLst aNil))
    (sSeq (sFor (fVal (eVar 0)) (gNm 2)
    (sIf (eAnd (eBin cNe (eVar 1) (eLst aNil)) (eBin cEq (eBin ixO (eVar 1) (eNeg (eC (.int 1)))) (eBin bXor (eVar 2) (eC (.int 1)))))
    (sDrop (eBM0 0 mPop (eVar 1)))
    (sDrop (eBM 0 mAppend (eVar 1) (aCons (eVar 2) aNil)))))
    (sRet (eCB bTuple (aCons (eVar 1) aNil)))))
def F_freed : FN := mkF 1 3 g_freed
def g_undone_of : GS := (sRet (eCB bTuple (aCons (eLc [1] (fVal (eRev (eVar 0))) (bNm 1) (eC (.bl true)) (eBin bXor (eVar 1) (eC (.int 1)))) aNil)))
def F_undone_of : FN := mkF 1 2 g_undone_of
def g_end_between : GS := (sSeq (sPar 3 4 (aCons (eCB bMin (aCons (eVar 1) (aCons (eVar 2) aNil))) (aCons (eCB bMax (aCons (eVar 1) (aCons (eVar 2) aNil))) aNil)))
    (sSeq (sIf (eBin cEq (eVar 4) (eBin bAdd (eVar 3) (eC (.int 1))))
    (sRet (eBin ixO (eVar 0) (eVar 3)))
    sNil)
    (sRet (eIf (eBin cEq (eTup (aCons (eVar 3) (aCons (eVar 4) aNil))) (eTup (aCons (eC (.int 0)) (aCons (eBin bSub (eCB bLen (aCons (eVar 0) aNil)) (eC (.int 1))) aNil)))) (eBin ixO (eVar 0) (eVar 4)) (eC .non)))))
def F_end_between : FN := mkF 3 5 g_end_between
def g_plain_bridge : GS := (sSeq (sAsg (eCall F_walked (aCons (eVar 0) (aCons (eVar 1) (aCons (eCall F_freed (aCons (eVar 2) aNil)) aNil)))) (gTu 2 (gCo (gNm 1) (gCo (gNm 4) gNo))))
    (sSeq (sAsg (eCall F_walked (aCons (eVar 0) (aCons (eVar 3) (aCons (eCall F_undone_of (aCons (eVar 4) aNil)) aNil)))) (gTu 2 (gCo (gNm 3) (gCo (gNm 5) gNo))))
    (sSeq (sIf (eBin cNe (eVar 5) (eTup aNil))
    (sRet (eCB bMin (aCons (eTup (aCons (eVar 1) (aCons (eCall F_undone_of (aCons (eVar 5) aNil)) (aCons (eVar 3) aNil)))) (aCons (eTup (aCons (eVar 3) (aCons (eVar 5) (aCons (eVar 1) aNil)))) aNil))))
    sNil)
    (sSeq (sIf (eBin cEq (eVar 1) (eVar 3))
    (sRet (eC .non))
    sNil)
    (sSeq (sPar 6 7 (aCons (eTup (aCons (eCB bMin (aCons (eVar 1) (aCons (eVar 3) aNil))) (aCons (eTup aNil) (aCons (eCB bMax (aCons (eVar 1) (aCons (eVar 3) aNil))) aNil)))) (aCons (eCall F_end_between (aCons (eVar 0) (aCons (eVar 1) (aCons (eVar 3) aNil)))) aNil)))
    (sSeq (sIf (eBin (cIs false) (eVar 7) (eC .non))
    (sRet (eVar 6))
    sNil)
    (sSeq (sPar 8 9 (aCons (eBM 1 mIndexT (eVar 0) (aCons (eBin bXor (eVar 7) (eC (.int 1))) aNil)) (aCons (eCall F_gap_behind (aCons (eVar 0) (aCons (eBin bXor (eVar 7) (eC (.int 1))) aNil))) aNil)))
    (sRet (eCB bMin (aCons (eVar 6) (aCons (eTup (aCons (eCB bMin (aCons (eVar 8) (aCons (eVar 9) aNil))) (aCons (eTup aNil) (aCons (eCB bMax (aCons (eVar 8) (aCons (eVar 9) aNil))) aNil)))) aNil)))))))))))
def F_plain_bridge : FN := mkF 4 10 g_plain_bridge
def g_bridge_of : GS := (sSeq (sDrop (eCall F_need_bands (aCons (eVar 0) aNil)))
    (sSeq (sDrop (eCall F_need_between (aCons (eVar 1) (aCons (eC (.int 0)) (aCons (eBin bSub (eCB bLen (aCons (eFld ["Skin"] "row" (eVar 0)) aNil)) (eC (.int 1))) (aCons (eC (.str "start")) aNil))))))
    (sSeq (sDrop (eCall F_need_word (aCons (eVar 0) (aCons (eVar 2) aNil))))
    (sSeq (sDrop (eCall F_need_between (aCons (eVar 3) (aCons (eC (.int 0)) (aCons (eBin bSub (eCB bLen (aCons (eFld ["Skin"] "row" (eVar 0)) aNil)) (eC (.int 1))) (aCons (eC (.str "end")) aNil))))))
    (sRet (eCall F_plain_bridge (aCons (eFld ["Skin"] "row" (eVar 0)) (aCons (eVar 1) (aCons (eVar 2) (aCons (eVar 3) aNil))))))))))
def F_bridge_of : FN := mkF 4 4 g_bridge_of
def g__law_pick : GS := (sRet (eBin ixO (eVar 1) (eCall F__law_take (aCons (eVar 0) (aCons (eCB bLen (aCons (eVar 1) aNil)) aNil)))))
def F__law_pick : FN := mkF 2 2 g__law_pick
def g__law_walked : GS := (sSeq (sAsg (eVar 2) (gTu 3 (gCo (gNm 4) (gCo (gNm 5) (gCo (gNm 6) gNo)))))
    (sSeq (sFor (fRng1 (aCons (eCall F__law_pick (aCons (eVar 0) (aCons (eLst (aCons (eC (.int 0)) (aCons (eC (.int 1)) (aCons (eC (.int 6)) (aCons (eC (.int 20)) aNil))))) aNil))) aNil)) (gNm 7)
    (sSeq (sSet 8 (eCall F__law_pick (aCons (eVar 0) (aCons (eLst (aCons (eBin ixO (eVar 1) (eVar 4)) (aCons (eBin ixO (eVar 1) (eBin bSub (eVar 4) (eC (.int 1)))) aNil))) aNil))))
    (sSeq (sPar 9 10 (aCons (eCall F__law_walk (aCons (eVar 1) (aCons (eVar 4) (aCons (eVar 8) aNil)))) (aCons (eCall F__law_freed (aCons (eBin bAdd (eTup (aCons (eBin bXor (eVar 8) (eC (.int 1))) aNil)) (eVar 5)) aNil)) aNil)))
    (sSeq (sIf (eBin cLe (eCB bLen (aCons (eVar 10) aNil)) (eVar 3))
    (sPar 4 5 (aCons (eVar 9) (aCons (eVar 10) aNil)))
    sNil)
    (sIf (eBin cEq (eCall F__law_take (aCons (eVar 0) (aCons (eC (.int 2)) aNil))) (eC (.int 0)))
    (sPar3 4 5 6 (aCons (eVar 6) (aCons (eCall F__law_undone (aCons (eVar 5) aNil)) (aCons (eVar 4) aNil))))
    sNil)))))
    (sRet (eTup (aCons (eVar 4) (aCons (eVar 5) (aCons (eVar 6) aNil)))))))
def F__law_walked : FN := mkF 4 11 g__law_walked
def g__law_plain_fact : GS := (sSeq (sAsg (eVar 1) (gTu 3 (gCo (gNm 2) (gCo (gNm 3) (gCo (gNm 4) gNo)))))
    (sSeq (sIf (eBin cEq (eVar 3) (eTup aNil))
    (sRet (eBin cNe (eVar 2) (eVar 4)))
    sNil)
    (sSeq (sSet 5 (eLst (aCons (eBin ixO (eVar 0) (eVar 2)) (aCons (eBin ixO (eVar 0) (eBin bSub (eVar 2) (eC (.int 1)))) aNil))))
    (sRet (eAnd (eBin cEq (eCall F__law_freed (aCons (eVar 3) aNil)) (eVar 3)) (eAnd (eBin (cIn true) (eBin ixO (eVar 3) (eC (.int 0))) (eVar 5)) (eBin (cIn true) (eBin bXor (eBin ixO (eVar 3) (eBin bSub (eCB bLen (aCons (eVar 3) aNil)) (eC (.int 1)))) (eC (.int 1))) (eLst (aCons (eBin ixO (eVar 0) (eVar 4)) (aCons (eBin ixO (eVar 0) (eBin bSub (eVar 4) (eC (.int 1)))) aNil))))))))))
def F__law_plain_fact : FN := mkF 2 6 g__law_plain_fact
def g_is_tuple : GS := (sRet (eAnd (eIsi fIsTup [] [] (eVar 0)) (eBin cEq (eCB bLen (aCons (eVar 0) aNil)) (eVar 1))))
def F_is_tuple : FN := mkF 2 2 g_is_tuple
def g_is_bridge_of : GS := (sSeq (sIf (eOr (eNot (eCall F_is_tuple (aCons (eVar 1) (aCons (eC (.int 3)) aNil)))) (eNot (eCall F_is_letters (aCons (eVar 0) (aCons (eBin ixO (eVar 1) (eC (.int 1))) aNil)))))
    (sRet (eC (.bl false)))
    sNil)
    (sSeq (sIf (eNot (eCB bAll (aCons (eLc [3] (fVal (eTup (aCons (eBin ixO (eVar 1) (eC (.int 0))) (aCons (eBin ixO (eVar 1) (eC (.int 2))) aNil)))) (bNm 3) (eC (.bl true)) (eCall F_is_between (aCons (eVar 3) (aCons (eC (.int 0)) (aCons (eBin bSub (eCB bLen (aCons (eFld ["Skin"] "row" (eVar 0)) aNil)) (eC (.int 1))) aNil))))) aNil)))
    (sRet (eC (.bl false)))
    sNil)
    (sSeq (sIf (eAnd (eBin (cIs true) (eVar 2) (eC .non)) (eBin cGt (eCB bLen (aCons (eBin ixO (eVar 1) (eC (.int 1))) aNil)) (eVar 2)))
    (sRet (eC (.bl false)))
    sNil)
    (sRet (eBin cEq (eCall F_plain_bridge (aCons (eFld ["Skin"] "row" (eVar 0)) (aCons (eBin ixO (eVar 1) (eC (.int 0))) (aCons (eBin ixO (eVar 1) (eC (.int 1))) (aCons (eBin ixO (eVar 1) (eC (.int 2))) aNil))))) (eVar 1))))))
def F_is_bridge_of : FN := mkF 3 4 g_is_bridge_of
def g_is_bridge : GS := (sSeq (sDrop (eCall F_need_bands (aCons (eVar 0) aNil)))
    (sRet (eCallD F_is_bridge_of [.int 40] (aCons (eVar 0) (aCons (eVar 1) aNil)))))
def F_is_bridge : FN := mkF 2 2 g_is_bridge
def g_need_bridge : GS := (sIf (eNot (eCallD F_is_bridge_of [.int 40] (aCons (eVar 0) (aCons (eVar 1) aNil))))
    (sRaise "BadBridge")
    sNil)
def F_need_bridge : FN := mkF 2 2 g_need_bridge
def g_end_behind : GS := (sRet (eBin ixO (eVar 0) (eBin bMod (eBin bAdd (eBM 1 mIndexT (eVar 0) (aCons (eVar 1) aNil)) (eC (.int 1))) (eCB bLen (aCons (eVar 0) aNil)))))
def F_end_behind : FN := mkF 2 2 g_end_behind
def g_least_turn : GS := (sRet (eCB bMin (aCons (eLc [1] (fRng1 (aCons (eCB bMax (aCons (eC (.int 1)) (aCons (eCB bLen (aCons (eVar 0) aNil)) aNil))) aNil)) (bNm 1) (eC (.bl true)) (eBin bAdd (eSl (eVar 0) (oSome (eVar 1)) oNone) (eSl (eVar 0) oNone (oSome (eVar 1))))) aNil)))
def F_least_turn : FN := mkF 1 2 g_least_turn
def g_rims_of : GS := (sSeq (sPar 1 2 (aCons (eLst aNil) (aCons (eLst aNil) aNil)))
    (sSeq (sFor (fVal (eFld ["Skin"] "row" (eVar 0))) (gNm 3)
    (sSeq (sPar 4 5 (aCons (eLst aNil) (aCons (eVar 3) aNil)))
    (sSeq (sWhl (fun _ _ => 1000) (eBin (cIn true) (eVar 5) (eVar 2))
    (sSeq (sDrop (eBM 0 mAppend (eVar 2) (aCons (eVar 5) aNil)))
    (sSeq (sDrop (eBM 0 mAppend (eVar 4) (aCons (eVar 5) aNil)))
    (sSet 5 (eCall F_end_behind (aCons (eFld ["Skin"] "row" (eVar 0)) (aCons (eBin bXor (eVar 5) (eC (.int 1))) aNil)))))))
    (sIf (eBin cNe (eVar 4) (eLst aNil))
    (sDrop (eBM 0 mAppend (eVar 1) (aCons (eCall F_least_turn (aCons (eCB bTuple (aCons (eVar 4) aNil)) aNil)) aNil)))
    sNil))))
    (sRet (eCB bSorted (aCons (eVar 1) aNil)))))
def F_rims_of : FN := mkF 1 6 g_rims_of
def g_rims_at : GS := (sSeq (sDrop (eCall F_need_bands (aCons (eVar 0) aNil)))
    (sSeq (sDrop (eCall F_need_bridge (aCons (eVar 0) (aCons (eVar 1) aNil))))
    (sSeq (sSet 2 eDNew)
    (sSeq (sFor (fEnm (aCons (eCall F_rims_of (aCons (eVar 0) aNil)) aNil)) (gTu 2 (gCo (gNm 3) (gCo (gNm 4) gNo)))
    (sDrop (eBM 2 mUpdate (eVar 2) (aCons (eDc [5] (fVal (eVar 4)) (bNm 5) (eC (.bl true)) (eVar 5) (eVar 3)) aNil))))
    (sRet (eCB bTuple (aCons (eCB bSorted (aCons (eLc [6] (fVal (eTup (aCons (eBin ixO (eVar 1) (eC (.int 0))) (aCons (eBin ixO (eVar 1) (eC (.int 2))) aNil)))) (bNm 6) (eC (.bl true)) (eBin ixO (eVar 2) (eBin ixO (eFld ["Skin"] "row" (eVar 0)) (eVar 6)))) aNil)) aNil)))))))
def F_rims_at : FN := mkF 2 7 g_rims_at
def g__law_turn : GS := (sRet (eCB bMin (aCons (eLc [1] (fRng1 (aCons (eCB bMax (aCons (eC (.int 1)) (aCons (eCB bLen (aCons (eVar 0) aNil)) aNil))) aNil)) (bNm 1) (eC (.bl true)) (eBin bAdd (eSl (eVar 0) (oSome (eVar 1)) oNone) (eSl (eVar 0) oNone (oSome (eVar 1))))) aNil)))
def F__law_turn : FN := mkF 1 2 g__law_turn
def g__law_rims : GS := (sSeq (sPar 1 2 (aCons eDNew (aCons (eLst aNil) aNil)))
    (sSeq (sFor (fVal (eVar 0)) (gNm 3)
    (sSeq (sPar 4 5 (aCons (eTup aNil) (aCons (eVar 3) aNil)))
    (sSeq (sWhl (fun _ _ => 1000) (eBin (cIn true) (eVar 5) (eVar 1))
    (sSeq (sAsg (eC (.bl true)) (gSub (eVar 1) (eVar 5)))
    (sSeq (sSet 4 (eBin bAdd (eVar 4) (eTup (aCons (eVar 5) aNil))))
    (sSet 5 (eBin ixO (eVar 0) (eBin bMod (eCB bInt (aCons (eBin bAdd (eBM 1 mIndexT (eVar 0) (aCons (eBin bXor (eVar 5) (eC (.int 1))) aNil)) (eC (.int 1))) aNil)) (eCB bLen (aCons (eVar 0) aNil))))))))
    (sIf (eBin cNe (eVar 4) (eTup aNil))
    (sDrop (eBM 0 mAppend (eVar 2) (aCons (eCall F__law_turn (aCons (eVar 4) aNil)) aNil)))
    sNil))))
    (sRet (eVar 2))))
def F__law_rims : FN := mkF 1 6 g__law_rims
def g__law_rim_number : GS := (sSeq (sSet 2 (eCB bSorted (aCons (eCall F__law_rims (aCons (eVar 0) aNil)) aNil)))
    (sRet (eBin ixO (eLc [3, 4] (fEnm (aCons (eVar 2) aNil)) (bTu 2 (bsCons (bNm 3) (bsCons (bNm 4) bsNil))) (eBin (cIn false) (eBin ixO (eVar 0) (eVar 1)) (eVar 4)) (eVar 3)) (eC (.int 0)))))
def F__law_rim_number : FN := mkF 2 5 g__law_rim_number
def g__law_is_plain : GS := (sSeq (sIf (eOr (eNot (eIsi fIsTup [] [] (eVar 1))) (eOr (eBin cNe (eCB bLen (aCons (eVar 1) aNil)) (eC (.int 3))) (eOr (eNot (eIsi fIsTup [] [] (eBin ixO (eVar 1) (eC (.int 1))))) (eBin cGt (eCB bLen (aCons (eBin ixO (eVar 1) (eC (.int 1))) aNil)) (eC (.int 40))))))
    (sRet (eC (.bl false)))
    sNil)
    (sSeq (sFor (fVal (eBin bAdd (eTup (aCons (eBin ixO (eVar 1) (eC (.int 0))) (aCons (eBin ixO (eVar 1) (eC (.int 2))) aNil))) (eBin ixO (eVar 1) (eC (.int 1))))) (gNm 2)
    (sIf (eOr (eNot (eIsi fIsInt [] [] (eVar 2))) (eOr (eIsi fIsBool [] [] (eVar 2)) (eNot (eCh cLe cLt (eC (.int 0)) (eVar 2) (eCB bLen (aCons (eVar 0) aNil))))))
    (sRet (eC (.bl false)))
    sNil))
    (sRet (eBin cEq (eCall F__law_bridge (aCons (eVar 0) (aCons (eBin ixO (eVar 1) (eC (.int 0))) (aCons (eBin ixO (eVar 1) (eC (.int 1))) (aCons (eBin ixO (eVar 1) (eC (.int 2))) aNil))))) (eVar 1)))))
def F__law_is_plain : FN := mkF 2 3 g__law_is_plain
def g__law_judged : GS := (sSeq (sAsg (eVar 3) (gTu 3 (gCo (gNm 4) (gCo (gNm 5) (gCo (gNm 6) gNo)))))
    (sSeq (sSet 7 (eCB bLen (aCons (eVar 2) aNil)))
    (sSeq (sSet 8 (eLst (aCons (eVar 3) (aCons (eTup (aCons (eVar 6) (aCons (eCall F__law_undone (aCons (eVar 5) aNil)) (aCons (eVar 4) aNil)))) (aCons (eTup (aCons (eVar 4) (aCons (eVar 5) (aCons (eBin bMod (eCB bInt (aCons (eBin bAdd (eVar 6) (eC (.int 1))) aNil)) (eVar 7)) aNil)))) (aCons (eCB bList (aCons (eVar 3) aNil)) (aCons (eTup (aCons (eVar 4) (aCons (eCB bList (aCons (eVar 5) aNil)) (aCons (eVar 6) aNil)))) aNil)))))))
    (sSeq (sSet 8 (eBin bAdd (eVar 8) (eLst (aCons (eTup (aCons (eVar 4) (aCons (eVar 5) aNil))) (aCons (eTup (aCons (eVar 4) (aCons (eVar 5) (aCons (eVar 6) (aCons (eC (.int 0)) aNil))))) (aCons (eTup (aCons (eVar 7) (aCons (eVar 5) (aCons (eVar 6) aNil)))) (aCons (eTup (aCons (eVar 4) (aCons (eBin bAdd (eVar 5) (eTup (aCons (eC (.int 0)) (aCons (eC (.int 1)) aNil)))) (aCons (eVar 6) aNil)))) (aCons (eTup (aCons (eC (.bl true)) (aCons (eVar 5) (aCons (eVar 6) aNil)))) (aCons (eTup (aCons (eVar 4) (aCons (eVar 5) (aCons (eC .non) aNil)))) aNil)))))))))
    (sSeq (sSet 8 (eBin bAdd (eVar 8) (eLst (aCons (eCall F__law_walked (aCons (eVar 0) (aCons (eVar 2) (aCons (eVar 3) (aCons (eC (.int 60)) aNil))))) (aCons (eC .non) (aCons (eC (.int 5)) (aCons (eTup aNil) (aCons (eC (.str "bridge")) (aCons (eTup (aCons (eVar 4) (aCons (eVar 5) (aCons (eC (.bl true)) aNil)))) (aCons (eTup (aCons (eNeg (eC (.int 1))) (aCons (eVar 5) (aCons (eVar 6) aNil)))) (aCons (eTup (aCons (eVar 4) (aCons (eTup (aCons (eVar 7) aNil)) (aCons (eVar 6) aNil)))) aNil)))))))))))
    (sSeq (sFor (fVal (eVar 8)) (gNm 9)
    (sIf (eBin cNe (eCB bRepr (aCons (eCall F_is_bridge (aCons (eVar 1) (aCons (eVar 9) aNil))) aNil)) (eCB bRepr (aCons (eCall F__law_is_plain (aCons (eVar 2) (aCons (eVar 9) aNil))) aNil)))
    (sRet (eC (.bl false)))
    sNil))
    (sRet (eBin cEq (eCB bRepr (aCons (eCallR F_is_bridge (aCons (eVar 3) (aCons (eVar 1) aNil))) aNil)) (eCB bRepr (aCons (eBin cLe (eCB bLen (aCons (eVar 5) aNil)) (eC (.int 40))) aNil))))))))))
def F__law_judged : FN := mkF 4 10 g__law_judged
def g_is_list : GS := (sRet (eIsi fIsSeq [] [] (eVar 0)))
def F_is_list : FN := mkF 1 1 g_is_list
def g_is_sequence : GS := (sSeq (sIf (eOr (eNot (eCall F_is_list (aCons (eVar 0) aNil))) (eOr (eBin cNe (eCB bLen (aCons (eVar 0) aNil)) (eVar 1)) (eNot (eCB bAll (aCons (eLc [2] (fVal (eVar 0)) (bNm 2) (eC (.bl true)) (eCall F_is_between (aCons (eVar 2) (aCons (eC (.int 0)) (aCons (eBin bSub (eVar 1) (eC (.int 1))) aNil))))) aNil)))))
    (sRet (eC (.bl false)))
    sNil)
    (sRet (eBin cEq (eCB bSorted (aCons (eVar 0) aNil)) (eRgL (eC (.int 0)) (eVar 1)))))
def F_is_sequence : FN := mkF 2 3 g_is_sequence
def g_is_row : GS := (sSeq (sIf (eOr (eNot (eCall F_is_list (aCons (eVar 0) aNil))) (eOr (eNot (eCh cLe cLe (eC (.int 2)) (eCB bLen (aCons (eVar 0) aNil)) (eC (.int 12)))) (eBin cEq (eBin bMod (eCB bLen (aCons (eVar 0) aNil)) (eC (.int 2))) (eC (.int 1)))))
    (sRet (eC (.bl false)))
    sNil)
    (sRet (eCall F_is_sequence (aCons (eVar 0) (aCons (eCB bLen (aCons (eVar 0) aNil)) aNil)))))
def F_is_row : FN := mkF 1 1 g_is_row
def g_Skin : GS := (sSeq (sIf (eNot (eCall F_is_row (aCons (eVar 1) aNil)))
    (sRaise1 "BadSkin" "part" (eC (.str "row")))
    sNil)
    (sSeq (sSet 2 (eBM 0 mIndexL (eCB bList (aCons (eVar 1) aNil)) (aCons (eC (.int 0)) aNil)))
    (sSeq (sFld ["Skin"] "row" (eVar 0) (eBin bAdd (eCB bTuple (aCons (eSl (eVar 1) (oSome (eVar 2)) oNone) aNil)) (eCB bTuple (aCons (eSl (eVar 1) oNone (oSome (eVar 2))) aNil))))
    (sFld ["Skin"] "bands" (eVar 0) (eBin bDiv (eCB bLen (aCons (eVar 1) aNil)) (eC (.int 2)))))))
def F_Skin : FN := mkF 2 3 g_Skin
def g__law_refused : GS := (sSeq (sPar 3 4 (aCons (eCB bLen (aCons (eFld ["Skin"] "row" (eVar 1)) aNil)) (aCons (eMake "Skin" F_Skin (aCons (eTup (aCons (eC (.int 0)) (aCons (eC (.int 1)) aNil))) aNil)) aNil)))
    (sSeq (sAsg (eTup (aCons (eCall F__law_pick (aCons (eVar 0) (aCons (eLst (aCons (eC .non) (aCons (eC (.int 5)) (aCons (eC (.str "skin")) aNil)))) aNil))) (aCons (eCall F__law_pick (aCons (eVar 0) (aCons (eLst (aCons (eNeg (eC (.int 1))) (aCons (eVar 3) (aCons (eC .non) (aCons (eC (.bl true)) (aCons (eC (.str "0")) aNil)))))) aNil))) (aCons (eCall F__law_pick (aCons (eVar 0) (aCons (eLst (aCons (eC .non) (aCons (eLst (aCons (eC (.int 0)) aNil)) (aCons (eTup (aCons (eVar 3) aNil)) (aCons (eBin bMul (eTup (aCons (eC (.int 0)) aNil)) (eC (.int 201))) aNil))))) aNil))) aNil)))) (gTu 3 (gCo (gNm 5) (gCo (gNm 11) (gCo (gNm 10) gNo)))))
    (sSeq (sSet 12 (eCall F__law_pick (aCons (eVar 0) (aCons (eLst (aCons (eC .non) (aCons (eTup (aCons (eC (.int 0)) (aCons (eTup aNil) (aCons (eC (.int 0)) aNil)))) (aCons (eTup (aCons (eC (.int 0)) (aCons (eTup (aCons (eC (.int 0)) aNil)) aNil))) (aCons (eLst (aCons (eC (.int 0)) (aCons (eTup aNil) (aCons (eC (.int 2)) aNil)))) (aCons (eTup (aCons (eVar 3) (aCons (eTup aNil) (aCons (eC (.int 0)) aNil)))) aNil)))))) aNil))))
    (sSeq (sFor (fVal (eLst (aCons (eTup (aCons (eVar 5) (aCons (eC .non) aNil))) (aCons (eTup (aCons (eVar 4) (aCons (eC (.str "bands")) aNil))) aNil)))) (gTu 2 (gCo (gNm 13) (gCo (gNm 6) gNo)))
    (sChunk 7 8 9 cauCs (sIf (eOr (eNot (eIsi (fun _ => false) [] [("BadWord", false), ("BadNumber", false), ("BadSkin", true), ("BadBridge", false)] (eVar 9))) (eBin cNe (eCB bRepr (aCons (eXf ["BadNumber", "BadSkin"] "part" (eVar 9)) aNil)) (eCB bRepr (aCons (eVar 6) aNil))))
    (sRet (eC (.bl false)))
    sNil) [(eCall F_bridge_of (aCons (eVar 13) (aCons (eVar 11) (aCons (eVar 10) (aCons (eVar 11) aNil))))), (eCall F_is_bridge (aCons (eVar 13) (aCons (eVar 12) aNil))), (eCall F_rims_at (aCons (eVar 13) (aCons (eVar 12) aNil)))]))
    (sSeq (sSet 9 (eCau cauCs (eCall F_bridge_of (aCons (eVar 1) (aCons (eVar 11) (aCons (eVar 10) (aCons (eVar 11) aNil)))))))
    (sSeq (sIf (eOr (eNot (eIsi (fun _ => false) [] [("BadWord", false), ("BadNumber", true), ("BadSkin", false), ("BadBridge", false)] (eVar 9))) (eBin cNe (eXf ["BadNumber", "BadSkin"] "part" (eVar 9)) (eC (.str "start"))))
    (sRet (eC (.bl false)))
    sNil)
    (sSeq (sIf (eNot (eIsi (fun _ => false) [] [("BadWord", true), ("BadNumber", false), ("BadSkin", false), ("BadBridge", false)] (eCau cauCs (eCall F_bridge_of (aCons (eVar 1) (aCons (eC (.int 0)) (aCons (eVar 10) (aCons (eVar 11) aNil))))))))
    (sRet (eC (.bl false)))
    sNil)
    (sSeq (sSet 9 (eCau cauCs (eCall F_bridge_of (aCons (eVar 1) (aCons (eC (.int 0)) (aCons (eTup aNil) (aCons (eVar 11) aNil)))))))
    (sSeq (sIf (eOr (eNot (eIsi (fun _ => false) [] [("BadWord", false), ("BadNumber", true), ("BadSkin", false), ("BadBridge", false)] (eVar 9))) (eBin cNe (eXf ["BadNumber", "BadSkin"] "part" (eVar 9)) (eC (.str "end"))))
    (sRet (eC (.bl false)))
    sNil)
    (sRet (eIsi (fun _ => false) [] [("BadWord", false), ("BadNumber", false), ("BadSkin", false), ("BadBridge", true)] (eCau cauCs (eCall F_rims_at (aCons (eVar 1) (aCons (eVar 12) aNil)))))))))))))))
def F__law_refused : FN := mkF 3 14 g__law_refused
def g__law_one_right : GS := (sSeq (sSet 10 (eCall F__law_bridge (aCons (eVar 2) (aCons (eBin ixO (eVar 3) (eC (.int 0))) (aCons (eBin ixO (eVar 3) (eC (.int 1))) (aCons (eBin ixO (eVar 3) (eC (.int 2))) aNil))))))
    (sSeq (sSet 4 (eCall F_bridge_of (aCons (eVar 1) (aCons (eBin ixO (eVar 3) (eC (.int 0))) (aCons (eBin ixO (eVar 3) (eC (.int 1))) (aCons (eBin ixO (eVar 3) (eC (.int 2))) aNil))))))
    (sSeq (sIf (eBin cNe (eCB bRepr (aCons (eVar 4) aNil)) (eCB bRepr (aCons (eVar 10) aNil)))
    (sRet (eC (.bl false)))
    sNil)
    (sSeq (sFor (fRng1 (aCons (eC (.int 3)) aNil)) (gNm 5)
    (sSeq (sAsg (eCall F__law_walked (aCons (eVar 0) (aCons (eVar 2) (aCons (eVar 3) (aCons (eC (.int 200)) aNil))))) (gTu 3 (gCo (gNm 6) (gCo (gNm 7) (gCo (gNm 8) gNo)))))
    (sSeq (sIf (eBin cNe (eCB bRepr (aCons (eCallR F_bridge_of (aCons (eVar 8) (aCons (eVar 7) (aCons (eVar 6) (aCons (eVar 1) aNil))))) aNil)) (eCB bRepr (aCons (eVar 10) aNil)))
    (sRet (eC (.bl false)))
    sNil)
    (sIf (eAnd (eBin (cIs true) (eVar 10) (eC .non)) (eBin cNe (eCall F__law_plain_fact (aCons (eVar 2) (aCons (eTup (aCons (eVar 6) (aCons (eVar 7) (aCons (eVar 8) aNil)))) aNil))) (eBin cEq (eCB bLen (aCons (eVar 7) aNil)) (eCB bLen (aCons (eBin ixO (eVar 10) (eC (.int 1))) aNil)))))
    (sRet (eC (.bl false)))
    sNil))))
    (sSeq (sIf (eBin (cIs false) (eVar 10) (eC .non))
    (sRet (eC (.bl true)))
    sNil)
    (sSeq (sIf (eBin cGt (eCB bLen (aCons (eBin ixO (eVar 10) (eC (.int 1))) aNil)) (eC (.int 40)))
    (sRet (eAnd (eBin (cIs false) (eCall F_is_bridge (aCons (eVar 1) (aCons (eVar 10) aNil))) (eC (.bl false))) (eIsi (fun _ => false) [] [("BadWord", false), ("BadNumber", false), ("BadSkin", false), ("BadBridge", true)] (eCau cauCs (eCall F_rims_at (aCons (eVar 1) (aCons (eVar 10) aNil)))))))
    sNil)
    (sSeq (sSet 9 (eCB bTuple (aCons (eCB bSorted (aCons (eLst (aCons (eCall F__law_rim_number (aCons (eVar 2) (aCons (eBin ixO (eVar 10) (eC (.int 0))) aNil))) (aCons (eCall F__law_rim_number (aCons (eVar 2) (aCons (eBin ixO (eVar 10) (eC (.int 2))) aNil))) aNil))) aNil)) aNil)))
    (sSeq (sIf (eOr (eBin cNe (eCB bRepr (aCons (eCall F_rims_at (aCons (eVar 1) (aCons (eVar 10) aNil))) aNil)) (eCB bRepr (aCons (eVar 9) aNil))) (eBin cNe (eCB bRepr (aCons (eCallR F_rims_at (aCons (eVar 10) (aCons (eVar 1) aNil))) aNil)) (eCB bRepr (aCons (eVar 9) aNil))))
    (sRet (eC (.bl false)))
    sNil)
    (sRet (eAnd (eCall F__law_judged (aCons (eVar 0) (aCons (eVar 1) (aCons (eVar 2) (aCons (eVar 10) aNil))))) (eCall F__law_refused (aCons (eVar 0) (aCons (eVar 1) (aCons (eVar 10) aNil))))))))))))))
def F__law_one_right : FN := mkF 4 11 g__law_one_right
def g__law_word : GS := (sSeq (sSet 3 (eLst aNil))
    (sSeq (sFor (fRng1 (aCons (eVar 2) aNil)) (gNm 4)
    (sSeq (sSet 5 (eIf (eBin cGt (eVar 4) (eC (.int 0))) (eLst (aCons (eBin bXor (eBin ixO (eVar 3) (eBin bSub (eVar 4) (eC (.int 1)))) (eC (.int 1))) aNil)) (eLst aNil)))
    (sSeq (sIf (eAnd (eBin cEq (eVar 4) (eBin bSub (eVar 2) (eC (.int 1)))) (eBin cGt (eVar 4) (eC (.int 0))))
    (sSet 5 (eBin bAdd (eVar 5) (eLst (aCons (eBin bXor (eBin ixO (eVar 3) (eC (.int 0))) (eC (.int 1))) aNil))))
    sNil)
    (sSeq (sSet 6 (eLc [7] (fRng1 (aCons (eBin bMul (eC (.int 2)) (eVar 1)) aNil)) (bNm 7) (eBin (cIn true) (eVar 7) (eVar 5)) (eVar 7)))
    (sSeq (sIf (eBin cEq (eVar 6) (eLst aNil))
    (sRet (eCB bTuple (aCons (eVar 3) aNil)))
    sNil)
    (sDrop (eBM 0 mAppend (eVar 3) (aCons (eCall F__law_pick (aCons (eVar 0) (aCons (eVar 6) aNil))) aNil))))))))
    (sRet (eCB bTuple (aCons (eVar 3) aNil)))))
def F__law_word : FN := mkF 3 8 g__law_word
def g__law_triple : GS := (sSeq (sPar 3 4 (aCons (eCB bLen (aCons (eVar 1) aNil)) (aCons (eCall F__law_take (aCons (eVar 0) (aCons (eC (.int 6)) aNil))) aNil)))
    (sSeq (sPar 5 6 (aCons (eCall F__law_take (aCons (eVar 0) (aCons (eVar 3) aNil))) (aCons (eCall F__law_take (aCons (eVar 0) (aCons (eVar 3) aNil))) aNil)))
    (sSeq (sIf (eBin cEq (eVar 4) (eC (.int 0)))
    (sRet (eTup (aCons (eVar 5) (aCons (eTup aNil) (aCons (eVar 6) aNil)))))
    sNil)
    (sSeq (sIf (eBin cEq (eVar 4) (eC (.int 1)))
    (sRet (eCall F__law_walked (aCons (eVar 0) (aCons (eVar 1) (aCons (eTup (aCons (eVar 5) (aCons (eTup aNil) (aCons (eVar 5) aNil)))) (aCons (eC (.int 60)) aNil))))))
    sNil)
    (sSeq (sSet 7 (eCall F__law_pick (aCons (eVar 0) (aCons (eLst (aCons (eC (.int 1)) (aCons (eC (.int 3)) (aCons (eC (.int 8)) (aCons (eC (.int 20)) (aCons (eC (.int 39)) (aCons (eC (.int 40)) (aCons (eC (.int 41)) (aCons (eC (.int 42)) (aCons (eC (.int 150)) aNil)))))))))) aNil))))
    (sRet (eTup (aCons (eVar 5) (aCons (eCall F__law_word (aCons (eVar 0) (aCons (eVar 2) (aCons (eVar 7) aNil)))) (aCons (eVar 6) aNil))))))))))
def F__law_triple : FN := mkF 3 8 g__law_triple
def g_law : GS := (sSeq (sSet 1 (eCall F__law_begun (aCons (eVar 0) aNil)))
    (sSeq (sFor (fRng1 (aCons (eBin bAdd (eC (.int 2)) (eCB bMin (aCons (eCB bLen (aCons (eVar 0) aNil)) (aCons (eC (.int 3)) aNil)))) aNil)) (gNm 2)
    (sSeq (sSet 3 (eBin bAdd (eC (.int 2)) (eCall F__law_take (aCons (eVar 1) (aCons (eC (.int 5)) aNil)))))
    (sSeq (sSet 4 (eCall F__law_row (aCons (eVar 1) (aCons (eVar 3) aNil))))
    (sIf (eNot (eCall F__law_one_right (aCons (eVar 1) (aCons (eMake "Skin" F_Skin (aCons (eVar 4) aNil)) (aCons (eVar 4) (aCons (eCall F__law_triple (aCons (eVar 1) (aCons (eVar 4) (aCons (eVar 3) aNil)))) aNil))))))
    (sRet (eC (.bl false)))
    sNil))))
    (sRet (eC (.bl true)))))
def F_law : FN := mkF 1 5 g_law
end VI
end
section
set_option maxRecDepth 100000
/-! How plain functions are judged: what is wanted behind them. -/
namespace VI
open PySem

/-- the heap grows, old objects stay -/
structure Xt (a b : AH) : Prop where
  le : a.n ≤ b.n
  old : ∀ i, i < a.n → b.get i = a.get i
theorem Xt.refl (a : AH) : Xt a a := ⟨Nat.le_refl _, fun _ _ => rfl⟩
theorem Xt.trans {a b c : AH} (h : Xt a b) (g : Xt b c) : Xt a c := ⟨Nat.le_trans h.le g.le, fun i hi => (g.old i (Nat.lt_of_lt_of_le hi h.le)).trans (h.old i hi)⟩
theorem Xt.new (a : AH) (o : AO) : Xt a (a.new o) := ⟨Nat.le_succ _, fun i hi => by rw [AH.get_new, if_neg (Nat.ne_of_lt hi)]⟩
theorem Xt.put {a b : AH} (h : Xt a b) {i : Nat} (hi : a.n ≤ i) (o : AO) : Xt a (b.put i o) := ⟨h.le, fun j hj => by rw [AH.get_put, if_neg (Nat.ne_of_lt (Nat.lt_of_lt_of_le hj hi))]; exact h.old j hj⟩
/-- nothing, that leans on what is wanted: simp leaves that alone -/
def DQ {α : Type} (_ : α → AH → Prop) (_ : Str → List (Str × PV) → AH → Prop) : Type := Unit
/-- what is wanted of an outcome -/
def wR {α : Type} (r : R α) (Q : α → AH → Prop) (X : Str → List (Str × PV) → AH → Prop := fun _ _ _ => False) (_ : DQ Q X := ()) : Prop := match r with
  | .ok v a => Q v a
  | .er c fs a => X c fs a
  | .no => False
structure En where
  nx : Env → AH → Prop
  rt : PV → AH → Prop := fun _ _ => False
  bk : Env → AH → Prop := fun _ _ => False
  ct : Env → AH → Prop := fun _ _ => False
  er : Str → List (Str × PV) → Env → AH → Prop := fun _ _ _ _ => False
def DN (_ : En) : Type := Unit
def wS (o : RS) (D : En) (_ : DN D := ()) : Prop := match o with
  | .nx e a => D.nx e a
  | .rt v a => D.rt v a
  | .bk e a => D.bk e a
  | .ct e a => D.ct e a
  | .er c fs e a => D.er c fs e a
  | .no => False
theorem wR_mono {α : Type} {r : R α} {Q Q' : α → AH → Prop} {X X' : Str → List (Str × PV) → AH → Prop} (h : wR r Q X) (q : ∀ v a, Q v a → Q' v a) (x : ∀ c fs a, X c fs a → X' c fs a) : wR r Q' X' := by
  cases r with
  | ok v a => exact q v a h
  | er c fs a => exact x c fs a h
  | no => exact h
theorem wR_bind {α β : Type} {r : R α} {k : α → AH → R β} {Q : β → AH → Prop} {X : Str → List (Str × PV) → AH → Prop} (h : wR r (fun v a => wR (k v a) Q X) X) : wR (r.bind k) Q X := by
  cases r with
  | ok v a => exact h
  | er c fs a => exact h
  | no => exact h
theorem wS_xB {α : Type} {e : Env} {r : R α} {k : α → AH → RS} {D : En} (h : wR r (fun v a => wS (k v a) D) (fun c fs a => D.er c fs e a)) : wS (xB e r k) D := by
  cases r with
  | ok v a => exact h
  | er c fs a => exact h
  | no => exact h
theorem wS_seq {f g : GS} {e : Env} {a : AH} {D : En} (h : wS (f e a) { D with nx := fun e a => wS (g e a) D }) : wS (sSeq f g e a) D := by
  unfold sSeq
  cases q : f e a with
  | _ => rw [q] at h; exact h
theorem wS_mono {o : RS} {D D' : En} (h : wS o D) (h1 : ∀ e a, D.nx e a → D'.nx e a) (h2 : ∀ v a, D.rt v a → D'.rt v a) (h3 : ∀ e a, D.bk e a → D'.bk e a) (h4 : ∀ e a, D.ct e a → D'.ct e a) (h5 : ∀ c fs e a, D.er c fs e a → D'.er c fs e a) : wS o D' := by
  cases o with
  | nx e a => exact h1 _ _ h
  | rt v a => exact h2 _ _ h
  | bk e a => exact h3 _ _ h
  | ct e a => exact h4 _ _ h
  | er c fs e a => exact h5 _ _ _ _ h
  | no => exact h
/-- a def called: its body -/
theorem w_mkF {k n : Nat} {g : GS} {vs : List PV} {a : AH} {Q : PV → AH → Prop} {X : Str → List (Str × PV) → AH → Prop} (hk : vs.length = k) (h : wS (g (startE n vs) a) { nx := fun _ a => Q .non a, rt := Q, er := fun c fs _ a => X c fs a }) : wR (mkF k n g vs a) Q X := by
  unfold mkF
  rw [Tr.beq_nat, decide_eq_true hk]
  show wR (rsF (g (startE n vs) a)) Q X
  cases q : g (startE n vs) a with
  | _ => rw [q] at h; exact h
/-- a while loop: I m holds when at most m turns are left -/
theorem w_whl {c : FE} {body : GS} {D : En} (I : Nat → Env → AH → Prop)
    (turn : ∀ m e a, I m e a → wR (c e a) (fun v a1 => (v = .bl false ∧ D.nx e a1) ∨ (v = .bl true ∧ wS (body e a1) { nx := fun e2 a2 => ∃ j, j < m ∧ I j e2 a2, ct := fun e2 a2 => ∃ j, j < m ∧ I j e2 a2, bk := D.nx, rt := D.rt, er := D.er })) (fun c fs a => D.er c fs e a)) :
    ∀ (f m : Nat) (e : Env) (a : AH), m < f → I m e a → wS (whl c body f e a) D
  | 0, m, _, _, h, _ => absurd h (Nat.not_lt_zero m)
  | f + 1, m, e, a, h, i => by
    have t := turn m e a i
    refine wS_xB ?_
    refine wR_mono t (fun v a1 z => ?_) (fun _ _ _ z => z)
    rcases z with ⟨rfl, z⟩ | ⟨rfl, z⟩
    · exact z
    · have go : ∀ e2 a2, (∃ j, j < m ∧ I j e2 a2) → wS (whl c body f e2 a2) D := fun e2 a2 ⟨j, hj, ij⟩ => w_whl I turn f j e2 a2 (by omega) ij
      show wS (match body e a1 with | .nx e2 a2 => whl c body f e2 a2 | .ct e2 a2 => whl c body f e2 a2 | .bk e2 a2 => .nx e2 a2 | o => o) D
      cases q : body e a1 with
      | nx e2 a2 => rw [q] at z; exact go e2 a2 z
      | ct e2 a2 => rw [q] at z; exact go e2 a2 z
      | bk e2 a2 => rw [q] at z; exact z
      | rt v a2 => rw [q] at z; exact z
      | er c fs e2 a2 => rw [q] at z; exact z
      | no => rw [q] at z; exact z
/-- a loop over known values: I holds ahead of what is left -/
theorem w_seq {g : GT} {body : GS} {D : En} (I : List PV → Env → AH → Prop) (done : ∀ e a, I [] e a → D.nx e a)
    (turn : ∀ v l e a, I (v :: l) e a → wS ((g v e a).only) { nx := fun e1 a1 => wS (body e1 a1) { nx := I l, ct := I l, bk := D.nx, rt := D.rt, er := D.er }, er := D.er }) :
    ∀ (l : List PV) (f : Nat) (e : Env) (a : AH), l.length < f → I l e a → wS (forL g body f (.seq l) e a) D
  | _, 0, _, _, h, _ => absurd h (Nat.not_lt_zero _)
  | [], f + 1, e, a, _, i => done e a i
  | v :: l, f + 1, e, a, h, i => by
    have t := turn v l e a i
    show wS (((g v e a).only).seq fun e1 a1 => match body e1 a1 with | .nx e2 a2 => forL g body f (.seq l) e2 a2 | .ct e2 a2 => forL g body f (.seq l) e2 a2 | .bk e2 a2 => .nx e2 a2 | o => o) D
    cases q : (g v e a).only with
    | no => rw [q] at t; exact t
    | er c fs e1 a1 => rw [q] at t; exact t
    | rt v a => rw [q] at t; exact t.elim
    | bk e a => rw [q] at t; exact t.elim
    | ct e a => rw [q] at t; exact t.elim
    | nx e1 a1 =>
      rw [q] at t
      have t' : wS (body e1 a1) { nx := I l, ct := I l, bk := D.nx, rt := D.rt, er := D.er } := t
      have hl : l.length < f := by
        rw [List.length_cons] at h
        omega
      show wS (match body e1 a1 with | .nx e2 a2 => forL g body f (.seq l) e2 a2 | .ct e2 a2 => forL g body f (.seq l) e2 a2 | .bk e2 a2 => .nx e2 a2 | o => o) D
      cases q1 : body e1 a1 with
      | nx e2 a2 => rw [q1] at t'; exact w_seq I done turn l f e2 a2 hl t'
      | ct e2 a2 => rw [q1] at t'; exact w_seq I done turn l f e2 a2 hl t'
      | bk e2 a2 => rw [q1] at t'; exact t'
      | rt v a2 => rw [q1] at t'; exact t'
      | er c fs e2 a2 => rw [q1] at t'; exact t'
      | no => rw [q1] at t'; exact t'
end VI
end
section
set_option maxRecDepth 100000
/-! Comprehensions of pure parts. -/
namespace VI
open PySem

/-- what a pure comprehension over l gives -/
def pick2 (p : PV → Bool) (f : PV → PV) : List PV → List PV
  | [] => []
  | v :: l => match p v with
    | true => f v :: pick2 p f l
    | false => pick2 p f l
theorem pick2_len (p : PV → Bool) (f : PV → PV) : ∀ l : List PV, (pick2 p f l).length ≤ l.length
  | [] => Nat.le_refl _
  | v :: l => by
    have ih := pick2_len p f l
    unfold pick2
    cases p v with
    | true => simpa using ih
    | false => exact Nat.le_succ_of_le ih
theorem pick2_all {p : PV → Bool} {f : PV → PV} : ∀ {l : List PV}, (∀ v ∈ l, p v = true) → pick2 p f l = l.map f
  | [], _ => rfl
  | v :: l, h => by
    unfold pick2
    rw [h v List.mem_cons_self, pick2_all fun w hw => h w (List.mem_cons_of_mem _ hw)] <;> rfl
/-- the parts are pure behind a0 -/
structure LcP (b : BT) (ft fe : FE) (e : Env) (a0 : AH) (p : PV → Bool) (f : PV → PV) (v : PV) : Prop where
  ex : ∀ a, Xt a0 a → ∃ e1 a1, b v e = some e1 ∧ ft e1 a = .ok (.bl (p v)) a1 ∧ Xt a a1 ∧ (p v = true → ∃ a2, fe e1 a1 = .ok (f v) a2 ∧ Xt a1 a2)
theorem lc_pure {b : BT} {ft fe : FE} {e : Env} {a0 : AH} {p : PV → Bool} {f : PV → PV} {d : Nat} (hd : a0.n ≤ d) : ∀ (l acc : List PV) (k : Nat) (a : AH), l.length < k → (∀ v ∈ l, LcP b ft fe e a0 p f v) → Xt a0 a → d < a.n → a.get d = some (.lst acc) → acc.length + l.length ≤ LIM →
    ∃ a', lcL b ft fe d k (.seq l) e a = some a' ∧ Xt a0 a' ∧ a.n ≤ a'.n ∧ a'.get d = some (.lst (acc ++ pick2 p f l)) ∧ ∀ i, i < a.n → i ≠ d → a'.get i = a.get i
  | _, _, 0, _, h, _, _, _, _, _ => absurd h (Nat.not_lt_zero _)
  | [], acc, k + 1, a, _, _, x, dn, g, _ => ⟨a, rfl, x, Nat.le_refl _, by rw [g]; simp [pick2], fun _ _ _ => rfl⟩
  | v :: l, acc, k + 1, a, h, hp, x, dn, g, hl => by
    obtain ⟨e1, a1, h1, h2, x1, h3⟩ := (hp v List.mem_cons_self).ex a x
    have hk : l.length < k := by
      rw [List.length_cons] at h
      omega
    have hp' : ∀ w ∈ l, LcP b ft fe e a0 p f w := fun w hw => hp w (List.mem_cons_of_mem _ hw)
    show ∃ a', (match b v e with | none => none | some e1 => (match ft e1 a with | .ok (.bl true) a1 => (match fe e1 a1 with | .ok u a2 => (match a2.get d with | some (.lst l0) => (match Nat.blt l0.length LIM with | true => lcL b ft fe d k (.seq l) e (a2.put d (.lst (l0 ++ [u]))) | false => none) | _ => none) | _ => none) | .ok (.bl false) a1 => lcL b ft fe d k (.seq l) e a1 | _ => none)) = some a' ∧ _
    rw [h1]
    show ∃ a', (match ft e1 a with | .ok (.bl true) a1 => (match fe e1 a1 with | .ok u a2 => (match a2.get d with | some (.lst l0) => (match Nat.blt l0.length LIM with | true => lcL b ft fe d k (.seq l) e (a2.put d (.lst (l0 ++ [u]))) | false => none) | _ => none) | _ => none) | .ok (.bl false) a1 => lcL b ft fe d k (.seq l) e a1 | _ => none) = some a' ∧ _
    rw [h2]
    cases hv : p v with
    | false =>
      obtain ⟨a', r1, r2, r3, r4, r5⟩ := lc_pure hd l acc k a1 hk hp' (x.trans x1) (Nat.lt_of_lt_of_le dn x1.le) (by rw [x1.old d dn]; exact g) (by rw [List.length_cons] at hl; omega)
      refine ⟨a', r1, r2, Nat.le_trans x1.le r3, ?_, fun i hi ne => by rw [r5 i (Nat.lt_of_lt_of_le hi x1.le) ne, x1.old i hi]⟩
      rw [r4]
      simp [pick2, hv]
    | true =>
      obtain ⟨a2, h4, x2⟩ := h3 hv
      have x12 := x1.trans x2
      show ∃ a', (match fe e1 a1 with | .ok u a2 => (match a2.get d with | some (.lst l0) => (match Nat.blt l0.length LIM with | true => lcL b ft fe d k (.seq l) e (a2.put d (.lst (l0 ++ [u]))) | false => none) | _ => none) | _ => none) = some a' ∧ _
      rw [h4]
      show ∃ a', (match a2.get d with | some (.lst l0) => (match Nat.blt l0.length LIM with | true => lcL b ft fe d k (.seq l) e (a2.put d (.lst (l0 ++ [f v]))) | false => none) | _ => none) = some a' ∧ _
      have g2 : a2.get d = some (.lst acc) := by
        rw [x12.old d dn]
        exact g
      rw [g2]
      have hb : Nat.blt acc.length LIM = true := by
        rw [List.length_cons] at hl
        exact Nat.ble_eq_true_of_le (by omega)
      show ∃ a', (match Nat.blt acc.length LIM with | true => lcL b ft fe d k (.seq l) e (a2.put d (.lst (acc ++ [f v]))) | false => none) = some a' ∧ _
      rw [hb]
      obtain ⟨a', r1, r2, r3, r4, r5⟩ := lc_pure hd l (acc ++ [f v]) k (a2.put d (.lst (acc ++ [f v]))) hk hp' ((x.trans x12).put hd _) (Nat.lt_of_lt_of_le dn x12.le) (by rw [AH.get_put, if_pos rfl]) (by rw [List.length_append, List.length_singleton]; rw [List.length_cons] at hl; omega)
      refine ⟨a', r1, r2, Nat.le_trans x12.le r3, ?_, fun i hi ne => ?_⟩
      · rw [r4]
        simp [pick2, hv]
      · rw [r5 i (Nat.lt_of_lt_of_le hi x12.le) ne, AH.get_put, if_neg ne, x12.old i hi]
end VI
end
section
set_option maxRecDepth 100000
/-! The first plain laws. -/
namespace VI
open PySem

theorem lc_tup {vs : List Nat} {b : BT} {ft fe : FE} {fi : FE} {e : Env} {a a1 : AH} {l : List PV} {p : PV → Bool} {f : PV → PV} (h : fi e a = .ok (.tup l) a1) (x : Xt a a1) (hp : ∀ v ∈ l, LcP b ft fe (wipeE e vs) a1 p f v) (hl : l.length ≤ LIM) :
    ∃ a', eLc vs (fVal fi) b ft fe e a = .ok (.ref a1.n) a' ∧ Xt a1 a' ∧ a1.n < a'.n ∧ a'.get a1.n = some (.lst (pick2 p f l)) := by
  have g0 : (a1.new (.lst [])).get a1.n = some (.lst []) := by
    rw [AH.get_new, if_pos rfl]
  obtain ⟨a', r1, r2, r3, r4, _⟩ := lc_pure (d := a1.n) (Nat.le_refl _) l [] (l.length + 1) (a1.new (.lst [])) (Nat.lt_succ_self _) hp (Xt.new a1 _) (Nat.lt_succ_self _) g0 (by simpa using hl)
  refine ⟨a', ?_, r2, Nat.lt_of_lt_of_le (Nat.lt_succ_self _) r3, by simpa using r4⟩
  have e1 : fVal fi e a = .ok (.seq l) a1 := by
    unfold fVal
    rw [h] <;> rfl
  unfold eLc
  rw [e1]
  show (match lcL b ft fe a1.n (turns a1 (.seq l)) (.seq l) (wipeE e vs) (a1.new (.lst [])) with | some a2 => R.ok (PV.ref a1.n) a2 | none => .no) = _
  rw [show turns a1 (.seq l) = l.length + 1 from rfl, r1]
theorem bTuple_ref {a : AH} {i : Nat} {l : List PV} (h : a.get i = some (.lst l)) : bTuple [.ref i] a = some (.tup l, a) := by
  simp [bTuple, h]
/-- the other end of a letter's band -/
def x1 (i : Int) : Int := Builtin.bitXor i 1
def iw (w : List Int) : List PV := w.map PV.int
def und (w : List Int) : List Int := w.reverse.map x1
theorem iw_len (w : List Int) : (iw w).length = w.length := List.length_map _
theorem iw_mem {w : List Int} {v : PV} (h : v ∈ iw w) : ∃ i ∈ w, v = .int i := by
  obtain ⟨i, hi, e⟩ := List.mem_map.mp h
  exact ⟨i, hi, e.symm⟩
def fX1 : PV → PV
  | .int i => .int (x1 i)
  | v => v
theorem und_ok (w : List Int) (hw : w.length ≤ LIM) (a : AH) : ∃ a', F__law_undone [.tup (iw w)] a = .ok (.tup (iw (und w))) a' ∧ Xt a a' := by
  have h1 : eRev (eVar 0) (startE 2 [.tup (iw w)]) a = .ok (.tup (iw w).reverse) a := rfl
  obtain ⟨a', r1, r2, r3, r4⟩ := lc_tup (vs := [1]) (b := bNm 1) (ft := eC (.bl true)) (fe := eBin bXor (eVar 1) (eC (.int 1))) (p := fun _ => true) (f := fX1) h1 (Xt.refl a) (fun v hv => ⟨fun a2 _ => by
    obtain ⟨i, _, rfl⟩ := iw_mem (List.mem_reverse.mp hv)
    exact ⟨_, a2, rfl, rfl, .refl _, fun _ => ⟨a2, rfl, .refl _⟩⟩⟩) (by rw [List.length_reverse, iw_len]; exact hw)
  refine ⟨a', ?_, r2⟩
  have e2 : pick2 (fun _ => true) fX1 (iw w).reverse = iw (und w) := by
    rw [pick2_all (fun _ _ => rfl)]
    unfold iw und
    rw [← List.map_reverse, List.map_map, List.map_map] <;> rfl
  rw [e2] at r4
  show rsF (g__law_undone (startE 2 [.tup (iw w)]) a) = _
  unfold g__law_undone sRet eCB aCons
  rw [r1]
  show rsF (xB _ ((R.ok [PV.ref a.n] a').bind fun vs a1 => lf (bTuple vs a1)) fun v a1 => .rt v a1) = _
  show rsF (xB _ (lf (bTuple [PV.ref a.n] a')) fun v a1 => .rt v a1) = _
  rw [bTuple_ref r4] <;> rfl
theorem und_ok2 (w : List Int) (hw : w.length ≤ LIM) (a : AH) : ∃ a', F_undone_of [.tup (iw w)] a = .ok (.tup (iw (und w))) a' ∧ Xt a a' := und_ok w hw a
end VI
end
section
set_option maxRecDepth 100000
/-! Plain data of words. -/
namespace VI
open PySem PyProof.Rows

theorem mapO_iw (a : AH) (f : Nat) : ∀ w : List Int, mapO (toD a (f + 1)) (iw w) = some (w.map PyData.int)
  | [] => rfl
  | i :: w => by
    have ih := mapO_iw a f w
    have e : iw (i :: w) = .int i :: iw w := rfl
    have e1 : toD a (f + 1) (.int i) = some (.int i) := by
      unfold toD
      rfl
    rw [e]
    unfold mapO
    rw [e1, ih] <;> rfl
theorem toD_tup (a : AH) (f : Nat) (w : List Int) : toD a (f + 2) (.tup (iw w)) = some (.tuple (w.map PyData.int)) := by
  unfold toD
  show (mapO (toD a (f + 1)) (iw w)).map PyData.tuple = _
  rw [mapO_iw] <;> rfl
theorem toD_lst {a : AH} {i : Nat} {w : List Int} (f : Nat) (h : a.get i = some (.lst (iw w))) : toD a (f + 2) (.ref i) = some (.list (w.map PyData.int)) := by
  unfold toD
  show (match a.get i with | some (.lst l) => (mapO (toD a (f + 1)) l).map PyData.list | _ => none) = _
  rw [h]
  show (mapO (toD a (f + 1)) (iw w)).map PyData.list = _
  rw [mapO_iw] <;> rfl
theorem eqvAll_ints : ∀ w u : List Int, PyData.eqvAll (w.map PyData.int) (u.map PyData.int) = decide (w = u)
  | [], [] => by simp [PyData.eqvAll]
  | [], _ :: _ => by simp [PyData.eqvAll]
  | _ :: _, [] => by simp [PyData.eqvAll]
  | i :: w, j :: u => by
    rw [List.map_cons, List.map_cons, PyData.eqvAll, eqvAll_ints w u]
    by_cases h : i = j
    · subst h
      simp [PyData.eqv]
    · simp [PyData.eqv, h]
theorem cNe_lst {a : AH} {i j : Nat} {w u : List Int} (h : a.get i = some (.lst (iw w))) (g : a.get j = some (.lst (iw u))) : cNe (.ref i) (.ref j) a = some (.bl (!decide (w = u)), a) := by
  unfold cNe
  rw [show DEP = 18 + 2 from rfl, toD_lst 18 h, toD_lst 18 g]
  show some (PV.bl (!PyData.eqv (.list (w.map PyData.int)) (.list (u.map PyData.int))), a) = _
  rw [PyData.eqv, eqvAll_ints]
theorem cNe_tup {a : AH} {w u : List Int} : cNe (.tup (iw w)) (.tup (iw u)) a = some (.bl (!decide (w = u)), a) := by
  unfold cNe
  rw [show DEP = 18 + 2 from rfl, toD_tup, toD_tup]
  show some (PV.bl (!PyData.eqv (.tuple (w.map PyData.int)) (.tuple (u.map PyData.int))), a) = _
  rw [PyData.eqv, eqvAll_ints]
theorem cEq_tup {a : AH} {w u : List Int} : cEq (.tup (iw w)) (.tup (iw u)) a = some (.bl (decide (w = u)), a) := by
  unfold cEq
  rw [show DEP = 18 + 2 from rfl, toD_tup, toD_tup]
  show some (PV.bl (PyData.eqv (.tuple (w.map PyData.int)) (.tuple (u.map PyData.int))), a) = _
  rw [PyData.eqv, eqvAll_ints]
theorem cEq_int {a : AH} {i j : Int} : cEq (.int i) (.int j) a = some (.bl (decide (i = j)), a) := by
  have e : ∀ n : Int, toD a DEP (.int n) = some (.int n) := fun n => by
    rw [show DEP = 19 + 1 from rfl]
    unfold toD
    rfl
  unfold cEq
  rw [e, e]
  show some (PV.bl (PyData.eqv (.int i) (.int j)), a) = _
  rw [PyData.eqv]
  by_cases h : i = j
  · simp [h]
  · simp [h]
end VI
end
section
set_option maxRecDepth 100000
/-! Freed words. -/
namespace VI
open PySem PyProof.Rows

/-- one letter more -/
def frS (l : List Int) (i : Int) : List Int := match l.getLast? with
  | some j => if j = x1 i then l.dropLast else l ++ [i]
  | none => [i]
def frd (w : List Int) : List Int := w.foldl frS []
theorem iw_app (w u : List Int) : iw (w ++ u) = iw w ++ iw u := List.map_append
theorem iw_dl (w : List Int) : iw w.dropLast = (iw w).dropLast := by
  unfold iw
  rw [List.map_dropLast]
theorem atN_last {w : List Int} {j : Int} (h : w.getLast? = some j) : atN (iw w) ((iw w).length - 1) = some (.int j) := by
  rw [atN_is, ← List.getLast?_eq_getElem?]
  unfold iw
  rw [List.getLast?_map, h] <;> rfl
theorem mPop0 {a : AH} {i : Nat} {w : List Int} {j : Int} (h : a.get i = some (.lst (iw w))) (g : w.getLast? = some j) : mPop (.ref i) [] a = some (.int j, a.put i (.lst (iw w.dropLast))) := by
  unfold mPop
  show (match a.get i with | some (.lst l) => (match atN l (l.length - 1) with | some u => some (u, a.put i (.lst l.dropLast)) | none => none) | _ => none) = _
  rw [h]
  show (match atN (iw w) ((iw w).length - 1) with | some u => some (u, a.put i (.lst (iw w).dropLast)) | none => none) = _
  rw [atN_last g, ← iw_dl] <;> rfl
theorem mApp {a : AH} {i : Nat} {w : List Int} {j : Int} (h : a.get i = some (.lst (iw w))) (g : w.length < LIM) : mAppend (.ref i) [.int j] a = some (.non, a.put i (.lst (iw (w ++ [j])))) := by
  unfold mAppend
  show (match a.get i with | some (.lst l) => (match Nat.blt l.length LIM with | true => some (PV.non, a.put i (.lst (l ++ [PV.int j]))) | false => none) | _ => none) = _
  rw [h]
  show (match Nat.blt (iw w).length LIM with | true => some (PV.non, a.put i (.lst (iw w ++ [PV.int j]))) | false => none) = _
  rw [iw_len, show Nat.blt w.length LIM = true from Nat.ble_eq_true_of_le g, iw_app] <;> rfl
end VI
end
section
set_option maxRecDepth 100000
namespace VI
open PySem PyProof.Rows
theorem ev_var {e : Env} {a : AH} {i : Nat} {v : PV} (h : slot e i = some v) : eVar i e a = .ok v a := by
  unfold eVar
  rw [h]
theorem ev_bin {g : PV → PV → AH → Option (PV × AH)} {fa fb : FE} {e : Env} {a a1 a2 a3 : AH} {v u w : PV} (h1 : fa e a = .ok v a1) (h2 : fb e a1 = .ok u a2) (h3 : g v u a2 = some (w, a3)) : eBin g fa fb e a = .ok w a3 := by
  unfold eBin
  rw [h1]
  show (fb e a1).bind (fun u a2 => lf (g v u a2)) = _
  rw [h2]
  show lf (g v u a2) = _
  rw [h3] <;> rfl
theorem ev_and_f {fa fb : FE} {e : Env} {a a1 : AH} (h1 : fa e a = .ok (.bl false) a1) : eAnd fa fb e a = .ok (.bl false) a1 := by
  unfold eAnd
  rw [h1] <;> rfl
theorem ev_and_t {fa fb : FE} {e : Env} {a a1 : AH} (h1 : fa e a = .ok (.bl true) a1) : eAnd fa fb e a = fb e a1 := by
  unfold eAnd
  rw [h1] <;> rfl
theorem ev_lst0 {e : Env} {a : AH} : eLst aNil e a = .ok (.ref a.n) (a.new (.lst [])) := rfl
theorem s_if_t {ft : FE} {f g : GS} {e : Env} {a a1 : AH} (h : ft e a = .ok (.bl true) a1) : sIf ft f g e a = f e a1 := by
  unfold sIf
  rw [h] <;> rfl
theorem s_if_f {ft : FE} {f g : GS} {e : Env} {a a1 : AH} (h : ft e a = .ok (.bl false) a1) : sIf ft f g e a = g e a1 := by
  unfold sIf
  rw [h] <;> rfl
theorem s_drop {f : FE} {e : Env} {a a1 : AH} {v : PV} (h : f e a = .ok v a1) : sDrop f e a = .nx e a1 := by
  unfold sDrop
  rw [h] <;> rfl
theorem ev_bm0 {f : PV → List PV → AH → Option (PV × AH)} {fo : FE} {T : Nat} {e : Env} {a a1 a2 : AH} {v w : PV} (h1 : fo e a = .ok v a1) (h2 : isT T v a1 = true) (h3 : f v [] a1 = some (w, a2)) : eBM0 T f fo e a = .ok w a2 := by
  unfold eBM0
  rw [h1]
  show (match isT T v a1 with | true => lf (f v [] a1) | false => .no) = _
  rw [h2, h3] <;> rfl
theorem ev_bm {f : PV → List PV → AH → Option (PV × AH)} {fo : FE} {fs : FA} {T : Nat} {e : Env} {a a1 a2 a3 : AH} {v w : PV} {vs : List PV} (h1 : fo e a = .ok v a1) (h2 : isT T v a1 = true) (h3 : fs e a1 = .ok vs a2) (h4 : f v vs a2 = some (w, a3)) : eBM T f fo fs e a = .ok w a3 := by
  unfold eBM
  rw [h1]
  show (match isT T v a1 with | true => (fs e a1).bind (fun vs a2 => lf (f v vs a2)) | false => .no) = _
  rw [h2]
  show (fs e a1).bind (fun vs a2 => lf (f v vs a2)) = _
  rw [h3]
  show lf (f v vs a2) = _
  rw [h4] <;> rfl
theorem ev_cons {fa : FE} {fr : FA} {e : Env} {a a1 a2 : AH} {v : PV} {vs : List PV} (h1 : fa e a = .ok v a1) (h2 : fr e a1 = .ok vs a2) : aCons fa fr e a = .ok (v :: vs) a2 := by
  unfold aCons
  rw [h1]
  show (fr e a1).bind (fun vs a2 => R.ok (v :: vs) a2) = _
  rw [h2] <;> rfl
theorem ev_nil {e : Env} {a : AH} : aNil e a = .ok [] a := rfl
theorem ev_cb {f : List PV → AH → Option (PV × AH)} {fs : FA} {e : Env} {a a1 a2 : AH} {w : PV} {vs : List PV} (h1 : fs e a = .ok vs a1) (h2 : f vs a1 = some (w, a2)) : eCB f fs e a = .ok w a2 := by
  unfold eCB
  rw [h1]
  show lf (f vs a1) = _
  rw [h2] <;> rfl
theorem ev_call {F : FN} {fs : FA} {e : Env} {a a1 a2 : AH} {w : PV} {vs : List PV} (h1 : fs e a = .ok vs a1) (h2 : F vs a1 = .ok w a2) : eCall F fs e a = .ok w a2 := by
  unfold eCall
  rw [h1]
  exact h2
theorem ev_tup {fs : FA} {e : Env} {a a1 : AH} {vs : List PV} (h1 : fs e a = .ok vs a1) (h2 : vs.length ≤ LIM) : eTup fs e a = .ok (.tup vs) a1 := by
  unfold eTup
  rw [h1]
  show (if vs.length ≤ LIM then R.ok (PV.tup vs) a1 else .no) = _
  rw [if_pos h2]
theorem ev_lst {fs : FA} {e : Env} {a a1 : AH} {vs : List PV} (h1 : fs e a = .ok vs a1) (h2 : vs.length ≤ LIM) : eLst fs e a = .ok (.ref a1.n) (a1.new (.lst vs)) := by
  unfold eLst
  rw [h1]
  show (if vs.length ≤ LIM then R.ok (PV.ref a1.n) (a1.new (.lst vs)) else .no) = _
  rw [if_pos h2]
theorem s_set {f : FE} {e : Env} {a a1 : AH} {i : Nat} {v : PV} (h : f e a = .ok v a1) : sSet i f e a = .nx (put e i v) a1 := by
  unfold sSet
  rw [h] <;> rfl
theorem s_par {f : FA} {e : Env} {a a1 : AH} {i j : Nat} {v w : PV} (h : f e a = .ok [v, w] a1) : sPar i j f e a = .nx (put (put e i v) j w) a1 := by
  unfold sPar
  rw [h] <;> rfl
theorem s_ret {f : FE} {e : Env} {a a1 : AH} {v : PV} (h : f e a = .ok v a1) : sRet f e a = .rt v a1 := by
  unfold sRet
  rw [h] <;> rfl
theorem s_seq {f g : GS} {e e1 : Env} {a a1 : AH} (h : f e a = .nx e1 a1) : sSeq f g e a = g e1 a1 := by
  unfold sSeq
  rw [h] <;> rfl
theorem s_seq_rt {f g : GS} {e : Env} {a a1 : AH} {v : PV} (h : f e a = .rt v a1) : sSeq f g e a = .rt v a1 := by
  unfold sSeq
  rw [h] <;> rfl
end VI
end
section
set_option maxRecDepth 100000
/-! Places of words. -/
namespace VI
open PySem PyProof.Rows

theorem at_iw {w : List Int} {k : Nat} {j : Int} (h : w[k]? = some j) : L2.atI (iw w) (k : Int) = some (.int j) := by
  have hk : k < w.length := (List.getElem?_eq_some_iff.mp h).1
  unfold L2.atI L2.ixN
  rw [iw_len, if_pos (Int.natCast_nonneg k), if_pos (by omega)]
  show (iw w)[(k : Int).toNat]? = _
  rw [Int.toNat_natCast]
  unfold iw
  rw [List.getElem?_map, h] <;> rfl
theorem at_last {w : List Int} {j : Int} (h : w.getLast? = some j) : L2.atI (iw w) ((w.length : Int) - 1) = some (.int j) := by
  rw [List.getLast?_eq_getElem?] at h
  have hk : w.length - 1 < w.length := (List.getElem?_eq_some_iff.mp h).1
  have e : ((w.length : Int) - 1) = ((w.length - 1 : Nat) : Int) := by omega
  rw [e]
  exact at_iw h
theorem at_neg1 {w : List Int} {j : Int} (h : w.getLast? = some j) : L2.atI (iw w) (-1) = some (.int j) := by
  rw [List.getLast?_eq_getElem?] at h
  have hk : w.length - 1 < w.length := (List.getElem?_eq_some_iff.mp h).1
  unfold L2.atI L2.ixN
  rw [iw_len, if_neg (by omega), if_pos (by omega)]
  show (iw w)[((-1 : Int) + w.length).toNat]? = _
  have e : ((-1 : Int) + w.length).toNat = w.length - 1 := by omega
  rw [e]
  unfold iw
  rw [List.getElem?_map, h] <;> rfl
theorem ix_lst {a : AH} {d : Nat} {w : List Int} {i : Int} {v : PV} (h : a.get d = some (.lst (iw w))) (g : L2.atI (iw w) i = some v) : ixO (.ref d) (.int i) a = some (v, a) := by
  unfold ixO
  show (match a.get d with | some (.lst l) => (match (PV.int i) with | .int i => (L2.atI l i).map fun w => (w, a) | _ => none) | some (.dct kvs) => (match keyOf (PV.int i) with | some q => (dlook kvs q).map fun w => (w, a) | none => none) | _ => none) = _
  rw [h]
  show (L2.atI (iw w) i).map (fun w => (w, a)) = _
  rw [g] <;> rfl
theorem ix_tup {a : AH} {w : List Int} {i : Int} {v : PV} (g : L2.atI (iw w) i = some v) : ixO (.tup (iw w)) (.int i) a = some (v, a) := by
  unfold ixO
  show (L2.atI (iw w) i).map (fun w => (w, a)) = _
  rw [g] <;> rfl
theorem len_lst {a : AH} {d : Nat} {w : List Int} (h : a.get d = some (.lst (iw w))) : bLen [.ref d] a = some (.int w.length, a) := by
  simp [bLen, h, iw_len]
theorem len_tup {a : AH} {w : List Int} : bLen [.tup (iw w)] a = some (.int w.length, a) := by
  simp [bLen, iw_len]
end VI
end
section
set_option maxRecDepth 100000
/-! The freeing loops. -/
namespace VI
open PySem PyProof.Rows

/-- one step of a freeing loop: the list at d -/
structure FrStep (body : GS) : Prop where
  st : ∀ (e : Env) (a : AH) (d : Nat) (acc : List Int) (i : Int), slot e 1 = some (.ref d) → slot e 2 = some (.int i) → a.get d = some (.lst (iw acc)) → d < a.n → acc.length < LIM →
    ∃ a', body e a = .nx e a' ∧ a.n ≤ a'.n ∧ a'.get d = some (.lst (iw (frS acc i))) ∧ ∀ k, k < a.n → k ≠ d → a'.get k = a.get k
theorem xor1 {e : Env} {a : AH} {k : Nat} {i : Int} (h : slot e k = some (.int i)) : eBin bXor (eVar k) (eC (.int 1)) e a = .ok (.int (x1 i)) a := ev_bin (ev_var h) rfl rfl
theorem fr_law : FrStep (sIf (eAnd (eBin cNe (eVar 1) (eLst aNil)) (eBin cEq (eBin ixO (eVar 1) (eBin bSub (eCB bLen (aCons (eVar 1) aNil)) (eC (.int 1)))) (eBin bXor (eVar 2) (eC (.int 1)))))
    (sDrop (eBM0 0 mPop (eVar 1))) (sDrop (eBM 0 mAppend (eVar 1) (aCons (eVar 2) aNil)))) := by
  refine ⟨fun e a d acc i h1 h2 h3 h4 h5 => ?_⟩
  have nd : d ≠ a.n := Nat.ne_of_lt h4
  have g3 : (a.new (.lst [])).get d = some (.lst (iw acc)) := by
    rw [AH.get_new, if_neg nd]
    exact h3
  have g4 : (a.new (.lst [])).get a.n = some (.lst (iw [])) := by
    rw [AH.get_new, if_pos rfl] <;> rfl
  have c1 : eBin cNe (eVar 1) (eLst aNil) e a = .ok (.bl (!decide (acc = []))) (a.new (.lst [])) := ev_bin (ev_var h1) ev_lst0 (cNe_lst g3 g4)
  have ty : isT 0 (.ref d) (a.new (.lst [])) = true := by
    simp [isT, g3]
  have old : ∀ (o : AO) (k : Nat), k < a.n → k ≠ d → ((a.new (.lst [])).put d o).get k = a.get k := fun o k hk ne => by
    rw [AH.get_put, if_neg ne, AH.get_new, if_neg (Nat.ne_of_lt hk)]
  have app : sDrop (eBM 0 mAppend (eVar 1) (aCons (eVar 2) aNil)) e (a.new (.lst [])) = .nx e ((a.new (.lst [])).put d (.lst (iw (acc ++ [i])))) := s_drop (ev_bm (ev_var h1) ty (ev_cons (ev_var h2) ev_nil) (mApp g3 h5))
  cases q : acc.getLast? with
  | none =>
    have e0 : acc = [] := List.getLast?_eq_none_iff.mp q
    rw [e0] at c1
    refine ⟨_, (s_if_f (ev_and_f c1)).trans app, Nat.le_succ _, ?_, old _⟩
    rw [AH.get_put, if_pos rfl, e0] <;> rfl
  | some j =>
    have ne : acc ≠ [] := fun z => by
      rw [z] at q
      cases q
    have c1' : eBin cNe (eVar 1) (eLst aNil) e a = .ok (.bl true) (a.new (.lst [])) := by
      rw [c1, decide_eq_false ne] <;> rfl
    have cl : eBin bSub (eCB bLen (aCons (eVar 1) aNil)) (eC (.int 1)) e (a.new (.lst [])) = .ok (.int ((acc.length : Int) - 1)) (a.new (.lst [])) := ev_bin (ev_cb (ev_cons (ev_var h1) ev_nil) (len_lst g3)) rfl rfl
    have cx : eBin ixO (eVar 1) (eBin bSub (eCB bLen (aCons (eVar 1) aNil)) (eC (.int 1))) e (a.new (.lst [])) = .ok (.int j) (a.new (.lst [])) := ev_bin (ev_var h1) cl (ix_lst g3 (at_last q))
    have c2 : eBin cEq (eBin ixO (eVar 1) (eBin bSub (eCB bLen (aCons (eVar 1) aNil)) (eC (.int 1)))) (eBin bXor (eVar 2) (eC (.int 1))) e (a.new (.lst [])) = .ok (.bl (decide (j = x1 i))) (a.new (.lst [])) := ev_bin cx (xor1 h2) cEq_int
    have ct := (ev_and_t (fb := eBin cEq (eBin ixO (eVar 1) (eBin bSub (eCB bLen (aCons (eVar 1) aNil)) (eC (.int 1)))) (eBin bXor (eVar 2) (eC (.int 1)))) c1').trans c2
    by_cases hj : j = x1 i
    · rw [decide_eq_true hj] at ct
      refine ⟨_, (s_if_t ct).trans (s_drop (ev_bm0 (ev_var h1) ty (mPop0 g3 q))), Nat.le_succ _, ?_, old _⟩
      rw [AH.get_put, if_pos rfl]
      unfold frS
      rw [q]
      show _ = some (AO.lst (iw (if j = x1 i then acc.dropLast else acc ++ [i])))
      rw [if_pos hj]
    · rw [decide_eq_false hj] at ct
      refine ⟨_, (s_if_f ct).trans app, Nat.le_succ _, ?_, old _⟩
      rw [AH.get_put, if_pos rfl]
      unfold frS
      rw [q]
      show _ = some (AO.lst (iw (if j = x1 i then acc.dropLast else acc ++ [i])))
      rw [if_neg hj]
theorem fr_prog : FrStep (sIf (eAnd (eBin cNe (eVar 1) (eLst aNil)) (eBin cEq (eBin ixO (eVar 1) (eNeg (eC (.int 1)))) (eBin bXor (eVar 2) (eC (.int 1)))))
    (sDrop (eBM0 0 mPop (eVar 1))) (sDrop (eBM 0 mAppend (eVar 1) (aCons (eVar 2) aNil)))) := by
  refine ⟨fun e a d acc i h1 h2 h3 h4 h5 => ?_⟩
  have nd : d ≠ a.n := Nat.ne_of_lt h4
  have g3 : (a.new (.lst [])).get d = some (.lst (iw acc)) := by
    rw [AH.get_new, if_neg nd]
    exact h3
  have g4 : (a.new (.lst [])).get a.n = some (.lst (iw [])) := by
    rw [AH.get_new, if_pos rfl] <;> rfl
  have c1 : eBin cNe (eVar 1) (eLst aNil) e a = .ok (.bl (!decide (acc = []))) (a.new (.lst [])) := ev_bin (ev_var h1) ev_lst0 (cNe_lst g3 g4)
  have ty : isT 0 (.ref d) (a.new (.lst [])) = true := by
    simp [isT, g3]
  have old : ∀ (o : AO) (k : Nat), k < a.n → k ≠ d → ((a.new (.lst [])).put d o).get k = a.get k := fun o k hk ne => by
    rw [AH.get_put, if_neg ne, AH.get_new, if_neg (Nat.ne_of_lt hk)]
  have app : sDrop (eBM 0 mAppend (eVar 1) (aCons (eVar 2) aNil)) e (a.new (.lst [])) = .nx e ((a.new (.lst [])).put d (.lst (iw (acc ++ [i])))) := s_drop (ev_bm (ev_var h1) ty (ev_cons (ev_var h2) ev_nil) (mApp g3 h5))
  cases q : acc.getLast? with
  | none =>
    have e0 : acc = [] := List.getLast?_eq_none_iff.mp q
    rw [e0] at c1
    refine ⟨_, (s_if_f (ev_and_f c1)).trans app, Nat.le_succ _, ?_, old _⟩
    rw [AH.get_put, if_pos rfl, e0] <;> rfl
  | some j =>
    have ne : acc ≠ [] := fun z => by
      rw [z] at q
      cases q
    have c1' : eBin cNe (eVar 1) (eLst aNil) e a = .ok (.bl true) (a.new (.lst [])) := by
      rw [c1, decide_eq_false ne] <;> rfl
    have cx : eBin ixO (eVar 1) (eNeg (eC (.int 1))) e (a.new (.lst [])) = .ok (.int j) (a.new (.lst [])) := ev_bin (ev_var h1) (show eNeg (eC (.int 1)) e (a.new (.lst [])) = .ok (.int (-1)) (a.new (.lst [])) from rfl) (ix_lst g3 (at_neg1 q))
    have c2 : eBin cEq (eBin ixO (eVar 1) (eNeg (eC (.int 1)))) (eBin bXor (eVar 2) (eC (.int 1))) e (a.new (.lst [])) = .ok (.bl (decide (j = x1 i))) (a.new (.lst [])) := ev_bin cx (xor1 h2) cEq_int
    have ct := (ev_and_t (fb := eBin cEq (eBin ixO (eVar 1) (eNeg (eC (.int 1)))) (eBin bXor (eVar 2) (eC (.int 1)))) c1').trans c2
    by_cases hj : j = x1 i
    · rw [decide_eq_true hj] at ct
      refine ⟨_, (s_if_t ct).trans (s_drop (ev_bm0 (ev_var h1) ty (mPop0 g3 q))), Nat.le_succ _, ?_, old _⟩
      rw [AH.get_put, if_pos rfl]
      unfold frS
      rw [q]
      show _ = some (AO.lst (iw (if j = x1 i then acc.dropLast else acc ++ [i])))
      rw [if_pos hj]
    · rw [decide_eq_false hj] at ct
      refine ⟨_, (s_if_f ct).trans app, Nat.le_succ _, ?_, old _⟩
      rw [AH.get_put, if_pos rfl]
      unfold frS
      rw [q]
      show _ = some (AO.lst (iw (if j = x1 i then acc.dropLast else acc ++ [i])))
      rw [if_neg hj]
/-- the loop -/
theorem frS_len (l : List Int) (i : Int) : (frS l i).length ≤ l.length + 1 := by
  unfold frS
  cases l.getLast? with
  | none => simp
  | some j =>
    show (if j = x1 i then l.dropLast else l ++ [i]).length ≤ _
    split
    · rw [List.length_dropLast]; omega
    · simp
theorem fr_loop {body : GS} (B : FrStep body) {x : PV} (d : Nat) : ∀ (w acc : List Int) (k : Nat) (a : AH) (o : Option PV), w.length < k → a.get d = some (.lst (iw acc)) → d < a.n → acc.length + w.length < LIM →
    ∃ a' o', forL (gNm 2) body k (.seq (iw w)) [some x, some (.ref d), o] a = .nx [some x, some (.ref d), o'] a' ∧ a.n ≤ a'.n ∧ a'.get d = some (.lst (iw (w.foldl frS acc))) ∧ ∀ k, k < a.n → k ≠ d → a'.get k = a.get k
  | _, _, 0, _, _, h, _, _, _ => absurd h (Nat.not_lt_zero _)
  | [], acc, k + 1, a, o, _, g, _, _ => ⟨a, o, rfl, Nat.le_refl _, g, fun _ _ _ => rfl⟩
  | i :: w, acc, k + 1, a, o, h, g, hd, hl => by
    obtain ⟨a1, b1, b2, b3, b4⟩ := B.st [some x, some (.ref d), some (.int i)] a d acc i rfl rfl g hd (by rw [List.length_cons] at hl; omega)
    have hs := frS_len acc i
    obtain ⟨a2, o2, c1, c2, c3, c4⟩ := fr_loop B d w (frS acc i) k a1 (some (.int i)) (by rw [List.length_cons] at h; omega) b3 (Nat.lt_of_lt_of_le hd b2) (by rw [List.length_cons] at hl; omega)
    refine ⟨a2, o2, ?_, Nat.le_trans b2 c2, c3, fun j hj ne => by rw [c4 j (Nat.lt_of_lt_of_le hj b2) ne, b4 j hj ne]⟩
    show (match body [some x, some (.ref d), some (.int i)] a with | .nx e2 a2 => forL (gNm 2) body k (.seq (iw w)) e2 a2 | .ct e2 a2 => forL (gNm 2) body k (.seq (iw w)) e2 a2 | .bk e2 a2 => .nx e2 a2 | o => o) = _
    rw [b1]
    exact c1
theorem fr_fin {body : GS} (B : FrStep body) (w : List Int) (hw : w.length < LIM) (a : AH) : ∃ a', mkF 1 3 (sSeq (sSet 1 (eLst aNil)) (sSeq (sFor (fVal (eVar 0)) (gNm 2) body) (sRet (eCB bTuple (aCons (eVar 1) aNil))))) [.tup (iw w)] a = .ok (.tup (iw (frd w))) a' ∧ Xt a a' := by
  have g0 : (a.new (.lst [])).get a.n = some (.lst (iw [])) := by
    rw [AH.get_new, if_pos rfl] <;> rfl
  obtain ⟨a', o', c1, c2, c3, c4⟩ := fr_loop B (x := .tup (iw w)) a.n w [] (w.length + 1) (a.new (.lst [])) none (Nat.lt_succ_self _) g0 (Nat.lt_succ_self _) (by simpa using hw)
  refine ⟨a', ?_, ⟨Nat.le_trans (Nat.le_succ _) c2, fun i hi => by rw [c4 i (Nat.lt_succ_of_lt hi) (Nat.ne_of_lt hi), AH.get_new, if_neg (Nat.ne_of_lt hi)]⟩⟩
  show rsF (sSeq (sFor (fVal (eVar 0)) (gNm 2) body) (sRet (eCB bTuple (aCons (eVar 1) aNil))) [some (.tup (iw w)), some (.ref a.n), none] (a.new (.lst []))) = _
  have cf : sFor (fVal (eVar 0)) (gNm 2) body [some (.tup (iw w)), some (.ref a.n), none] (a.new (.lst [])) = .nx [some (.tup (iw w)), some (.ref a.n), o'] a' := by
    show forL (gNm 2) body ((iw w).length + 1) (.seq (iw w)) _ _ = _
    rw [iw_len]
    exact c1
  rw [s_seq cf, s_ret (ev_cb (ev_cons (ev_var rfl) ev_nil) (bTuple_ref c3))]
  rfl
theorem frd_ok (w : List Int) (hw : w.length < LIM) (a : AH) : ∃ a', F__law_freed [.tup (iw w)] a = .ok (.tup (iw (frd w))) a' ∧ Xt a a' := fr_fin fr_law w hw a
theorem frd_ok2 (w : List Int) (hw : w.length < LIM) (a : AH) : ∃ a', F_freed [.tup (iw w)] a = .ok (.tup (iw (frd w))) a' ∧ Xt a a' := fr_fin fr_prog w hw a
end VI
end
section
set_option maxRecDepth 100000
/-! Rows. -/
namespace VI
open PySem PyProof.Rows

theorem allInt_iw : ∀ w : List Int, allInt (iw w) = some w
  | [] => rfl
  | i :: w => by
    have ih := allInt_iw w
    show (match allInt (iw w) with | some bs => some (i :: bs) | none => none) = _
    rw [ih]
theorem idx_tup {a : AH} {row : List Int} {j : Int} (h : j ∈ row) : mIndexT (.tup (iw row)) [.int j] a = some (.int (row.idxOf j : Nat), a) := by
  have hc : row.contains j = true := by simpa using h
  show (match allInt (iw row) with | some ns => (match ns.contains j with | true => some (PV.int (ns.idxOf j : Nat), a) | false => none) | none => none) = _
  rw [allInt_iw]
  show (match row.contains j with | true => some (PV.int (row.idxOf j : Nat), a) | false => none) = _
  rw [hc]
/-- row.index(x) -/
theorem ev_idx {e : Env} {a : AH} {fo fx : FE} {row : List Int} {j : Int} (h1 : fo e a = .ok (.tup (iw row)) a) (h2 : fx e a = .ok (.int j) a) (h : j ∈ row) : eBM 1 mIndexT fo (aCons fx aNil) e a = .ok (.int (row.idxOf j : Nat)) a :=
  ev_bm h1 rfl (ev_cons h2 ev_nil) (idx_tup h)
/-- the end ahead of a gap, the end behind it -/
def prv (n g : Nat) : Nat := if g = 0 then n - 1 else g - 1
theorem at_prv {row : List Int} {g : Nat} {c : Int} (hg : g < row.length) (h : row[prv row.length g]? = some c) : L2.atI (iw row) ((g : Int) - 1) = some (.int c) := by
  unfold prv at h
  by_cases z : g = 0
  · rw [if_pos z] at h
    rw [z]
    exact at_neg1 (by rw [List.getLast?_eq_getElem?]; exact h)
  · rw [if_neg z] at h
    have e : ((g : Int) - 1) = ((g - 1 : Nat) : Int) := by omega
    rw [e]
    exact at_iw h
/-- a step along the rim -/
def wk (row : List Int) (g : Nat) (c : Int) : Option Nat := if row[g]? = some c then some ((row.idxOf (x1 c) + 1) % row.length) else if row[prv row.length g]? = some c then some (row.idxOf (x1 c)) else none
def ofN : Option Nat → PV
  | some g => .int (g : Nat)
  | none => .non
theorem wk_ok {row : List Int} {g : Nat} {c : Int} (hg : g < row.length) (hc : x1 c ∈ row) (a : AH) : F__law_walk [.tup (iw row), .int g, .int c] a = .ok (ofN (wk row g c)) a := by
  have hn : 0 < row.length := Nat.lt_of_le_of_lt (Nat.zero_le _) hg
  obtain ⟨u, hu⟩ : ∃ u, row[g]? = some u := ⟨row[g], List.getElem?_eq_getElem hg⟩
  have hp : prv row.length g < row.length := by
    unfold prv
    split <;> omega
  obtain ⟨v, hv⟩ : ∃ v, row[prv row.length g]? = some v := ⟨row[prv row.length g], List.getElem?_eq_getElem hp⟩
  show rsF (g__law_walk [some (.tup (iw row)), some (.int g), some (.int c), none] a) = _
  unfold g__law_walk
  have e1 := ev_idx (e := [some (.tup (iw row)), some (.int g), some (.int c), none]) (a := a) (ev_var (i := 0) rfl) (xor1 (k := 2) rfl) hc
  rw [s_seq (s_set e1)]
  show rsF (sSeq _ _ [some (.tup (iw row)), some (.int g), some (.int c), some (.int (row.idxOf (x1 c) : Nat))] a) = _
  have ct : eBin cEq (eVar 2) (eBin ixO (eVar 0) (eVar 1)) [some (.tup (iw row)), some (.int g), some (.int c), some (.int (row.idxOf (x1 c) : Nat))] a = .ok (.bl (decide (c = u))) a := ev_bin (ev_var rfl) (ev_bin (ev_var rfl) (ev_var rfl) (ix_tup (at_iw hu))) cEq_int
  unfold wk
  rw [hu, hv]
  by_cases h : c = u
  · rw [decide_eq_true h] at ct
    have em : eBin bMod (eCB bInt (aCons (eBin bAdd (eVar 3) (eC (.int 1))) aNil)) (eCB bLen (aCons (eVar 0) aNil)) [some (.tup (iw row)), some (.int g), some (.int c), some (.int (row.idxOf (x1 c) : Nat))] a = .ok (.int (((row.idxOf (x1 c) : Nat) + 1 : Int) % row.length)) a := by
      refine ev_bin (ev_cb (ev_cons (ev_bin (ev_var rfl) rfl rfl) ev_nil) rfl) (ev_cb (ev_cons (ev_var rfl) ev_nil) len_tup) ?_
      show (match decide ((0 : Int) < row.length) with | true => some (PV.int _, a) | false => none) = _
      rw [decide_eq_true (by omega)]
    rw [s_seq_rt ((s_if_t ct).trans (s_ret em)), if_pos (by rw [h])]
    show R.ok _ a = R.ok (PV.int ((((row.idxOf (x1 c) + 1) % row.length : Nat) : Int))) a
    rw [Int.natCast_emod] <;> rfl
  · rw [decide_eq_false h] at ct
    have e0 : sIf (eBin cEq (eVar 2) (eBin ixO (eVar 0) (eVar 1))) (sRet (eBin bMod (eCB bInt (aCons (eBin bAdd (eVar 3) (eC (.int 1))) aNil)) (eCB bLen (aCons (eVar 0) aNil)))) sNil [some (.tup (iw row)), some (.int g), some (.int c), some (.int (row.idxOf (x1 c) : Nat))] a = .nx [some (.tup (iw row)), some (.int g), some (.int c), some (.int (row.idxOf (x1 c) : Nat))] a := s_if_f ct
    rw [s_seq e0, if_neg (by intro z; exact h (Option.some.inj z).symm)]
    have cv : eBin cEq (eVar 2) (eBin ixO (eVar 0) (eBin bSub (eVar 1) (eC (.int 1)))) [some (.tup (iw row)), some (.int g), some (.int c), some (.int (row.idxOf (x1 c) : Nat))] a = .ok (.bl (decide (c = v))) a := ev_bin (ev_var rfl) (ev_bin (ev_var rfl) (ev_bin (ev_var rfl) rfl rfl) (ix_tup (at_prv hg hv))) cEq_int
    have fin : eIf (eBin cEq (eVar 2) (eBin ixO (eVar 0) (eBin bSub (eVar 1) (eC (.int 1))))) (eVar 3) (eC .non) [some (.tup (iw row)), some (.int g), some (.int c), some (.int (row.idxOf (x1 c) : Nat))] a = .ok (ofN (if some v = some c then some (row.idxOf (x1 c)) else none)) a := by
      unfold eIf
      rw [cv]
      by_cases hvc : c = v
      · rw [decide_eq_true hvc, if_pos (by rw [hvc])] <;> rfl
      · rw [decide_eq_false hvc, if_neg (by intro z; exact hvc (Option.some.inj z).symm)] <;> rfl
    rw [s_ret fin] <;> rfl
end VI
end
section
set_option maxRecDepth 100000
/-! Walks along rims. -/
namespace VI
open PySem PyProof.Rows

theorem mod_nat {a : AH} {k n : Nat} (hn : 0 < n) : bMod (.int ((k : Int) + 1)) (.int n) a = some (.int (((k + 1) % n : Nat) : Int), a) := by
  show (match decide ((0 : Int) < n) with | true => some (PV.int (((k : Int) + 1) % n), a) | false => none) = _
  rw [decide_eq_true (by omega)]
  show some (PV.int (((k : Int) + 1) % n), a) = _
  rw [Int.natCast_emod] <;> rfl
theorem gb_ok {row : List Int} {c : Int} (hc : c ∈ row) (a : AH) : F_gap_behind [.tup (iw row), .int c] a = .ok (.int (((row.idxOf c + 1) % row.length : Nat) : Int)) a := by
  have hn : 0 < row.length := List.length_pos_of_mem hc
  show rsF (g_gap_behind [some (.tup (iw row)), some (.int c)] a) = _
  unfold g_gap_behind
  rw [s_ret (ev_bin (ev_bin (ev_idx (ev_var rfl) (ev_var rfl) hc) rfl rfl) (ev_cb (ev_cons (ev_var rfl) ev_nil) len_tup) (mod_nat hn))]
  rfl
/-- a letter's way along the rim, as far as it goes -/
def wkd (row : List Int) : Nat → List Int → Nat × List Int
  | g, [] => (g, [])
  | g, c :: w => match wk row g c with
    | some h => wkd row h w
    | none => (g, c :: w)
theorem toD_int (a : AH) (c : Int) : toD a DEP (.int c) = some (.int c) := by
  rw [show DEP = 19 + 1 from rfl]
  unfold toD
  rfl
theorem any_int (c : Int) : ∀ w : List Int, ((w.map PyData.int).any fun y => PyData.eqv y (.int c)) = decide (c ∈ w)
  | [] => by simp
  | i :: w => by
    rw [List.map_cons, List.any_cons, any_int c w]
    by_cases h : c = i
    · subst h
      simp [PyData.eqv]
    · have h' : ¬ i = c := fun z => h z.symm
      simp [PyData.eqv, h, h']
theorem in_tup {b : Bool} {a : AH} {c : Int} {w : List Int} : cIn b (.int c) (.tup (iw w)) a = some (.bl (Bool.xor b (decide (c ∈ w))), a) := by
  show inD b (.int c) (.tup (iw w)) a = _
  unfold inD
  rw [toD_int, show DEP = 18 + 2 from rfl, toD_tup]
  show some (PV.bl (Bool.xor b ((w.map PyData.int).any fun y => PyData.eqv y (.int c))), a) = _
  rw [any_int]
end VI
end
section
set_option maxRecDepth 100000
/-! walked: the program's walk. -/
namespace VI
open PySem PyProof.Rows

theorem wk_lt {row : List Int} {g h : Nat} {c : Int} (hc : x1 c ∈ row) (e : wk row g c = some h) : h < row.length := by
  have hn : 0 < row.length := List.length_pos_of_mem hc
  unfold wk at e
  split at e
  · cases e
    exact Nat.mod_lt _ hn
  · split at e
    · cases e
      exact List.idxOf_lt_length_of_mem hc
    · cases e
/-- letters of a row: each has its other end there -/
def Lets (row w : List Int) : Prop := ∀ c ∈ w, x1 c ∈ row
theorem pair_iw (u v : Int) : ([.int u, .int v] : List PV) = iw [u, v] := rfl
/-- the walk's test, its body -/
abbrev wT : FE := eAnd (eBin cLt (eVar 3) (eCB bLen (aCons (eVar 2) aNil))) (eBin (cIn false) (eBin ixO (eVar 2) (eVar 3)) (eTup (aCons (eBin ixO (eVar 0) (eVar 1)) (aCons (eBin ixO (eVar 0) (eBin bSub (eVar 1) (eC (.int 1)))) aNil))))
abbrev wB : GS := sSeq (sSet 4 (eBin bXor (eBin ixO (eVar 2) (eVar 3)) (eC (.int 1)))) (sSeq (sSet 1 (eIf (eBin cEq (eBin ixO (eVar 2) (eVar 3)) (eBin ixO (eVar 0) (eVar 1))) (eCall F_gap_behind (aCons (eVar 0) (aCons (eVar 4) aNil))) (eBM 1 mIndexT (eVar 0) (aCons (eVar 4) aNil)))) (sAugI 3 (eC (.int 1))))
theorem wT_end {row w : List Int} {g : Nat} {o : Option PV} (a : AH) : wT [some (.tup (iw row)), some (.int g), some (.tup (iw w)), some (.int w.length), o] a = .ok (.bl false) a := by
  refine ev_and_f ?_
  refine ev_bin (ev_var rfl) (ev_cb (ev_cons (ev_var rfl) ev_nil) len_tup) ?_
  show some (PV.bl (decide ((w.length : Int) < w.length)), a) = _
  rw [decide_eq_false (by omega)]
theorem wT_at {row w : List Int} {g k : Nat} {c : Int} {o : Option PV} (hg : g < row.length) (hc : w[k]? = some c) (hx : x1 c ∈ row) (a : AH) : wT [some (.tup (iw row)), some (.int g), some (.tup (iw w)), some (.int k), o] a = .ok (.bl (wk row g c).isSome) a := by
  have hk : k < w.length := (List.getElem?_eq_some_iff.mp hc).1
  obtain ⟨u, hu⟩ : ∃ u, row[g]? = some u := ⟨row[g], List.getElem?_eq_getElem hg⟩
  have hp : prv row.length g < row.length := by
    unfold prv
    split <;> omega
  obtain ⟨v, hv⟩ : ∃ v, row[prv row.length g]? = some v := ⟨row[prv row.length g], List.getElem?_eq_getElem hp⟩
  have c1 : eBin cLt (eVar 3) (eCB bLen (aCons (eVar 2) aNil)) [some (.tup (iw row)), some (.int g), some (.tup (iw w)), some (.int k), o] a = .ok (.bl true) a := by
    refine ev_bin (ev_var rfl) (ev_cb (ev_cons (ev_var rfl) ev_nil) len_tup) ?_
    show some (PV.bl (decide ((k : Int) < w.length)), a) = _
    rw [decide_eq_true (by omega)]
  refine (ev_and_t c1).trans ?_
  refine ev_bin (ev_bin (ev_var rfl) (ev_var rfl) (ix_tup (at_iw hc))) (ev_tup (ev_cons (ev_bin (ev_var rfl) (ev_var rfl) (ix_tup (at_iw hu))) (ev_cons (ev_bin (ev_var rfl) (ev_bin (ev_var rfl) rfl rfl) (ix_tup (at_prv hg hv))) ev_nil)) (show 2 ≤ LIM by decide)) ?_
  rw [pair_iw, in_tup]
  unfold wk
  rw [hu, hv]
  by_cases h1 : c = u
  · simp [h1]
  · by_cases h2 : c = v
    · subst h2
      have h1' : ¬ u = c := fun z => h1 z.symm
      simp [h1, h1']
    · have h1' : ¬ u = c := fun z => h1 z.symm
      have h2' : ¬ v = c := fun z => h2 z.symm
      simp [h1, h2, h1', h2']
theorem wB_at {row w : List Int} {g k h : Nat} {c : Int} {o : Option PV} (hg : g < row.length) (hc : w[k]? = some c) (hx : x1 c ∈ row) (hh : wk row g c = some h) (a : AH) :
    wB [some (.tup (iw row)), some (.int g), some (.tup (iw w)), some (.int k), o] a = .nx [some (.tup (iw row)), some (.int h), some (.tup (iw w)), some (.int ((k + 1 : Nat) : Int)), some (.int (x1 c))] a := by
  obtain ⟨u, hu⟩ : ∃ u, row[g]? = some u := ⟨row[g], List.getElem?_eq_getElem hg⟩
  have e1 : sSet 4 (eBin bXor (eBin ixO (eVar 2) (eVar 3)) (eC (.int 1))) [some (.tup (iw row)), some (.int g), some (.tup (iw w)), some (.int k), o] a = .nx [some (.tup (iw row)), some (.int g), some (.tup (iw w)), some (.int k), some (.int (x1 c))] a :=
    s_set (ev_bin (ev_bin (ev_var rfl) (ev_var rfl) (ix_tup (at_iw hc))) rfl rfl)
  have ct : eBin cEq (eBin ixO (eVar 2) (eVar 3)) (eBin ixO (eVar 0) (eVar 1)) [some (.tup (iw row)), some (.int g), some (.tup (iw w)), some (.int k), some (.int (x1 c))] a = .ok (.bl (decide (c = u))) a :=
    ev_bin (ev_bin (ev_var rfl) (ev_var rfl) (ix_tup (at_iw hc))) (ev_bin (ev_var rfl) (ev_var rfl) (ix_tup (at_iw hu))) cEq_int
  have e2 : eIf (eBin cEq (eBin ixO (eVar 2) (eVar 3)) (eBin ixO (eVar 0) (eVar 1))) (eCall F_gap_behind (aCons (eVar 0) (aCons (eVar 4) aNil))) (eBM 1 mIndexT (eVar 0) (aCons (eVar 4) aNil)) [some (.tup (iw row)), some (.int g), some (.tup (iw w)), some (.int k), some (.int (x1 c))] a = .ok (.int h) a := by
    unfold wk at hh
    rw [hu] at hh
    unfold eIf
    rw [ct]
    by_cases z : c = u
    · rw [if_pos (by rw [z])] at hh
      cases hh
      rw [decide_eq_true z]
      exact ev_call (e := [some (.tup (iw row)), some (.int g), some (.tup (iw w)), some (.int k), some (.int (x1 c))]) (ev_cons (ev_var (i := 0) rfl) (ev_cons (ev_var (i := 4) rfl) ev_nil)) (gb_ok hx a)
    · rw [if_neg (by intro y; exact z (Option.some.inj y).symm)] at hh
      split at hh
      · cases hh
        rw [decide_eq_false z]
        exact ev_idx (e := [some (.tup (iw row)), some (.int g), some (.tup (iw w)), some (.int k), some (.int (x1 c))]) (ev_var (i := 0) rfl) (ev_var (i := 4) rfl) hx
      · cases hh
  show sSeq _ _ _ _ = _
  rw [s_seq e1, s_seq (s_set e2)]
  rfl
end VI
end
section
set_option maxRecDepth 100000
/-! walked's loop. -/
namespace VI
open PySem PyProof.Rows

theorem whl_f {c : FE} {b : GS} {f : Nat} {e : Env} {a a1 : AH} (h : c e a = .ok (.bl false) a1) : whl c b (f + 1) e a = .nx e a1 := by
  show xB e (c e a) _ = _
  rw [h] <;> rfl
theorem whl_t {c : FE} {b : GS} {f : Nat} {e e2 : Env} {a a1 a2 : AH} (h : c e a = .ok (.bl true) a1) (g : b e a1 = .nx e2 a2) : whl c b (f + 1) e a = whl c b f e2 a2 := by
  show xB e (c e a) _ = _
  rw [h]
  show (match b e a1 with | .nx e2 a2 => whl c b f e2 a2 | .ct e2 a2 => whl c b f e2 a2 | .bk e2 a2 => .nx e2 a2 | o => o) = _
  rw [g]
end VI
end
section
set_option maxRecDepth 100000
/-! Rows, letters, free words. -/
namespace VI
open PySem PyProof.Rows

theorem x1_nat : ∀ n : Nat, n < 12 → x1 (n : Int) = if n % 2 = 0 then ((n + 1 : Nat) : Int) else ((n - 1 : Nat) : Int) := by decide
theorem x1_is {c : Int} (h0 : 0 ≤ c) (h : c < 12) : x1 c = if c % 2 = 0 then c + 1 else c - 1 := by
  have e := x1_nat c.toNat (by omega)
  rw [Int.toNat_of_nonneg h0] at e
  rw [e]
  split
  · rw [if_pos (by omega)]; omega
  · rw [if_neg (by omega)]; omega
/-- a row -/
structure RW (row : List Int) : Prop where
  nd : row.Nodup
  mem : ∀ c, c ∈ row ↔ 0 ≤ c ∧ c < row.length
  ev : row.length % 2 = 0
  lo : 4 ≤ row.length
  hi : row.length ≤ 12
/-- a letter -/
def Lt (row : List Int) (c : Int) : Prop := 0 ≤ c ∧ c < row.length
abbrev LW (row w : List Int) : Prop := ∀ c ∈ w, Lt row c
namespace RW
variable {row : List Int} (h : RW row)
include h
theorem x1_lt {c : Int} (hc : Lt row c) : Lt row (x1 c) := by
  have := h.hi; have := h.ev
  unfold Lt at *
  rw [x1_is hc.1 (by omega)]
  split <;> omega
theorem x1x1 {c : Int} (hc : Lt row c) : x1 (x1 c) = c := by
  have := h.hi
  unfold Lt at *
  have e := x1_is hc.1 (by omega)
  have l := h.x1_lt hc
  unfold Lt at l
  rw [x1_is l.1 (by omega), e]
  split <;> split <;> omega
theorem x1_ne {c : Int} (hc : Lt row c) : x1 c ≠ c := by
  have := h.hi
  unfold Lt at *
  rw [x1_is hc.1 (by omega)]
  split <;> omega
theorem x1_inj {c d : Int} (hc : Lt row c) (hd : Lt row d) (e : x1 c = x1 d) : c = d := by rw [← h.x1x1 hc, ← h.x1x1 hd, e]
theorem lm {c : Int} (hc : Lt row c) : c ∈ row := (h.mem c).mpr hc
theorem x1m {c : Int} (hc : Lt row c) : x1 c ∈ row := h.lm (h.x1_lt hc)
theorem idx_lt {c : Int} (hc : Lt row c) : row.idxOf c < row.length := List.idxOf_lt_length_of_mem (h.lm hc)
theorem at_idx {c : Int} (hc : Lt row c) : row[row.idxOf c]? = some c := by
  rw [List.getElem?_eq_getElem (h.idx_lt hc), List.getElem_idxOf]
theorem idx_at {c : Int} {g : Nat} (e : row[g]? = some c) : row.idxOf c = g := by
  obtain ⟨hg, e'⟩ := List.getElem?_eq_some_iff.mp e
  rw [← e']
  exact h.nd.idxOf_getElem g hg
theorem lt_at {c : Int} {g : Nat} (e : row[g]? = some c) : Lt row c := (h.mem c).mp (List.mem_of_getElem? e)
end RW
/-- the gap behind the gap i -/
abbrev nx (row : List Int) (i : Nat) : Nat := (i + 1) % row.length
theorem nx_is {row : List Int} {i : Nat} (hi : i < row.length) : nx row i = if i + 1 = row.length then 0 else i + 1 := by
  unfold nx
  split
  · next e => rw [e, Nat.mod_self]
  · exact Nat.mod_eq_of_lt (by omega)
namespace RW
variable {row : List Int} (h : RW row)
include h
theorem prv_nx {i g : Nat} (hi : i < row.length) (hg : g < row.length) : prv row.length g = i ↔ g = nx row i := by
  have := h.lo
  rw [nx_is hi]
  unfold prv
  split <;> split <;> omega
theorem nx_lt {i : Nat} : nx row i < row.length := Nat.mod_lt _ (by have := h.lo; omega)
theorem nx_ne {i : Nat} (hi : i < row.length) : nx row i ≠ i := by
  have := h.lo
  rw [nx_is hi]
  split <;> omega
theorem nx_nx {i : Nat} (hi : i < row.length) : nx row (nx row i) ≠ i := by
  have := h.lo
  rw [nx_is h.nx_lt, nx_is hi]
  split <;> split <;> omega
theorem nx_inj {i j : Nat} (hi : i < row.length) (hj : j < row.length) (e : nx row i = nx row j) : i = j := by
  have := h.lo
  rw [nx_is hi, nx_is hj] at e
  split at e <;> split at e <;> omega
theorem prv_lt {g : Nat} (hg : g < row.length) : prv row.length g < row.length := by
  unfold prv
  split <;> omega
/-- a step along the rim, by places -/
theorem wk_is {g : Nat} {c : Int} (hg : g < row.length) (hc : Lt row c) : wk row g c = if g = row.idxOf c then some (nx row (row.idxOf (x1 c))) else if g = nx row (row.idxOf c) then some (row.idxOf (x1 c)) else none := by
  have i := h.idx_lt hc
  unfold wk
  by_cases e : g = row.idxOf c
  · rw [if_pos e, if_pos (by rw [e]; exact h.at_idx hc)]
  · rw [if_neg e, if_neg (fun z => e (h.idx_at z).symm)]
    by_cases e2 : g = nx row (row.idxOf c)
    · rw [if_pos e2, if_pos (by rw [(h.prv_nx i hg).mpr e2]; exact h.at_idx hc)]
    · rw [if_neg e2, if_neg (fun z => e2 ((h.prv_nx i hg).mp (h.idx_at z).symm))]
theorem wk_lt' {g k : Nat} {c : Int} (hg : g < row.length) (hc : Lt row c) (e : wk row g c = some k) : k < row.length := wk_lt (h.x1m hc) e
theorem wk_back {g k : Nat} {c : Int} (hg : g < row.length) (hc : Lt row c) (e : wk row g c = some k) : wk row k (x1 c) = some g := by
  have hk := h.wk_lt' hg hc e
  have i := h.idx_lt hc
  have j := h.idx_lt (h.x1_lt hc)
  rw [h.wk_is hg hc] at e
  rw [h.wk_is hk (h.x1_lt hc), h.x1x1 hc]
  split at e
  · next g1 =>
    cases e
    rw [if_neg (h.nx_ne j), if_pos rfl, g1]
  · split at e
    · next g2 =>
      cases e
      rw [if_pos rfl, g2]
    · cases e
end RW
/-- neighbours do not undo one another -/
def Red : List Int → Prop
  | [] => True
  | [_] => True
  | c :: d :: w => d ≠ x1 c ∧ Red (d :: w)
theorem Red.tl {c : Int} {w : List Int} (h : Red (c :: w)) : Red w := by
  cases w with
  | nil => trivial
  | cons d w => exact h.2
theorem red_app : ∀ {w : List Int} {c : Int}, Red w → (∀ d, w.getLast? = some d → c ≠ x1 d) → Red (w ++ [c])
  | [], c, _, _ => trivial
  | [d], c, _, h => ⟨h d rfl, trivial⟩
  | d :: e :: w, c, r, h => ⟨r.1, red_app (w := e :: w) r.2 fun d' q => h d' (by rw [List.getLast?_cons_cons]; exact q)⟩
theorem red_pre : ∀ {w u : List Int}, Red (w ++ u) → Red w
  | [], _, _ => trivial
  | [_], _, _ => trivial
  | c :: d :: w, u, r => ⟨r.1, red_pre (w := d :: w) (u := u) r.2⟩
theorem red_suf : ∀ {w u : List Int}, Red (w ++ u) → Red u
  | [], _, r => r
  | c :: w, u, r => red_suf (w := w) (u := u) (Red.tl (w := w ++ u) r)
theorem dropL (w : List Int) (c : Int) : (w ++ [c]).dropLast = w := by simp
theorem frS_app (l : List Int) (c d : Int) : frS (l ++ [d]) c = if d = x1 c then l else l ++ [d] ++ [c] := by
  unfold frS
  rw [List.getLast?_append]
  show (if d = x1 c then (l ++ [d]).dropLast else l ++ [d] ++ [c]) = _
  rw [dropL]
theorem snoc (l : List Int) : l = [] ∨ ∃ m d, l = m ++ [d] := by
  rcases List.eq_nil_or_concat l with h | ⟨m, d, h⟩
  · exact .inl h
  · exact .inr ⟨m, d, by rw [h, List.concat_eq_append]⟩
/-- a letter ahead of a free word -/
def ahead (c : Int) : List Int → List Int
  | [] => [c]
  | d :: u => if d = x1 c then u else c :: d :: u
section Fr
variable {row : List Int} (h : RW row)
theorem lw_cons {c : Int} {w : List Int} : LW row (c :: w) ↔ Lt row c ∧ LW row w := by simp [LW]
theorem lw_app {w u : List Int} : LW row (w ++ u) ↔ LW row w ∧ LW row u := by
  constructor
  · exact fun q => ⟨fun c hc => q c (List.mem_append_left _ hc), fun c hc => q c (List.mem_append_right _ hc)⟩
  · rintro ⟨a, b⟩ c hc
    rcases List.mem_append.mp hc with z | z
    · exact a c z
    · exact b c z
theorem lw_one {c : Int} : LW row [c] ↔ Lt row c := by simp [LW]
include h
theorem red_frS {l : List Int} {c : Int} (r : Red l) (hl : LW row l) (hc : Lt row c) : Red (frS l c) ∧ LW row (frS l c) := by
  rcases snoc l with rfl | ⟨m, d, rfl⟩
  · exact ⟨trivial, lw_one.mpr hc⟩
  · have q := lw_app.mp hl
    rw [frS_app]
    split
    · exact ⟨red_pre r, q.1⟩
    · next n =>
      refine ⟨red_app r fun d' e => ?_, lw_app.mpr ⟨hl, lw_one.mpr hc⟩⟩
      have e : d = d' := by simpa using e
      subst e
      intro z
      exact n (by rw [z, h.x1x1 (lw_one.mp q.2)])
theorem red_fold : ∀ {w l : List Int}, Red l → LW row l → LW row w → Red (w.foldl frS l) ∧ LW row (w.foldl frS l)
  | [], l, r, hl, _ => ⟨r, hl⟩
  | c :: w, l, r, hl, hw => by
    have q := lw_cons.mp hw
    have z := red_frS h r hl q.1
    exact red_fold (w := w) z.1 z.2 q.2
theorem red_frd {w : List Int} (hw : LW row w) : Red (frd w) := (red_fold h (l := []) trivial (fun _ z => by cases z) hw).1
theorem lw_frd {w : List Int} (hw : LW row w) : LW row (frd w) := (red_fold h (l := []) trivial (fun _ z => by cases z) hw).2
/-- one letter and the one that undoes it -/
theorem frS_two {l : List Int} {c : Int} (r : Red l) (hl : LW row l) (hc : Lt row c) : frS (frS l c) (x1 c) = l := by
  rcases snoc l with rfl | ⟨m, d, rfl⟩
  · show frS ([] ++ [c]) (x1 c) = []
    rw [frS_app, if_pos (h.x1x1 hc).symm]
  · have q := lw_app.mp hl
    rw [frS_app]
    split
    · next e =>
      rcases snoc m with rfl | ⟨n, d', rfl⟩
      · rw [← e]
        rfl
      · rw [frS_app, if_neg, e]
        intro z
        rw [h.x1x1 hc] at z
        subst z
        have : ∀ (n : List Int), Red (n ++ [d'] ++ [d]) → d ≠ x1 d' := by
          intro n
          induction n with
          | nil => exact fun r => r.1
          | cons k n ih =>
            intro r
            exact ih (Red.tl (w := n ++ [d'] ++ [d]) r)
        exact this n r e
    · rw [frS_app, if_pos (h.x1x1 hc).symm]
theorem fold_fold : ∀ {b l acc : List Int}, Red l → LW row l → Red acc → LW row acc → LW row b → (b.foldl frS acc).foldl frS l = b.foldl frS (acc.foldl frS l)
  | [], _, _, _, _, _, _, _ => rfl
  | c :: b, l, acc, rl, hl, ra, ha, hb => by
    have q := lw_cons.mp hb
    have z := red_frS h ra ha q.1
    show (b.foldl frS (frS acc c)).foldl frS l = b.foldl frS (frS (acc.foldl frS l) c)
    rw [fold_fold (b := b) rl hl z.1 z.2 q.2]
    congr 1
    rcases snoc acc with rfl | ⟨m, d, rfl⟩
    · rfl
    · rw [frS_app]
      split
      · next e =>
        have qa := lw_app.mp ha
        rw [List.foldl_append]
        show _ = frS (frS (m.foldl frS l) d) c
        have t := red_fold h (w := m) rl hl qa.1
        have e' : c = x1 d := by rw [e, h.x1x1 q.1]
        rw [e', frS_two h t.1 t.2 (lw_one.mp qa.2)]
      · rw [List.foldl_append] <;> rfl
/-- a reduced word is free -/
theorem fold_red : ∀ {w acc : List Int}, LW row (acc ++ w) → Red (acc ++ w) → w.foldl frS acc = acc ++ w
  | [], acc, _, _ => by simp
  | c :: w, acc, l, r => by
    have e : acc ++ c :: w = acc ++ [c] ++ w := by simp
    rw [e] at l r
    have s : frS acc c = acc ++ [c] := by
      rcases snoc acc with rfl | ⟨m, d, rfl⟩
      · rfl
      · rw [frS_app, if_neg]
        intro z
        have q := (lw_app.mp l).1
        have t : ∀ n : List Int, Red (n ++ [d] ++ [c]) → c ≠ x1 d := by
          intro n
          induction n with
          | nil => exact fun r => r.1
          | cons k n ih =>
            intro r
            exact ih (Red.tl (w := n ++ [d] ++ [c]) r)
        exact t m (red_pre r) (by rw [z, h.x1x1 (lw_one.mp (lw_app.mp q).2)])
    show w.foldl frS (frS acc c) = _
    rw [s, fold_red (w := w) l r]
    simp
theorem frd_red {w : List Int} (hw : LW row w) (r : Red w) : frd w = w := fold_red h (acc := []) hw r
theorem frd_cons {c : Int} {w : List Int} (hc : Lt row c) (hw : LW row w) : frd (c :: w) = frd (c :: frd w) := by
  have e := fold_fold h (b := w) (l := [c]) (acc := []) trivial (lw_one.mpr hc) trivial (fun _ z => by cases z) hw
  exact e.symm
/-- one letter ahead of a reduced word -/
theorem frd_cons_red {c : Int} {w : List Int} (hc : Lt row c) (hw : LW row w) (r : Red w) : frd (c :: w) = ahead c w := by
  cases w with
  | nil => rfl
  | cons d u =>
    have q := lw_cons.mp hw
    by_cases e : d = x1 c
    · show _ = if d = x1 c then u else c :: d :: u
      rw [if_pos e]
      show u.foldl frS (frS ([] ++ [c]) d) = u
      rw [frS_app, if_pos (by rw [e, h.x1x1 hc])]
      exact frd_red h q.2 r.tl
    · show _ = if d = x1 c then u else c :: d :: u
      rw [if_neg e]
      exact frd_red h (lw_cons.mpr ⟨hc, hw⟩) ⟨e, r⟩
theorem und_und {w : List Int} (hw : LW row w) : und (und w) = w := by
  unfold und
  rw [← List.map_reverse, List.reverse_reverse, List.map_map]
  refine (List.map_congr_left fun c hc => ?_).trans (List.map_id w)
  exact h.x1x1 (hw c hc)
theorem lw_und {w : List Int} (hw : LW row w) : LW row (und w) := by
  intro c hc
  obtain ⟨d, hd, rfl⟩ := List.mem_map.mp hc
  exact h.x1_lt (hw d (List.mem_reverse.mp hd))
omit h in
theorem und_app (w u : List Int) : und (w ++ u) = und u ++ und w := by simp [und]
omit h in
theorem und_len (w : List Int) : (und w).length = w.length := by simp [und]
omit h in
theorem und_nil {w : List Int} : und w = [] ↔ w = [] := by simp [und]
theorem frd_und {w : List Int} (hw : LW row w) : frd (und w) = und (frd w) := by
  induction w with
  | nil => rfl
  | cons c w ih =>
    have q := lw_cons.mp hw
    have e : und (c :: w) = und w ++ [x1 c] := by simp [und]
    rw [e, frd, List.foldl_append]
    show frS (frd (und w)) (x1 c) = _
    rw [ih q.2, frd_cons h q.1 q.2, frd_cons_red h q.1 (lw_frd h q.2) (red_frd h q.2)]
    cases f : frd w with
    | nil => rfl
    | cons d u =>
      have ld := lw_cons.mp (f ▸ lw_frd h q.2)
      have e2 : und (d :: u) = und u ++ [x1 d] := by simp [und]
      show _ = und (if d = x1 c then u else c :: d :: u)
      rw [e2, frS_app]
      by_cases z : d = x1 c
      · rw [if_pos z, if_pos (by rw [z])]
      · rw [if_neg z, if_neg (fun y => z (h.x1_inj ld.1 (h.x1_lt q.1) y))]
        simp [und]
end Fr
end VI
end
section
set_option maxRecDepth 100000
/-! Bridges: the plain triple, the same for all triples of a bridge. -/
namespace VI
open PySem PyProof.Rows

abbrev Trp := Nat × List Int × Nat
def trd (t : Trp) : PyData := .tuple [.int t.1, .tuple (t.2.1.map .int), .int t.2.2]
/-- the lesser one -/
def mnT (t u : Trp) : Trp := if PySem.W.dataLt (trd u) (trd t) = true then u else t
theorem ints_inj : ∀ {w u : List Int}, w.map PyData.int = u.map PyData.int → w = u
  | [], [], _ => rfl
  | [], _ :: _, h => by cases h
  | _ :: _, [], h => by cases h
  | i :: w, j :: u, h => by
    rw [List.map_cons, List.map_cons] at h
    have a := (List.cons.inj h)
    have b := PyData.int.inj a.1
    rw [b, ints_inj a.2]
theorem toksI_inj : ∀ {w u : List Int}, PySem.W.keyToksAll (w.map PyData.int) = PySem.W.keyToksAll (u.map PyData.int) → w = u
  | [], [], _ => rfl
  | [], _ :: _, h => by
    rw [List.map_nil, List.map_cons, PySem.W.keyToksAll, PySem.W.keyToksAll] at h
    have a := (List.cons.inj h).1
    cases a
  | _ :: _, [], h => by
    rw [List.map_nil, List.map_cons, PySem.W.keyToksAll, PySem.W.keyToksAll] at h
    have a := (List.cons.inj h).1
    cases a
  | i :: w, j :: u, h => by
    rw [List.map_cons, List.map_cons, PySem.W.keyToksAll, PySem.W.keyToksAll, PySem.W.keyToks, PySem.W.keyToks] at h
    have a := (List.cons.inj h).2
    have b := (List.cons.inj a)
    have e := Sum.inl.inj b.1
    rw [e, toksI_inj b.2]
theorem toksI_app : ∀ {w u : List Int} {l m : List (Int ⊕ List Nat)}, PySem.W.keyToksAll (w.map PyData.int) ++ l = PySem.W.keyToksAll (u.map PyData.int) ++ m → w = u ∧ l = m
  | [], [], l, m, h => by
    rw [List.map_nil, PySem.W.keyToksAll] at h
    exact ⟨rfl, (List.cons.inj h).2⟩
  | [], _ :: _, l, m, h => by
    rw [List.map_nil, List.map_cons, PySem.W.keyToksAll, PySem.W.keyToksAll] at h
    have a := (List.cons.inj h).1
    cases a
  | _ :: _, [], l, m, h => by
    rw [List.map_nil, List.map_cons, PySem.W.keyToksAll, PySem.W.keyToksAll] at h
    have a := (List.cons.inj h).1
    cases a
  | i :: w, j :: u, l, m, h => by
    rw [List.map_cons, List.map_cons, PySem.W.keyToksAll, PySem.W.keyToksAll, PySem.W.keyToks, PySem.W.keyToks] at h
    have a := (List.cons.inj h).2
    have b := (List.cons.inj a)
    have e := Sum.inl.inj b.1
    have r := toksI_app b.2
    exact ⟨by rw [e, r.1], r.2⟩
theorem toks_trd (t : Trp) : PySem.W.keyToks (trd t) = .inl 1 :: .inl t.1 :: .inl 1 :: (PySem.W.keyToksAll (t.2.1.map .int) ++ (.inl 1 :: .inl t.2.2 :: [.inl 0])) := by
  unfold trd
  simp only [PySem.W.keyToks, PySem.W.keyToksAll, List.cons_append, List.nil_append]
theorem trd_tok {t u : Trp} (h : PySem.W.keyToks (trd t) = PySem.W.keyToks (trd u)) : t = u := by
  rw [toks_trd, toks_trd] at h
  have a := (List.cons.inj h).2
  have b := List.cons.inj a
  have c := (List.cons.inj b.2).2
  have e := toksI_app c
  have f := (List.cons.inj (List.cons.inj e.2).2).1
  have g1 := Sum.inl.inj b.1
  have g2 := Sum.inl.inj f
  obtain ⟨t1, t2, t3⟩ := t
  obtain ⟨u1, u2, u3⟩ := u
  have e1 : t1 = u1 := by exact_mod_cast g1
  have e2 : t2 = u2 := e.1
  have e3 : t3 = u3 := by exact_mod_cast g2
  rw [e1, e2, e3]
theorem mnT_comm (t u : Trp) : mnT t u = mnT u t := by
  unfold mnT
  by_cases a : PySem.W.dataLt (trd u) (trd t) = true
  · by_cases b : PySem.W.dataLt (trd t) (trd u) = true
    · have z := lex_trans (O := itemOrd) _ _ _ a b
      rw [lex_irrefl] at z
      cases z
    · rw [if_pos a, if_neg b]
  · by_cases b : PySem.W.dataLt (trd t) (trd u) = true
    · rw [if_neg a, if_pos b]
    · rw [if_neg a, if_neg b]
      exact trd_tok (lex_total (O := itemOrd) _ _ (Bool.eq_false_iff.mpr b) (Bool.eq_false_iff.mpr a))
theorem mnT_or (t u : Trp) : mnT t u = t ∨ mnT t u = u := by
  unfold mnT
  split
  · exact .inr rfl
  · exact .inl rfl

/-- all letters of a word walked -/
def wka (row : List Int) : Nat → List Int → Option Nat
  | g, [] => some g
  | g, c :: w => match wk row g c with
    | some h => wka row h w
    | none => none
/-- no way on -/
def Stk (row : List Int) (g : Nat) (u : List Int) : Prop := ∀ c, u.head? = some c → wk row g c = none
theorem wka_app {row : List Int} : ∀ (p : List Int) {q : List Int} {g : Nat}, wka row g (p ++ q) = (wka row g p).bind fun h => wka row h q
  | [], _, _ => rfl
  | c :: p, q, g => by
    show (match wk row g c with | some h => wka row h (p ++ q) | none => none) = _
    show _ = (match wk row g c with | some h => wka row h p | none => none).bind fun h => wka row h q
    cases wk row g c with
    | none => rfl
    | some h => exact wka_app p
theorem wkd_of {row : List Int} : ∀ (p : List Int) {u : List Int} {g h : Nat}, wka row g p = some h → Stk row h u → wkd row g (p ++ u) = (h, u)
  | [], u, g, h, e, s => by
    cases e
    cases u with
    | nil => rfl
    | cons c u =>
      show (match wk row g c with | some h => wkd row h u | none => (g, c :: u)) = _
      rw [s c rfl]
  | c :: p, u, g, h, e, s => by
    have e : (match wk row g c with | some h => wka row h p | none => none) = some h := e
    show (match wk row g c with | some h => wkd row h (p ++ u) | none => (g, c :: (p ++ u))) = _
    cases k : wk row g c with
    | none => rw [k] at e; cases e
    | some h' =>
      rw [k] at e
      exact wkd_of p e s
theorem wkd_ex {row : List Int} : ∀ (w : List Int) (g : Nat), ∃ p, w = p ++ (wkd row g w).2 ∧ wka row g p = some (wkd row g w).1 ∧ Stk row (wkd row g w).1 (wkd row g w).2
  | [], g => ⟨[], rfl, rfl, fun _ h => by cases h⟩
  | c :: w, g => by
    show ∃ p, c :: w = p ++ (match wk row g c with | some h => wkd row h w | none => (g, c :: w)).2 ∧ wka row g p = some (match wk row g c with | some h => wkd row h w | none => (g, c :: w)).1 ∧ Stk row (match wk row g c with | some h => wkd row h w | none => (g, c :: w)).1 (match wk row g c with | some h => wkd row h w | none => (g, c :: w)).2
    cases k : wk row g c with
    | none => exact ⟨[], rfl, rfl, fun d e => by cases e; exact k⟩
    | some h =>
      obtain ⟨p, e1, e2, e3⟩ := wkd_ex w h
      refine ⟨c :: p, by rw [List.cons_append, ← e1], ?_, e3⟩
      show (match wk row g c with | some h => wka row h p | none => none) = _
      rw [k]
      exact e2
/-- walked at both ends as far as it goes -/
def tgt (row : List Int) (s : Nat) (w : List Int) (e : Nat) : Trp := ((wkd row s w).1, und (wkd row e (und (wkd row s w).2)).2, (wkd row e (und (wkd row s w).2)).1)
/-- the end between two gaps -/
def btw (row : List Int) (s e : Nat) : Option Nat := if e = nx row s then some s else if s = nx row e then some e else none
def srt2 (i j : Nat) : Trp := (min i j, [], max i j)
theorem srt2_comm (i j : Nat) : srt2 i j = srt2 j i := by simp [srt2, Nat.min_comm, Nat.max_comm]
/-- the place across the band -/
def acr (row : List Int) (i : Nat) : Nat := row.idxOf (x1 (row.getD i 0))
def base (row : List Int) (s e : Nat) : Option Trp := if s = e then none else some (match btw row s e with
  | none => srt2 s e
  | some i => mnT (srt2 s e) (srt2 (acr row i) (nx row (acr row i))))
def pln (row : List Int) (t : Trp) : Option Trp := if t.2.1 = [] then base row t.1 t.2.2 else some (mnT t (t.2.2, und t.2.1, t.1))
def BR (row : List Int) (s : Nat) (w : List Int) (e : Nat) : Option Trp := pln row (tgt row s (frd w) e)

section Br
variable {row : List Int} (h : RW row)
include h
theorem wka_lt {k : Nat} : ∀ {p : List Int} {g : Nat}, g < row.length → LW row p → wka row g p = some k → k < row.length := by
  intro p
  induction p with
  | nil => intro g hg _ e; cases e; exact hg
  | cons c p ih =>
    intro g hg l e
    have q := lw_cons.mp l
    have e : (match wk row g c with | some h => wka row h p | none => none) = some k := e
    cases z : wk row g c with
    | none => rw [z] at e; cases e
    | some g' => rw [z] at e; exact ih (h.wk_lt' hg q.1 z) q.2 e
theorem wka_back {k : Nat} : ∀ {p : List Int} {g : Nat}, g < row.length → LW row p → wka row g p = some k → wka row k (und p) = some g := by
  intro p
  induction p with
  | nil => intro g hg _ e; cases e; rfl
  | cons c p ih =>
    intro g hg l e
    have q := lw_cons.mp l
    have e : (match wk row g c with | some h => wka row h p | none => none) = some k := e
    cases z : wk row g c with
    | none => rw [z] at e; cases e
    | some g' =>
      rw [z] at e
      have r := ih (h.wk_lt' hg q.1 z) q.2 e
      have u : und (c :: p) = und p ++ [x1 c] := by simp [und]
      rw [u, wka_app, r]
      show (match wk row g' (x1 c) with | some h => wka row h [] | none => none) = _
      rw [h.wk_back hg q.1 z] <;> rfl
theorem acr_idx {c : Int} (hc : Lt row c) : acr row (row.idxOf c) = row.idxOf (x1 c) := by
  unfold acr
  rw [List.getD_eq_getElem?_getD, h.at_idx hc] <;> rfl
theorem base_comm {s e : Nat} (hs : s < row.length) : base row s e = base row e s := by
  unfold base
  by_cases q : s = e
  · rw [q]
  · rw [if_neg q, if_neg (Ne.symm q)]
    have t : btw row s e = btw row e s ∨ (e = nx row s ∧ s = nx row e) := by
      unfold btw
      by_cases q1 : e = nx row s
      · by_cases q2 : s = nx row e
        · exact .inr ⟨q1, q2⟩
        · left; rw [if_pos q1, if_neg q2, if_pos q1]
      · by_cases q2 : s = nx row e
        · left; rw [if_neg q1, if_pos q2, if_pos q2]
        · left; rw [if_neg q1, if_neg q2, if_neg q2, if_neg q1]
    rcases t with t | ⟨t1, t2⟩
    · rw [t, srt2_comm s e]
    · exfalso
      rw [t1] at t2
      exact h.nx_nx hs t2.symm
/-- one letter walked from both gaps -/
theorem base_step {s e s' e' : Nat} {c : Int} (hs : s < row.length) (he : e < row.length) (hc : Lt row c) (ws : wk row s c = some s') (we : wk row e c = some e') : base row s' e' = base row s e := by
  have i := h.idx_lt hc
  have j := h.idx_lt (h.x1_lt hc)
  by_cases z : s = e
  · subst z
    rw [ws] at we
    cases we
    unfold base
    rw [if_pos rfl, if_pos rfl]
  · have fin : ∀ a b : Nat, (a = row.idxOf c ∧ b = nx row (row.idxOf c)) → base row (nx row (row.idxOf (x1 c))) (row.idxOf (x1 c)) = base row a b := by
      rintro a b ⟨rfl, rfl⟩
      have n1 := h.nx_ne i
      have n2 := h.nx_ne j
      unfold base
      rw [if_neg n2, if_neg (Ne.symm n1)]
      have b1 : btw row (row.idxOf c) (nx row (row.idxOf c)) = some (row.idxOf c) := by
        unfold btw
        rw [if_pos rfl]
      have b2 : btw row (nx row (row.idxOf (x1 c))) (row.idxOf (x1 c)) = some (row.idxOf (x1 c)) := by
        unfold btw
        rw [if_neg (Ne.symm (h.nx_nx j)), if_pos rfl]
      rw [b1, b2]
      show some (mnT _ _) = some (mnT _ _)
      rw [h |> fun h => acr_idx h hc, acr_idx h (h.x1_lt hc), h.x1x1 hc, mnT_comm, srt2_comm (nx row (row.idxOf (x1 c)))]
    rw [h.wk_is hs hc] at ws
    rw [h.wk_is he hc] at we
    split at ws
    · next g1 =>
      cases ws
      split at we
      · next g2 => exact absurd (g1.trans g2.symm) z
      · split at we
        · next g2 =>
          cases we
          exact fin _ _ ⟨g1, g2⟩
        · cases we
    · split at ws
      · next g1 =>
        cases ws
        split at we
        · next g2 =>
          cases we
          rw [base_comm h j, fin _ _ ⟨g2, g1⟩, base_comm h he]
        · split at we
          · next g2 => exact absurd (g1.trans g2.symm) z
          · cases we
      · cases ws
theorem base_word {s' e' : Nat} : ∀ {p : List Int} {s e : Nat}, s < row.length → e < row.length → LW row p → wka row s p = some s' → wka row e p = some e' → base row s' e' = base row s e := by
  intro p
  induction p with
  | nil => intro s e _ _ _ a b; cases a; cases b; rfl
  | cons c p ih =>
    intro s e hs he l a b
    have q := lw_cons.mp l
    have a : (match wk row s c with | some h => wka row h p | none => none) = some s' := a
    have b : (match wk row e c with | some h => wka row h p | none => none) = some e' := b
    cases z : wk row s c with
    | none => rw [z] at a; cases a
    | some s1 =>
      rw [z] at a
      cases y : wk row e c with
      | none => rw [y] at b; cases b
      | some e1 =>
        rw [y] at b
        rw [ih (h.wk_lt' hs q.1 z) (h.wk_lt' he q.1 y) q.2 a b, base_step h hs he q.1 z y]
end Br
end VI
end
section
set_option maxRecDepth 100000
/-! The plain triple stays when one walks about; the fact on plain triples. -/
namespace VI
open PySem PyProof.Rows

theorem wkd_app {row : List Int} : ∀ (q : List Int) {x : List Int} {g k : Nat}, wka row g q = some k → wkd row g (q ++ x) = wkd row k x
  | [], x, g, k, e => by cases e; rfl
  | c :: q, x, g, k, e => by
    have e : (match wk row g c with | some h => wka row h q | none => none) = some k := e
    show (match wk row g c with | some h => wkd row h (q ++ x) | none => (g, c :: (q ++ x))) = _
    cases z : wk row g c with
    | none => rw [z] at e; cases e
    | some g' => rw [z] at e; exact wkd_app q e
/-- how a word is walked at both ends -/
structure Wks (row : List Int) (s : Nat) (W : List Int) (e : Nat) (p q v : List Int) (s1 e1 : Nat) : Prop where
  w : W = p ++ (und v ++ und q)
  ws : wka row s p = some s1
  we : wka row e q = some e1
  ss : Stk row s1 (und v ++ und q)
  se : Stk row e1 v
  t : tgt row s W e = (s1, und v, e1)
section Bq
variable {row : List Int} (h : RW row)
include h
theorem wks_ex {s e : Nat} {W : List Int} (hW : LW row W) : ∃ p q v s1 e1, Wks row s W e p q v s1 e1 ∧ LW row p ∧ LW row q ∧ LW row v := by
  obtain ⟨p, h1, h2, h3⟩ := wkd_ex (row := row) W s
  obtain ⟨q, k1, k2, k3⟩ := wkd_ex (row := row) (und (wkd row s W).2) e
  have l1 := lw_app.mp (h1 ▸ hW)
  have l2 := lw_app.mp (k1 ▸ lw_und h l1.2)
  have e1 : (wkd row s W).2 = und (wkd row e (und (wkd row s W).2)).2 ++ und q := by
    rw [← und_app, ← k1, und_und h l1.2]
  exact ⟨p, q, (wkd row e (und (wkd row s W).2)).2, (wkd row s W).1, (wkd row e (und (wkd row s W).2)).1, ⟨by rw [← e1]; exact h1, h2, k2, by rw [← e1]; exact h3, k3, rfl⟩, l1.1, l2.1, l2.2⟩
theorem stk_pre {g : Nat} {u v : List Int} (hu : u ≠ []) (s : Stk row g (u ++ v)) : Stk row g u := by
  intro c hc
  refine s c ?_
  cases u with
  | nil => exact absurd rfl hu
  | cons d u => exact hc
omit h in
theorem stk_app {g : Nat} {u v : List Int} (hu : u ≠ []) (s : Stk row g u) : Stk row g (u ++ v) := by
  intro c hc
  refine s c ?_
  cases u with
  | nil => exact absurd rfl hu
  | cons d u => exact hc
theorem pln_turn {s e : Nat} {W : List Int} (hW : LW row W) (hs : s < row.length) (he : e < row.length) : pln row (tgt row e (und W) s) = pln row (tgt row s W e) := by
  obtain ⟨p, q, v, s1, e1, K, lp, lq, lv⟩ := wks_ex h (s := s) (e := e) hW
  have uW : und W = q ++ (v ++ und p) := by
    rw [K.w, und_app, und_app, und_und h lq, und_und h lv, List.append_assoc]
  have hs1 := wka_lt h hs lp K.ws
  have he1 := wka_lt h he lq K.we
  rw [K.t]
  by_cases hv : v = []
  · subst hv
    rw [List.nil_append] at uW
    have e0 : wkd row e (und W) = wkd row e1 (und p) := by rw [uW]; exact wkd_app q K.we
    obtain ⟨r, k1, k2, k3⟩ := wkd_ex (row := row) (und p) e1
    have lr := (lw_app.mp (k1 ▸ lw_und h lp)).1
    have ly := (lw_app.mp (k1 ▸ lw_und h lp)).2
    have ep : p = und (wkd row e1 (und p)).2 ++ und r := by rw [← und_app, ← k1, und_und h lp]
    have ws := K.ws
    rw [ep, wka_app] at ws
    cases z : wka row s (und (wkd row e1 (und p)).2) with
    | none => rw [z] at ws; cases ws
    | some s2 =>
      rw [z] at ws
      have ws : wka row s2 (und r) = some s1 := ws
      have hs2 := wka_lt h hs (lw_und h ly) z
      have b := wka_back h hs2 (lw_und h lr) ws
      rw [und_und h lr] at b
      have e2 : wkd row s (und (wkd row e1 (und p)).2) = (s2, []) := by
        have := wkd_of (u := []) _ z (fun c hc => by cases hc)
        rwa [List.append_nil] at this
      have et : tgt row e (und W) s = ((wkd row e1 (und p)).1, [], s2) := by
        unfold tgt
        rw [e0, e2] <;> rfl
      rw [et]
      have he2 := wka_lt h he1 lr k2
      show base row _ _ = base row _ _
      rw [base_word h he1 hs1 lr k2 b, base_comm h he1]
  · have e0 : wkd row e (und W) = (e1, v ++ und p) := by rw [uW]; exact wkd_of q K.we (stk_app hv K.se)
    have uv : und v ≠ [] := fun z => hv (und_nil.mp z)
    have e2 : wkd row s (und (v ++ und p)) = (s1, und v) := by
      rw [und_app, und_und h lp]
      exact wkd_of p K.ws (stk_pre h uv K.ss)
    have et : tgt row e (und W) s = (e1, v, s1) := by
      unfold tgt
      rw [e0, e2, und_und h lv]
    rw [et]
    unfold pln
    rw [if_neg hv, if_neg uv, mnT_comm, und_und h lv]
/-- turned about -/
theorem BR_turn {s e : Nat} {w : List Int} (hw : LW row w) (hs : s < row.length) (he : e < row.length) : BR row e (und w) s = BR row s w e := by
  unfold BR
  rw [frd_und h hw]
  exact pln_turn h (lw_frd h hw) hs he
/-- a step along the rim at the start -/
theorem BR_walk {s e k : Nat} {w : List Int} {c : Int} (hw : LW row w) (hs : s < row.length) (hc : Lt row c) (z : wk row s c = some k) : BR row k (frd (x1 c :: w)) e = BR row s w e := by
  have hx := h.x1_lt hc
  have lf := lw_frd h hw
  have e1 : frd (frd (x1 c :: w)) = ahead (x1 c) (frd w) := by
    rw [frd_red h (lw_frd h (lw_cons.mpr ⟨hx, hw⟩)) (red_frd h (lw_cons.mpr ⟨hx, hw⟩)), frd_cons h hx hw, frd_cons_red h hx lf (red_frd h hw)]
  have b := h.wk_back hs hc z
  have e2 : wkd row k (ahead (x1 c) (frd w)) = wkd row s (frd w) := by
    cases f : frd w with
    | nil =>
      show (match wk row k (x1 c) with | some h => wkd row h [] | none => (k, [x1 c])) = _
      rw [b]
    | cons d u =>
      show wkd row k (if d = x1 (x1 c) then u else x1 c :: d :: u) = _
      rw [h.x1x1 hc]
      by_cases y : d = c
      · rw [if_pos y, y]
        show _ = (match wk row s c with | some h => wkd row h u | none => (s, c :: u))
        rw [z]
      · rw [if_neg y]
        show (match wk row k (x1 c) with | some h => wkd row h (d :: u) | none => (k, x1 c :: d :: u)) = _
        rw [b]
  unfold BR tgt
  rw [e1, e2]
omit h in
theorem fold_len : ∀ {w l : List Int}, (w.foldl frS l).length ≤ l.length + w.length ∧ ((w.foldl frS l).length = l.length + w.length → w.foldl frS l = l ++ w)
  | [], l => ⟨Nat.le_refl _, fun _ => by simp⟩
  | c :: w, l => by
    have ih := fold_len (w := w) (l := frS l c)
    have s := frS_len l c
    refine ⟨by show (w.foldl frS (frS l c)).length ≤ _; rw [List.length_cons]; omega, fun e => ?_⟩
    have e : (w.foldl frS (frS l c)).length = l.length + (w.length + 1) := e
    have e2 := ih.2 (by omega)
    have e3 : (frS l c).length = l.length + 1 := by omega
    have e4 : frS l c = l ++ [c] := by
      rcases snoc l with rfl | ⟨m, d, rfl⟩
      · rfl
      · rw [frS_app] at e3 ⊢
        split
        · next z => rw [if_pos z] at e3; simp at e3; omega
        · rfl
    show w.foldl frS (frS l c) = _
    rw [e2, e4]
    simp
omit h in
theorem frd_len (w : List Int) : (frd w).length ≤ w.length := by simpa [frd] using (fold_len (w := w) (l := [])).1
omit h in
theorem frd_same {w : List Int} (e : (frd w).length = w.length) : frd w = w := by simpa [frd] using (fold_len (w := w) (l := [])).2 (by simpa [frd] using e)
omit h in
theorem base_wd {s e : Nat} {t : Trp} (z : base row s e = some t) : t.2.1 = [] := by
  unfold base at z
  split at z
  · cases z
  · cases z
    split
    · rfl
    · rcases mnT_or (srt2 s e) (srt2 (acr row _) (nx row (acr row _))) with y | y <;> rw [y] <;> rfl
omit h in
theorem pln_len {t d : Trp} (z : pln row t = some d) : d.2.1.length = t.2.1.length := by
  unfold pln at z
  split at z
  · next y => rw [base_wd z, y]
  · cases z
    rcases mnT_or t (t.2.2, und t.2.1, t.1) with y | y
    · rw [y]
    · rw [y]
      exact und_len _
/-- the document's fact -/
def PF (row : List Int) (s : Nat) (w : List Int) (e : Nat) : Prop := if w = [] then s ≠ e else frd w = w ∧ Stk row s w ∧ Stk row e (und w)
theorem PF_iff {s e : Nat} {w : List Int} {d : Trp} (hw : LW row w) (z : BR row s w e = some d) : PF row s w e ↔ w.length = d.2.1.length := by
  rw [pln_len z]
  by_cases hn : w = []
  · subst hn
    have z : base row s e = some d := z
    unfold PF
    rw [if_pos rfl]
    refine ⟨fun _ => rfl, fun _ y => ?_⟩
    subst y
    unfold base at z
    rw [if_pos rfl] at z
    cases z
  · unfold PF
    rw [if_neg hn]
    obtain ⟨p, q, v, s1, e1, K, lp, lq, lv⟩ := wks_ex h (s := s) (e := e) (lw_frd h hw)
    have L := congrArg List.length K.w
    have f := frd_len w
    rw [List.length_append, List.length_append, und_len, und_len] at L
    rw [K.t]
    show _ ↔ w.length = (und v).length
    rw [und_len]
    constructor
    · rintro ⟨a, b, c⟩
      have e1 : wkd row s w = (s, w) := wkd_of (u := w) [] rfl b
      have e2 : wkd row e (und w) = (e, und w) := wkd_of (u := und w) [] rfl c
      have t := K.t
      unfold tgt at t
      rw [a, e1] at t
      show w.length = v.length
      have t : (s, und (wkd row e (und w)).2, (wkd row e (und w)).1) = _ := t
      rw [e2] at t
      have t2 := congrArg (fun t : Trp => t.2.1.length) t
      have t2 : (und (und w)).length = (und v).length := t2
      rw [und_len, und_len, und_len] at t2
      exact t2
    · intro y
      have a : frd w = w := frd_same (by omega)
      have p0 : p = [] := List.length_eq_zero_iff.mp (by omega)
      have q0 : q = [] := List.length_eq_zero_iff.mp (by omega)
      subst p0 q0
      have ws := K.ws
      have we := K.we
      cases ws
      cases we
      have W := K.w
      rw [a] at W
      have W : w = und v := by simpa [und] using W
      refine ⟨a, ?_, ?_⟩
      · have := K.ss
        rw [← W] at this
        have this : Stk row s (w ++ []) := this
        rwa [List.append_nil] at this
      · rw [W, und_und h lv]
        exact K.se
theorem base_btw {s e i : Nat} (hs : s < row.length) (hi : i < row.length) (z : btw row s e = some i) : base row s e = base row i (nx row i) := by
  unfold btw at z
  split at z
  · next y => cases z; rw [y]
  · split at z
    · next y =>
      cases z
      rw [base_comm h hs, y]
    · cases z
theorem btw_lt {s e i : Nat} (hs : s < row.length) (he : e < row.length) (z : btw row s e = some i) : i < row.length := by
  unfold btw at z
  split at z
  · cases z; exact hs
  · split at z
    · cases z; exact he
    · cases z
theorem at_lt {i : Nat} (hi : i < row.length) : Lt row (row.getD i 0) ∧ row.idxOf (row.getD i 0) = i := by
  have e : row[i]? = some row[i] := List.getElem?_eq_getElem hi
  have e2 : row.getD i 0 = row[i] := by rw [List.getD_eq_getElem?_getD, e] <;> rfl
  rw [e2]
  exact ⟨h.lt_at e, h.idx_at e⟩
theorem acr_lt {i : Nat} (hi : i < row.length) : acr row i < row.length := h.idx_lt (h.x1_lt (at_lt h hi).1)
theorem acr_acr {i : Nat} (hi : i < row.length) : acr row (acr row i) = i := by
  have a := at_lt h hi
  have e : acr row i = row.idxOf (x1 (row.getD i 0)) := rfl
  rw [e, acr_idx h (h.x1_lt a.1), h.x1x1 a.1, a.2]
theorem base_nx {i : Nat} (hi : i < row.length) : base row i (nx row i) = some (mnT (srt2 i (nx row i)) (srt2 (acr row i) (nx row (acr row i)))) := by
  unfold base btw
  rw [if_neg (Ne.symm (h.nx_ne hi)), if_pos rfl]
theorem base_acr {i : Nat} (hi : i < row.length) : base row (acr row i) (nx row (acr row i)) = base row i (nx row i) := by
  rw [base_nx h hi, base_nx h (acr_lt h hi), acr_acr h hi, mnT_comm]
theorem base_srt {s e : Nat} (hs : s < row.length) : base row (srt2 s e).1 (srt2 s e).2.2 = base row s e := by
  show base row (min s e) (max s e) = _
  rcases Nat.le_total s e with y | y
  · rw [Nat.min_eq_left y, Nat.max_eq_right y]
  · rw [Nat.min_eq_right y, Nat.max_eq_left y, base_comm h hs]
theorem base_fix {s e : Nat} {t : Trp} (hs : s < row.length) (he : e < row.length) (z : base row s e = some t) : base row t.1 t.2.2 = some t := by
  have z0 := z
  unfold base at z
  split at z
  · cases z
  · cases b : btw row s e with
    | none =>
      rw [b] at z
      cases z
      rw [base_srt h hs, z0]
    | some i =>
      rw [b] at z
      cases z
      have hi := btw_lt h hs he b
      show base row (mnT (srt2 s e) (srt2 (acr row i) (nx row (acr row i)))).1 (mnT (srt2 s e) (srt2 (acr row i) (nx row (acr row i)))).2.2 = _
      rcases mnT_or (srt2 s e) (srt2 (acr row i) (nx row (acr row i))) with y | y
      · rw [y, base_srt h hs, z0]
      · rw [y, base_srt h (acr_lt h hi), base_acr h hi, ← base_btw h hs hi b, z0]
/-- plain triples stay -/
theorem BR_fix {s e : Nat} {w : List Int} {t : Trp} (hw : LW row w) (hs : s < row.length) (he : e < row.length) (z : BR row s w e = some t) : BR row t.1 t.2.1 t.2.2 = some t ∧ t.1 < row.length ∧ t.2.2 < row.length ∧ LW row t.2.1 := by
  obtain ⟨p, q, v, s1, e1, K, lp, lq, lv⟩ := wks_ex h (s := s) (e := e) (lw_frd h hw)
  have hs1 := wka_lt h hs lp K.ws
  have he1 := wka_lt h he lq K.we
  have z : pln row (tgt row s (frd w) e) = some t := z
  rw [K.t] at z
  have lu := lw_und h lv
  by_cases hv : v = []
  · subst hv
    have z : base row s1 e1 = some t := z
    have e0 := base_wd z
    refine ⟨?_, ?_⟩
    · rw [e0]
      exact base_fix h hs1 he1 z
    · have z' := z
      unfold base at z
      split at z
      · cases z
      · have a : ∀ i j, i < row.length → j < row.length → (srt2 i j).1 < row.length ∧ (srt2 i j).2.2 < row.length ∧ LW row (srt2 i j).2.1 := fun i j hi hj => by
          refine ⟨?_, ?_, fun _ q => by cases q⟩
          · show min i j < _
            omega
          · show max i j < _
            omega
        cases b : btw row s1 e1 with
        | none =>
          rw [b] at z
          cases z
          exact a _ _ hs1 he1
        | some i =>
          rw [b] at z
          cases z
          show (mnT (srt2 s1 e1) (srt2 (acr row i) (nx row (acr row i)))).1 < row.length ∧ (mnT (srt2 s1 e1) (srt2 (acr row i) (nx row (acr row i)))).2.2 < row.length ∧ LW row (mnT (srt2 s1 e1) (srt2 (acr row i) (nx row (acr row i)))).2.1
          rcases mnT_or (srt2 s1 e1) (srt2 (acr row i) (nx row (acr row i))) with y | y
          · rw [y]; exact a _ _ hs1 he1
          · rw [y]; exact a _ _ (acr_lt h (btw_lt h hs1 he1 b)) h.nx_lt
  · have uv : und v ≠ [] := fun z => hv (und_nil.mp z)
    have R : Red (und v) := red_pre (u := und q) (red_suf (w := p) (K.w ▸ red_frd h hw))
    have f : BR row s1 (und v) e1 = some (mnT (s1, und v, e1) (e1, und (und v), s1)) := by
      unfold BR tgt
      rw [frd_red h lu R]
      have e2 : wkd row s1 (und v) = (s1, und v) := wkd_of (u := und v) [] rfl (stk_pre h uv K.ss)
      rw [e2]
      show pln row (s1, und (wkd row e1 (und (und v))).2, (wkd row e1 (und (und v))).1) = _
      have e3 : wkd row e1 (und (und v)) = (e1, v) := by
        rw [und_und h lv]
        exact wkd_of (u := v) [] rfl K.se
      rw [e3]
      show (if und v = [] then _ else _) = _
      rw [if_neg uv]
    have z : (if und v = [] then _ else _) = some t := z
    rw [if_neg uv] at z
    have z : some (mnT (s1, und v, e1) (e1, und (und v), s1)) = some t := z
    have zt := Option.some.inj z
    rcases mnT_or (s1, und v, e1) (e1, und (und v), s1) with y | y
    · rw [y] at zt
      subst zt
      exact ⟨f.trans z, hs1, he1, lu⟩
    · rw [y] at zt
      subst zt
      exact ⟨(BR_turn h lu hs1 he1).trans (f.trans z), he1, hs1, lw_und h lu⟩
end Bq
end VI
end
section
set_option maxRecDepth 100000
/-! Running plain functions: what each part asks. -/
namespace VI
open PySem PyProof.Rows

abbrev EX := Str → List (Str × PV) → AH → Prop
/-- a truth value chooses -/
def DP {α : Sort u} (_ : α) : Type := Unit
def D2 (_ _ : Prop) : Type := Unit
def ifW (v : PV) (P Q : Prop) (_ : D2 P Q := ()) : Prop := match v with
  | .bl true => P
  | .bl false => Q
  | _ => False
def wO {α : Type} (o : Option α) (P : α → Prop) (_ : DP P := ()) : Prop := match o with
  | some v => P v
  | none => False
theorem wR_c {α : Type} {r r' : R α} {Q : α → AH → Prop} {X : EX} (h : r = r') : wR r Q X = wR r' Q X := by rw [h]
theorem wO_c {α : Type} {r r' : Option α} {P : α → Prop} (h : r = r') : wO r P = wO r' P := by rw [h]
theorem ifW_c {v v' : PV} {P Q : Prop} (h : v = v') : ifW v P Q = ifW v' P Q := by rw [h]
theorem wS_c {r r' : RS} {D : En} (h : r = r') : wS r D = wS r' D := by rw [h]
theorem wO_some {α : Type} {v : α} {P : α → Prop} : wO (some v) P = P v := propext ⟨fun h => h, fun h => h⟩
theorem wO_none {α : Type} {P : α → Prop} : wO none P = False := propext ⟨fun h => h, fun h => h⟩
theorem wO_map {α β : Type} {f : α → β} {o : Option α} {P : β → Prop} : wO (o.map f) P = wO o fun v => P (f v) := by cases o <;> rfl
theorem ifW_t {P Q : Prop} : ifW (.bl true) P Q = P := propext ⟨fun h => h, fun h => h⟩
theorem ifW_f {P Q : Prop} : ifW (.bl false) P Q = Q := propext ⟨fun h => h, fun h => h⟩
theorem ifW_b {b : Bool} {P Q : Prop} : ifW (.bl b) P Q = if b = true then P else Q := by cases b <;> simp [ifW]
theorem wR_ok {α : Type} {v : α} {a : AH} {Q : α → AH → Prop} {X : EX} : wR (.ok v a) Q X = Q v a := propext ⟨fun h => h, fun h => h⟩
theorem wR_er {α : Type} {c : Str} {fs : List (Str × PV)} {a : AH} {Q : α → AH → Prop} {X : EX} : wR (.er c fs a : R α) Q X = X c fs a := propext ⟨fun h => h, fun h => h⟩
theorem wR_b {α β : Type} {r : R α} {k : α → AH → R β} {Q : β → AH → Prop} {X : EX} : wR (r.bind k) Q X = wR r (fun v a => wR (k v a) Q X) X := by cases r <;> rfl
theorem true_eq_true : (true = true) = True := by simp
theorem wR_q {α : Type} {r : R α} {Q Q' : α → AH → Prop} {X : EX} (h : ∀ v a, Q v a = Q' v a) : wR r Q X = wR r Q' X := by
  cases r with
  | ok v a => exact h v a
  | _ => rfl
section
variable {e : Env} {a : AH} {Q : PV → AH → Prop} {Qs : List PV → AH → Prop} {X : EX} {D : En}
theorem w_lf {o : Option (PV × AH)} : wR (lf o) Q X = wO o fun p => Q p.1 p.2 := by cases o <;> rfl
theorem w_var {i : Nat} : wR (eVar i e a) Q X = wO (slot e i) fun v => Q v a := by
  unfold eVar
  cases slot e i <;> rfl
theorem w_c {v : PV} : wR (eC v e a) Q X = Q v a := propext ⟨fun h => h, fun h => h⟩
theorem w_bin {f : PV → PV → AH → Option (PV × AH)} {fa fb : FE} : wR (eBin f fa fb e a) Q X = wR (fa e a) (fun v a1 => wR (fb e a1) (fun u a2 => wO (f v u a2) fun p => Q p.1 p.2) X) X := by
  unfold eBin
  rw [wR_b]
  refine wR_q fun v a1 => ?_
  rw [wR_b]
  refine wR_q fun u a2 => ?_
  rw [w_lf]
theorem w_neg {i : Int} : wR (eNeg (eC (.int i)) e a) Q X = Q (.int (-i)) a := propext ⟨fun h => h, fun h => h⟩
theorem w_ch {f g : PV → PV → AH → Option (PV × AH)} {fa fb fc : FE} : wR (eCh f g fa fb fc e a) Q X = wR (fa e a) (fun v a1 => wR (fb e a1) (fun u a2 => wO (f v u a2) fun p => ifW p.1 (wR (fc e p.2) (fun w a4 => wO (g u w a4) fun p => Q p.1 p.2) X) (Q (.bl false) p.2)) X) X := by
  unfold eCh
  rw [wR_b]
  refine wR_q fun v a1 => ?_
  rw [wR_b]
  refine wR_q fun u a2 => ?_
  cases f v u a2 with
  | none => rfl
  | some p =>
    obtain ⟨b, a3⟩ := p
    cases b with
    | bl b =>
      cases b with
      | true =>
        show wR ((fc e a3).bind _) Q X = wR (fc e a3) _ X
        rw [wR_b]
        refine wR_q fun w a4 => ?_
        rw [w_lf]
      | false => rfl
    | _ => rfl
theorem w_and {fa fb : FE} : wR (eAnd fa fb e a) Q X = wR (fa e a) (fun v a1 => ifW v (wR (fb e a1) Q X) (Q (.bl false) a1)) X := by
  unfold eAnd
  rw [wR_b]
  refine wR_q fun v a1 => ?_
  cases v with
  | bl b => cases b <;> rfl
  | _ => rfl
theorem w_or {fa fb : FE} : wR (eOr fa fb e a) Q X = wR (fa e a) (fun v a1 => ifW v (Q (.bl true) a1) (wR (fb e a1) Q X)) X := by
  unfold eOr
  rw [wR_b]
  refine wR_q fun v a1 => ?_
  cases v with
  | bl b => cases b <;> rfl
  | _ => rfl
def notW (v : PV) (P : PV → Prop) (_ : DP P := ()) : Prop := match v with
  | .bl b => P (.bl (!b))
  | _ => False
theorem notW_b {b : Bool} {P : PV → Prop} : notW (.bl b) P = P (.bl (!b)) := propext ⟨fun h => h, fun h => h⟩
theorem w_not {fa : FE} : wR (eNot fa e a) Q X = wR (fa e a) (fun v a1 => notW v fun u => Q u a1) X := by
  unfold eNot
  rw [wR_b]
  refine wR_q fun v a1 => ?_
  cases v <;> rfl
theorem w_eif {ft fa fb : FE} : wR (eIf ft fa fb e a) Q X = wR (ft e a) (fun v a1 => ifW v (wR (fa e a1) Q X) (wR (fb e a1) Q X)) X := by
  unfold eIf
  rw [wR_b]
  refine wR_q fun v a1 => ?_
  cases v with
  | bl b => cases b <;> rfl
  | _ => rfl
theorem w_nil : wR (aNil e a) Qs X = Qs [] a := propext ⟨fun h => h, fun h => h⟩
theorem w_cons {fa : FE} {fr : FA} : wR (aCons fa fr e a) Qs X = wR (fa e a) (fun v a1 => wR (fr e a1) (fun vs a2 => Qs (v :: vs) a2) X) X := by
  unfold aCons
  rw [wR_b]
  refine wR_q fun v a1 => ?_
  rw [wR_b]
  rfl
theorem w_tup {fs : FA} : wR (eTup fs e a) Q X = wR (fs e a) (fun vs a1 => vs.length ≤ LIM ∧ Q (.tup vs) a1) X := by
  unfold eTup
  rw [wR_b]
  refine wR_q fun vs a1 => ?_
  by_cases h : vs.length ≤ LIM
  · rw [if_pos h]
    simp [h, wR_ok]
  · rw [if_neg h]
    simp [h, wR]
theorem w_lst {fs : FA} : wR (eLst fs e a) Q X = wR (fs e a) (fun vs a1 => vs.length ≤ LIM ∧ Q (.ref a1.n) (a1.new (.lst vs))) X := by
  unfold eLst
  rw [wR_b]
  refine wR_q fun vs a1 => ?_
  by_cases h : vs.length ≤ LIM
  · rw [if_pos h]
    simp [h, wR_ok]
  · rw [if_neg h]
    simp [h, wR]
theorem w_cb {f : List PV → AH → Option (PV × AH)} {fs : FA} : wR (eCB f fs e a) Q X = wR (fs e a) (fun vs a1 => wO (f vs a1) fun p => Q p.1 p.2) X := by
  unfold eCB
  rw [wR_b]
  refine wR_q fun v a1 => ?_
  rw [w_lf]
theorem w_call {F : FN} {fs : FA} : wR (eCall F fs e a) Q X = wR (fs e a) (fun vs a1 => wR (F vs a1) Q X) X := by
  unfold eCall
  rw [wR_b]
theorem w_callD {F : FN} {dv : List PV} {fs : FA} : wR (eCallD F dv fs e a) Q X = wR (fs e a) (fun vs a1 => wR (F (vs ++ dv) a1) Q X) X := by
  unfold eCallD
  rw [wR_b]
theorem w_callR {F : FN} {fs : FA} : wR (eCallR F fs e a) Q X = wR (fs e a) (fun vs a1 => wR (F vs.reverse a1) Q X) X := by
  unfold eCallR
  rw [wR_b]
def mkW (n : Nat) (Q : PV → AH → Prop) (v : PV) (a : AH) (_ : DP Q := ()) : Prop := match v with
  | .non => Q (.ref n) a
  | _ => False
theorem w_make {x : Str} {F : FN} {fs : FA} : wR (eMake x F fs e a) Q X = wR (fs e a) (fun vs a1 => wR (F (.ref a1.n :: vs) (a1.new (.ins x []))) (mkW a1.n Q) X) X := by
  unfold eMake
  rw [wR_b]
  refine wR_q fun vs a1 => ?_
  cases F (.ref a1.n :: vs) (a1.new (.ins x [])) with
  | ok v a => cases v <;> rfl
  | er c fs a => rfl
  | no => rfl
def wF (r : R (Option Int)) (P : Option Int → AH → Prop) (X : EX) (_ : DQ P X := ()) : Prop := wR r P X
theorem wF_c {r r' : R (Option Int)} {P : Option Int → AH → Prop} (h : r = r') : wF r P X = wF r' P X := by rw [h]
theorem w_oN {P : Option Int → AH → Prop} : wF (oNone e a) P X = P none a := propext ⟨fun h => h, fun h => h⟩
def intW (v : PV) (P : Int → Prop) (_ : DP P := ()) : Prop := match v with
  | .int i => P i
  | _ => False
theorem intW_i {i : Int} {P : Int → Prop} : intW (.int i) P = P i := propext ⟨fun h => h, fun h => h⟩
theorem w_oS {f : FE} {P : Option Int → AH → Prop} : wF (oSome f e a) P X = wR (f e a) (fun v a1 => intW v fun i => P (some i) a1) X := by
  unfold oSome wF
  rw [wR_b]
  refine wR_q fun v a1 => ?_
  cases v <;> rfl
theorem w_sl {fa : FE} {fl fh : FO} : wR (eSl fa fl fh e a) Q X = wR (fa e a) (fun v a1 => wF (fl e a1) (fun lo a2 => wF (fh e a2) (fun hi a3 => wO (slO v lo hi a3) fun p => Q p.1 p.2) X) X) X := by
  unfold eSl
  rw [wR_b]
  refine wR_q fun v a1 => ?_
  rw [wR_b]
  refine wR_q fun v a1 => ?_
  rw [wR_b]
  refine wR_q fun v a1 => ?_
  rw [w_lf]
theorem w_bm {f : PV → List PV → AH → Option (PV × AH)} {fo : FE} {fs : FA} {T : Nat} : wR (eBM T f fo fs e a) Q X = wR (fo e a) (fun v a1 => isT T v a1 = true ∧ wR (fs e a1) (fun vs a2 => wO (f v vs a2) fun p => Q p.1 p.2) X) X := by
  unfold eBM
  rw [wR_b]
  refine wR_q fun v a1 => ?_
  cases isT T v a1 with
  | true =>
    rw [true_eq_true, true_and]
    show wR ((fs e a1).bind _) Q X = _
    rw [wR_b]
    refine wR_q fun v a1 => ?_
    rw [w_lf]
  | false => simp [wR]
theorem w_bm0 {f : PV → List PV → AH → Option (PV × AH)} {fo : FE} {T : Nat} : wR (eBM0 T f fo e a) Q X = wR (fo e a) (fun v a1 => isT T v a1 = true ∧ wO (f v [] a1) fun p => Q p.1 p.2) X := by
  unfold eBM0
  rw [wR_b]
  refine wR_q fun v a1 => ?_
  cases isT T v a1 with
  | true => simp only [w_lf, true_and]
  | false => simp [wR]
theorem w_isi {f : BK → Bool} {oi oe : List (Str × Bool)} {fe : FE} : wR (eIsi f oi oe fe e a) Q X = wR (fe e a) (fun v a1 => wO (isV f oi oe a1 v) fun b => Q (.bl b) a1) X := by
  unfold eIsi
  rw [wR_b]
  refine wR_q fun v a1 => ?_
  cases isV f oi oe a1 v <;> rfl
theorem w_fld {cs : List Str} {f : Str} {fo : FE} : wR (eFld cs f fo e a) Q X = wR (fo e a) (fun v a1 => wO (getF cs f v a1) fun u => Q u a1) X := by
  unfold eFld
  rw [wR_b]
  refine wR_q fun v a1 => ?_
  cases getF cs f v a1 <;> rfl
theorem w_rgL {fa fb : FE} : wR (eRgL fa fb e a) Q X = wR (fa e a) (fun v a1 => wR (fb e a1) (fun u a2 => intW v fun i => intW u fun j => rgOkB i j = true ∧ Q (.ref a2.n) (a2.new (.lst (rgP i j)))) X) X := by
  unfold eRgL
  rw [wR_b]
  refine wR_q fun v a1 => ?_
  rw [wR_b]
  refine wR_q fun u a2 => ?_
  cases v with
  | int i =>
    cases u with
    | int j =>
      show wR (match rgOkB i j with | true => R.ok (PV.ref a2.n) (a2.new (.lst (rgP i j))) | false => .no) Q X = (rgOkB i j = true ∧ _)
      cases rgOkB i j <;> simp [wR]
    | _ => rfl
  | _ => rfl
theorem w_dnew : wR (eDNew e a) Q X = Q (.ref a.n) (a.new (.dct [])) := propext ⟨fun h => h, fun h => h⟩
/-! statements -/
theorem w_nx : wS (.nx e a) D = D.nx e a := propext ⟨fun h => h, fun h => h⟩
theorem w_rt {v : PV} : wS (.rt v a) D = D.rt v a := propext ⟨fun h => h, fun h => h⟩
theorem w_erS {c : Str} {fs : List (Str × PV)} : wS (.er c fs e a) D = D.er c fs e a := propext ⟨fun h => h, fun h => h⟩
theorem w_xB {α : Type} {r : R α} {k : α → AH → RS} : wS (xB e r k) D = wR r (fun v a => wS (k v a) D) (fun c fs a => D.er c fs e a) := by cases r <;> rfl
theorem s_nil : wS (sNil e a) D = D.nx e a := propext ⟨fun h => h, fun h => h⟩
theorem s_seq' {f g : GS} : wS (sSeq f g e a) D = wS (f e a) { D with nx := fun e a => wS (g e a) D } := by
  unfold sSeq
  cases f e a <;> rfl
theorem s_drop' {f : FE} : wS (sDrop f e a) D = wR (f e a) (fun _ a1 => D.nx e a1) (fun c fs a => D.er c fs e a) := w_xB
theorem s_ret' {f : FE} : wS (sRet f e a) D = wR (f e a) (fun v a1 => D.rt v a1) (fun c fs a => D.er c fs e a) := w_xB
theorem s_if' {ft : FE} {f g : GS} : wS (sIf ft f g e a) D = wR (ft e a) (fun v a1 => ifW v (wS (f e a1) D) (wS (g e a1) D)) (fun c fs a => D.er c fs e a) := by
  unfold sIf
  rw [w_xB]
  refine wR_q fun v a1 => ?_
  cases v with
  | bl b => cases b <;> rfl
  | _ => rfl
theorem s_set' {i : Nat} {f : FE} : wS (sSet i f e a) D = wR (f e a) (fun v a1 => D.nx (put e i v) a1) (fun c fs a => D.er c fs e a) := w_xB
def par2W (vs : List PV) (P : PV → PV → Prop) (_ : DP P := ()) : Prop := match vs with
  | [v, w] => P v w
  | _ => False
theorem par2W_i {v w : PV} {P : PV → PV → Prop} : par2W [v, w] P = P v w := propext ⟨fun h => h, fun h => h⟩
def par3W (vs : List PV) (P : PV → PV → PV → Prop) (_ : DP P := ()) : Prop := match vs with
  | [v, w, u] => P v w u
  | _ => False
theorem par3W_i {v w u : PV} {P : PV → PV → PV → Prop} : par3W [v, w, u] P = P v w u := propext ⟨fun h => h, fun h => h⟩
theorem s_par' {i j : Nat} {f : FA} : wS (sPar i j f e a) D = wR (f e a) (fun vs a1 => par2W vs fun v w => D.nx (put (put e i v) j w) a1) (fun c fs a => D.er c fs e a) := by
  unfold sPar
  rw [w_xB]
  refine wR_q fun vs a1 => ?_
  match vs with
  | [] => rfl
  | [_] => rfl
  | [_, _] => rfl
  | _ :: _ :: _ :: _ => rfl
theorem s_par3' {i j k : Nat} {f : FA} : wS (sPar3 i j k f e a) D = wR (f e a) (fun vs a1 => par3W vs fun v w u => D.nx (put (put (put e i v) j w) k u) a1) (fun c fs a => D.er c fs e a) := by
  unfold sPar3
  rw [w_xB]
  refine wR_q fun vs a1 => ?_
  match vs with
  | [] => rfl
  | [_] => rfl
  | [_, _] => rfl
  | [_, _, _] => rfl
  | _ :: _ :: _ :: _ :: _ => rfl
theorem s_augI' {i : Nat} {fe : FE} : wS (sAugI i fe e a) D = wO (slot e i) fun u => intW u fun n => wR (fe e a) (fun v a1 => intW v fun m => D.nx (put e i (.int (n + m))) a1) (fun c fs a => D.er c fs e a) := by
  unfold sAugI
  cases slot e i with
  | none => rfl
  | some u =>
    cases u with
    | int n =>
      show wS (xB e (fe e a) _) D = wR (fe e a) _ _
      rw [w_xB]
      refine wR_q fun v a1 => ?_
      cases v <;> rfl
    | _ => rfl
def onW (o : RS) (D : En) (_ : DN D := ()) : Prop := wS o.only D
theorem onW_c {r r' : RS} (h : r = r') : onW r D = onW r' D := by rw [h]
theorem on_nx : onW (.nx e a) D = D.nx e a := propext ⟨fun h => h, fun h => h⟩
theorem s_asg' {f : FE} {g : GT} : wS (sAsg f g e a) D = wR (f e a) (fun v a1 => onW (g v e a1) D) (fun c fs a => D.er c fs e a) := w_xB
theorem gw_nm {i : Nat} {v : PV} : gNm i v e a = .nx (put e i v) a := rfl
theorem gw_tu2 {i j : Nat} {v u : PV} : gTu 2 (gCo (gNm i) (gCo (gNm j) gNo)) (.tup [v, u]) e a = .nx (put (put e i v) j u) a := rfl
theorem gw_tu3 {i j k : Nat} {v u w : PV} : gTu 3 (gCo (gNm i) (gCo (gNm j) (gCo (gNm k) gNo))) (.tup [v, u, w]) e a = .nx (put (put (put e i v) j u) k w) a := rfl
theorem on_sub {fo fi : FE} {v : PV} : onW (gSub fo fi v e a) D = wR (fo e a) (fun o a1 => wR (fi e a1) (fun i a2 => wO (setO o i v a2) fun a3 => D.nx e a3) (fun c fs a => D.er c fs e a)) (fun c fs a => D.er c fs e a) := by
  unfold gSub onW
  cases fo e a with
  | no => rfl
  | er c fs a1 => rfl
  | ok o a1 =>
    show wS (xB e (fi e a1) _).only D = wR (fi e a1) _ _
    cases fi e a1 with
    | no => rfl
    | er c fs a2 => rfl
    | ok i a2 =>
      show wS (match setO o i v a2 with | some a3 => RS.nx e a3 | none => .no).only D = wO (setO o i v a2) _
      cases setO o i v a2 <;> rfl
theorem s_fld' {cs : List Str} {f : Str} {fo fv : FE} : wS (sFld cs f fo fv e a) D = wR (fv e a) (fun v a1 => wR (fo e a1) (fun o a2 => wO (setF cs f o v a2) fun a3 => D.nx e a3) (fun c fs a => D.er c fs e a)) (fun c fs a => D.er c fs e a) := by
  unfold sFld
  rw [w_xB]
  refine wR_q fun v a1 => ?_
  rw [w_xB]
  refine wR_q fun o a2 => ?_
  cases setF cs f o v a2 <;> rfl
theorem s_raise' {c : Str} : wS (sRaise c e a) D = D.er c [] e a := propext ⟨fun h => h, fun h => h⟩
theorem s_raise1' {c f : Str} {fe : FE} : wS (sRaise1 c f fe e a) D = wR (fe e a) (fun v a1 => D.er c [(f, v)] e a1) (fun c fs a => D.er c fs e a) := w_xB
theorem s_for' {fi : FI} {g : GT} {body : GS} : wS (sFor fi g body e a) D = wR (fi e a) (fun p a1 => wS (forL g body (turns a1 p) p e a1) D) (fun c fs a => D.er c fs e a) := w_xB
/-- a def called -/
theorem w_F {k n : Nat} {g : GS} {vs : List PV} : wR (mkF k n g vs a) Q X = if Nat.beq vs.length k = true then wS (g (startE n vs) a) { nx := fun _ a => Q .non a, rt := Q, er := fun c fs _ a => X c fs a } else False := by
  unfold mkF
  cases Nat.beq vs.length k with
  | true =>
    rw [if_pos rfl]
    show wR (rsF (g (startE n vs) a)) Q X = _
    cases g (startE n vs) a <;> rfl
  | false => simp [wR]
end
/-- iteration -/
inductive Yl (P : AH → Prop) : PIt → List PV → Prop where
  | nil {p : PIt} (h : ∀ a, P a → nxt p a = some none) : Yl P p []
  | cons {p p' : PIt} {v : PV} {l : List PV} (h : ∀ a, P a → nxt p a = some (some (v, p'))) (t : Yl P p' l) : Yl P p (v :: l)
theorem yl_seq {P : AH → Prop} : ∀ l : List PV, Yl P (.seq l) l
  | [] => .nil fun _ _ => rfl
  | v :: l => .cons (fun _ _ => rfl) (yl_seq l)
theorem yl_rg {P : AH → Prop} : ∀ (n : Nat) (lo : Int), Yl P (.rg lo n) ((List.range n).map fun i => PV.int (lo + (i : Nat)))
  | 0, _ => .nil fun _ _ => rfl
  | n + 1, lo => by
    have t := yl_rg (P := P) n (lo + 1)
    have e : ((List.range (n + 1)).map fun i => PV.int (lo + (i : Nat))) = .int lo :: ((List.range n).map fun i => PV.int (lo + 1 + (i : Nat))) := by
      rw [List.range_succ_eq_map, List.map_cons, List.map_map]
      congr 1
      · simp
      · refine List.map_congr_left fun i _ => ?_
        show PV.int (lo + ((i + 1 : Nat) : Int)) = _
        congr 1
        omega
    rw [e]
    exact .cons (fun _ _ => rfl) t
theorem nxt_hl {i k : Nat} {a : AH} {l : List PV} (g : a.get i = some (.lst l)) : nxt (.hl i k) a = match atN l k with
    | some v => some (some (v, .hl i (k + 1)))
    | none => some none := by
  show (match a.get i with | some (.lst l) => (match atN l k with | some v => some (some (v, PIt.hl i (k + 1))) | none => some none) | _ => none) = _
  rw [g]
theorem nxt_enh {i k : Nat} {a : AH} {l : List PV} (g : a.get i = some (.lst l)) : nxt (.enh i k) a = match atN l k with
    | some v => some (some (.tup [.int k, v], .enh i (k + 1)))
    | none => some none := by
  show (match a.get i with | some (.lst l) => (match atN l k with | some v => some (some (PV.tup [.int k, v], PIt.enh i (k + 1))) | none => some none) | _ => none) = _
  rw [g]
theorem yl_hl' {P : AH → Prop} {i : Nat} {l : List PV} (hP : ∀ a, P a → a.get i = some (.lst l)) : ∀ (m : List PV) (k : Nat), l.drop k = m → Yl P (.hl i k) m
  | [], k, e => .nil fun a p => by
    rw [nxt_hl (hP a p), atN_is, List.getElem?_eq_none (List.drop_eq_nil_iff.mp e)]
  | v :: m, k, e => by
    have hv : l[k]? = some v := by
      have := List.getElem?_drop (xs := l) (i := k) (j := 0)
      rw [e] at this
      simpa using this.symm
    refine .cons (p' := .hl i (k + 1)) (fun a p => by rw [nxt_hl (hP a p), atN_is, hv]) (yl_hl' hP m (k + 1) ?_)
    rw [← List.tail_drop, e] <;> rfl
theorem yl_hl {P : AH → Prop} {i : Nat} {l : List PV} (hP : ∀ a, P a → a.get i = some (.lst l)) : Yl P (.hl i 0) l := yl_hl' hP l 0 rfl
/-- pairs of places and values -/
def enm : Nat → List PV → List PV
  | _, [] => []
  | k, v :: l => .tup [.int k, v] :: enm (k + 1) l
theorem enm_len : ∀ (k : Nat) (l : List PV), (enm k l).length = l.length
  | _, [] => rfl
  | k, v :: l => by simp [enm, enm_len (k + 1) l]
theorem yl_enh' {P : AH → Prop} {i : Nat} {l : List PV} (hP : ∀ a, P a → a.get i = some (.lst l)) : ∀ (m : List PV) (k : Nat), l.drop k = m → Yl P (.enh i k) (enm k m)
  | [], k, e => .nil fun a p => by
    rw [nxt_enh (hP a p), atN_is, List.getElem?_eq_none (List.drop_eq_nil_iff.mp e)]
  | v :: m, k, e => by
    have hv : l[k]? = some v := by
      have := List.getElem?_drop (xs := l) (i := k) (j := 0)
      rw [e] at this
      simpa using this.symm
    refine .cons (p' := .enh i (k + 1)) (fun a p => by rw [nxt_enh (hP a p), atN_is, hv]) (yl_enh' hP m (k + 1) ?_)
    rw [← List.tail_drop, e] <;> rfl
theorem yl_enh {P : AH → Prop} {i : Nat} {l : List PV} (hP : ∀ a, P a → a.get i = some (.lst l)) : Yl P (.enh i 0) (enm 0 l) := yl_enh' hP l 0 rfl
/-- a loop over known values: I holds ahead of what is left -/
theorem w_for {g : GT} {body : GS} {D : En} (P : AH → Prop) (I : List PV → Env → AH → Prop) (hP : ∀ l e a, I l e a → P a) (done : ∀ e a, I [] e a → D.nx e a)
    (turn : ∀ v l e a, I (v :: l) e a → onW (g v e a) { nx := fun e1 a1 => wS (body e1 a1) { nx := I l, ct := I l, bk := D.nx, rt := D.rt, er := D.er }, er := D.er }) :
    ∀ (l : List PV) (p : PIt) (f : Nat) (e : Env) (a : AH), Yl P p l → l.length < f → I l e a → wS (forL g body f p e a) D
  | _, _, 0, _, _, _, h, _ => absurd h (Nat.not_lt_zero _)
  | [], p, f + 1, e, a, y, _, i => by
    cases y with
    | nil h =>
      show wS (match nxt p a with | none => RS.no | some none => .nx e a | some (some (v, p')) => ((g v e a).only).seq fun e1 a1 => match body e1 a1 with | .nx e2 a2 => forL g body f p' e2 a2 | .ct e2 a2 => forL g body f p' e2 a2 | .bk e2 a2 => .nx e2 a2 | o => o) D
      rw [h a (hP _ _ _ i)]
      exact done e a i
  | v :: l, p, f + 1, e, a, y, h, i => by
    cases y with
    | @cons _ p' _ _ hn yt =>
    have t := turn v l e a i
    show wS (match nxt p a with | none => RS.no | some none => .nx e a | some (some (v, p')) => ((g v e a).only).seq fun e1 a1 => match body e1 a1 with | .nx e2 a2 => forL g body f p' e2 a2 | .ct e2 a2 => forL g body f p' e2 a2 | .bk e2 a2 => .nx e2 a2 | o => o) D
    rw [hn a (hP _ _ _ i)]
    show wS (((g v e a).only).seq fun e1 a1 => match body e1 a1 with | .nx e2 a2 => forL g body f p' e2 a2 | .ct e2 a2 => forL g body f p' e2 a2 | .bk e2 a2 => .nx e2 a2 | o => o) D
    unfold onW at t
    cases q : (g v e a).only with
    | no => rw [q] at t; exact t
    | er c fs e1 a1 => rw [q] at t; exact t
    | rt v a => rw [q] at t; exact t.elim
    | bk e a => rw [q] at t; exact t.elim
    | ct e a => rw [q] at t; exact t.elim
    | nx e1 a1 =>
      rw [q] at t
      have t' : wS (body e1 a1) { nx := I l, ct := I l, bk := D.nx, rt := D.rt, er := D.er } := t
      have hl : l.length < f := by
        rw [List.length_cons] at h
        omega
      show wS (match body e1 a1 with | .nx e2 a2 => forL g body f p' e2 a2 | .ct e2 a2 => forL g body f p' e2 a2 | .bk e2 a2 => .nx e2 a2 | o => o) D
      cases q1 : body e1 a1 with
      | nx e2 a2 => rw [q1] at t'; exact w_for P I hP done turn l p' f e2 a2 yt hl t'
      | ct e2 a2 => rw [q1] at t'; exact w_for P I hP done turn l p' f e2 a2 yt hl t'
      | bk e2 a2 => rw [q1] at t'; exact t'
      | rt v a2 => rw [q1] at t'; exact t'
      | er c fs e2 a2 => rw [q1] at t'; exact t'
      | no => rw [q1] at t'; exact t'
end VI
end
section
set_option maxRecDepth 100000
/-! Running: comprehensions, rules for simp. -/
namespace VI
open PySem PyProof.Rows

theorem lc_nxt {b : BT} {ft fe : FE} {d f : Nat} {p p' : PIt} {v : PV} {e : Env} {a : AH} (h : nxt p a = some (some (v, p'))) : lcL b ft fe d (f + 1) p e a = match b v e with | none => none | some e1 => (match ft e1 a with | .ok (.bl true) a1 => (match fe e1 a1 with | .ok u a2 => (match a2.get d with | some (.lst l0) => (match Nat.blt l0.length LIM with | true => lcL b ft fe d f p' e (a2.put d (.lst (l0 ++ [u]))) | false => none) | _ => none) | _ => none) | .ok (.bl false) a1 => lcL b ft fe d f p' e a1 | _ => none) := by
  show (match nxt p a with | none => none | some none => some a | some (some (v, p')) => match b v e with | none => none | some e1 => match ft e1 a with | .ok (.bl true) a1 => (match fe e1 a1 with | .ok u a2 => (match a2.get d with | some (.lst l0) => (match Nat.blt l0.length LIM with | true => lcL b ft fe d f p' e (a2.put d (.lst (l0 ++ [u]))) | false => none) | _ => none) | _ => none) | .ok (.bl false) a1 => lcL b ft fe d f p' e a1 | _ => none) = _
  rw [h]
/-- the parts of a comprehension at v, behind a0 -/
def LcQ (b : BT) (ft fe : FE) (e : Env) (a0 : AH) (p : PV → Bool) (f : PV → PV) (v : PV) : Prop :=
  ∀ a, Xt a0 a → ∃ e1, b v e = some e1 ∧ wR (ft e1 a) (fun u a1 => u = .bl (p v) ∧ Xt a a1 ∧ (p v = true → wR (fe e1 a1) (fun w a2 => w = f v ∧ Xt a1 a2))) (fun _ _ _ => False)
theorem lc_y {b : BT} {ft fe : FE} {e : Env} {a0 : AH} {p : PV → Bool} {f : PV → PV} {d : Nat} (hd : a0.n ≤ d) : ∀ (l acc : List PV) (q : PIt) (k : Nat) (a : AH), Yl (Xt a0) q l → l.length < k → (∀ v ∈ l, LcQ b ft fe e a0 p f v) → Xt a0 a → d < a.n → a.get d = some (.lst acc) → acc.length + l.length ≤ LIM →
    ∃ a', lcL b ft fe d k q e a = some a' ∧ Xt a0 a' ∧ a.n ≤ a'.n ∧ a'.get d = some (.lst (acc ++ pick2 p f l)) ∧ ∀ i, i < a.n → i ≠ d → a'.get i = a.get i
  | _, _, _, 0, _, _, h, _, _, _, _, _ => absurd h (Nat.not_lt_zero _)
  | [], acc, q, k + 1, a, y, _, _, x, dn, g, _ => by
    cases y with
    | nil hn =>
      refine ⟨a, ?_, x, Nat.le_refl _, by rw [g]; simp [pick2], fun _ _ _ => rfl⟩
      show (match nxt q a with | none => none | some none => some a | some (some (v, p')) => _) = _
      rw [hn a x]
  | v :: l, acc, q, k + 1, a, y, h, hp, x, dn, g, hl => by
    cases y with
    | @cons _ q' _ _ hn yt =>
    obtain ⟨e1, h1, h2⟩ := hp v List.mem_cons_self a x
    have hk : l.length < k := by
      rw [List.length_cons] at h
      omega
    have hp' : ∀ w ∈ l, LcQ b ft fe e a0 p f w := fun w hw => hp w (List.mem_cons_of_mem _ hw)
    rw [lc_nxt (hn a x), h1]
    show ∃ a', (match ft e1 a with | .ok (.bl true) a1 => (match fe e1 a1 with | .ok u a2 => (match a2.get d with | some (.lst l0) => (match Nat.blt l0.length LIM with | true => lcL b ft fe d k q' e (a2.put d (.lst (l0 ++ [u]))) | false => none) | _ => none) | _ => none) | .ok (.bl false) a1 => lcL b ft fe d k q' e a1 | _ => none) = some a' ∧ _
    cases eft : ft e1 a with
    | no => rw [eft] at h2; exact h2.elim
    | er c fs a1 => rw [eft] at h2; exact h2.elim
    | ok u a1 =>
      rw [eft] at h2
      have h2 : u = .bl (p v) ∧ Xt a a1 ∧ (p v = true → wR (fe e1 a1) (fun w a2 => w = f v ∧ Xt a1 a2) (fun _ _ _ => False)) := h2
      obtain ⟨rfl, x1, h3⟩ := h2
      cases hv : p v with
      | false =>
        obtain ⟨a', r1, r2, r3, r4, r5⟩ := lc_y hd l acc q' k a1 yt hk hp' (x.trans x1) (Nat.lt_of_lt_of_le dn x1.le) (by rw [x1.old d dn]; exact g) (by rw [List.length_cons] at hl; omega)
        refine ⟨a', r1, r2, Nat.le_trans x1.le r3, ?_, fun i hi ne => by rw [r5 i (Nat.lt_of_lt_of_le hi x1.le) ne, x1.old i hi]⟩
        rw [r4]
        simp [pick2, hv]
      | true =>
        have h4 := h3 hv
        show ∃ a', (match fe e1 a1 with | .ok u a2 => (match a2.get d with | some (.lst l0) => (match Nat.blt l0.length LIM with | true => lcL b ft fe d k q' e (a2.put d (.lst (l0 ++ [u]))) | false => none) | _ => none) | _ => none) = some a' ∧ _
        cases efe : fe e1 a1 with
        | no => rw [efe] at h4; exact h4.elim
        | er c fs a1 => rw [efe] at h4; exact h4.elim
        | ok w a2 =>
          rw [efe] at h4
          have h4 : w = f v ∧ Xt a1 a2 := h4
          obtain ⟨rfl, x2⟩ := h4
          have x12 := x1.trans x2
          show ∃ a', (match a2.get d with | some (.lst l0) => (match Nat.blt l0.length LIM with | true => lcL b ft fe d k q' e (a2.put d (.lst (l0 ++ [f v]))) | false => none) | _ => none) = some a' ∧ _
          have g2 : a2.get d = some (.lst acc) := by
            rw [x12.old d dn]
            exact g
          rw [g2]
          have hb : Nat.blt acc.length LIM = true := by
            rw [List.length_cons] at hl
            exact Nat.ble_eq_true_of_le (by omega)
          show ∃ a', (match Nat.blt acc.length LIM with | true => lcL b ft fe d k q' e (a2.put d (.lst (acc ++ [f v]))) | false => none) = some a' ∧ _
          rw [hb]
          obtain ⟨a', r1, r2, r3, r4, r5⟩ := lc_y hd l (acc ++ [f v]) q' k (a2.put d (.lst (acc ++ [f v]))) yt hk hp' ((x.trans x12).put hd _) (Nat.lt_of_lt_of_le dn x12.le) (by rw [AH.get_put, if_pos rfl]) (by rw [List.length_append, List.length_singleton]; rw [List.length_cons] at hl; omega)
          refine ⟨a', r1, r2, Nat.le_trans x12.le r3, ?_, fun i hi ne => ?_⟩
          · rw [r4]
            simp [pick2, hv]
          · rw [r5 i (Nat.lt_of_lt_of_le hi x12.le) ne, AH.get_put, if_neg ne, x12.old i hi]
section
variable {e : Env} {a : AH} {Q : PV → AH → Prop} {X : EX} {D : En}
/-- a comprehension: what it goes over first, then lc_use -/
def lcW (vs : List Nat) (b : BT) (ft fe : FE) (e : Env) (p : PIt) (a1 : AH) (Q : PV → AH → Prop) (_ : DP Q := ()) : Prop := wO (lcL b ft fe a1.n (turns a1 p) p (wipeE e vs) (a1.new (.lst []))) fun a2 => Q (.ref a1.n) a2
theorem w_lc {vs : List Nat} {fi : FI} {b : BT} {ft fe : FE} : wR (eLc vs fi b ft fe e a) Q X = wR (fi e a) (fun p a1 => lcW vs b ft fe e p a1 Q) X := by
  unfold eLc lcW
  rw [wR_b]
  refine wR_q fun p a1 => ?_
  cases lcL b ft fe a1.n (turns a1 p) p (wipeE e vs) (a1.new (.lst [])) <;> rfl
theorem lc_use {vs : List Nat} {b : BT} {ft fe : FE} {p : PIt} (t : PV → Bool) (f : PV → PV) (l : List PV) (y : Yl (Xt a) p l) (ht : turns a p = l.length + 1) (hl : l.length ≤ LIM) (hp : ∀ v ∈ l, LcQ b ft fe (wipeE e vs) a t f v)
    (k : ∀ a', Xt a a' → a.n < a'.n → a'.get a.n = some (.lst (pick2 t f l)) → Q (.ref a.n) a') : lcW vs b ft fe e p a Q := by
  have g0 : (a.new (.lst [])).get a.n = some (.lst []) := by
    rw [AH.get_new, if_pos rfl]
  obtain ⟨a', r1, r2, r3, r4, _⟩ := lc_y (d := a.n) (Nat.le_refl _) l [] p (turns a p) (a.new (.lst [])) y (by omega) hp (Xt.new a _) (Nat.lt_succ_self _) g0 (by simpa using hl)
  unfold lcW
  rw [r1]
  exact k a' r2 (Nat.lt_of_lt_of_le (Nat.lt_succ_self _) r3) (by simpa using r4)
theorem wR_i {r : R PIt} {P : PIt → AH → Prop} {f : FE} : wR (fVal f e a) P X = wR (f e a) (fun v a1 => match v with
    | .tup l => P (.seq l) a1
    | .rol l => P (.seq l) a1
    | .ref i => wO (a1.get i) fun o => match o with
      | .lst _ => P (.hl i 0) a1
      | _ => False
    | _ => False) X := by
  unfold fVal
  rw [wR_b]
  refine wR_q fun v a1 => ?_
  cases v with
  | ref i =>
    show wR (match a1.get i with | some (.lst _) => R.ok (PIt.hl i 0) a1 | _ => .no) P X = wO (a1.get i) _
    cases a1.get i with
    | none => rfl
    | some o => cases o <;> rfl
  | _ => rfl
def itW (v : PV) (a : AH) (P : PIt → Prop) (_ : DP P := ()) : Prop := match v with
    | .tup l => P (.seq l)
    | .rol l => P (.seq l)
    | .ref i => wO (a.get i) fun o => match o with
      | .lst _ => P (.hl i 0)
      | _ => False
    | _ => False
theorem f_val {P : PIt → AH → Prop} {f : FE} : wR (fVal f e a) P X = wR (f e a) (fun v a1 => itW v a1 fun p => P p a1) X := wR_i (r := .no)
theorem it_tup {l : List PV} {P : PIt → Prop} : itW (.tup l) a P = P (.seq l) := propext ⟨fun h => h, fun h => h⟩
theorem it_rol {l : List PV} {P : PIt → Prop} : itW (.rol l) a P = P (.seq l) := propext ⟨fun h => h, fun h => h⟩
theorem it_ref {i : Nat} {l : List PV} {P : PIt → Prop} (h : a.get i = some (.lst l)) : itW (.ref i) a P = P (.hl i 0) := by
  unfold itW
  simp only [h, wO_some]
def rgW (vs : List PV) (P : PIt → Prop) (_ : DP P := ()) : Prop := match vs with
  | [.int j] => smallI j = true ∧ P (.rg 0 j.toNat)
  | _ => False
theorem rgW_i {j : Int} {P : PIt → Prop} : rgW [.int j] P = (smallI j = true ∧ P (.rg 0 j.toNat)) := propext ⟨fun h => h, fun h => h⟩
theorem f_rg1 {P : PIt → AH → Prop} {f : FA} : wR (fRng1 f e a) P X = wR (f e a) (fun vs a1 => rgW vs fun p => P p a1) X := by
  unfold fRng1
  rw [wR_b]
  refine wR_q fun vs a1 => ?_
  match vs with
  | [] => rfl
  | [.int j] =>
    show wR (match smallI j with | true => R.ok (PIt.rg 0 j.toNat) a1 | false => .no) P X = (smallI j = true ∧ _)
    cases smallI j <;> simp [wR]
  | [.non] => rfl
  | [.bl _] => rfl
  | [.str _] => rfl
  | [.tup _] => rfl
  | [.ref _] => rfl
  | [.rol _] => rfl
  | [.exc _ _ _] => rfl
  | x :: _ :: _ => cases x <;> rfl
def enW (vs : List PV) (a : AH) (P : PIt → Prop) (_ : DP P := ()) : Prop := match vs with
  | [.ref i] => wO (a.get i) fun o => match o with
      | .lst _ => P (.enh i 0)
      | _ => False
  | _ => False
theorem en_ref {i : Nat} {l : List PV} {P : PIt → Prop} (h : a.get i = some (.lst l)) : enW [.ref i] a P = P (.enh i 0) := by
  unfold enW
  simp only [h, wO_some]
theorem f_enm {P : PIt → AH → Prop} {f : FA} : wR (fEnm f e a) P X = wR (f e a) (fun vs a1 => enW vs a1 fun p => P p a1) X := by
  unfold fEnm
  rw [wR_b]
  refine wR_q fun vs a1 => ?_
  match vs with
  | [] => rfl
  | [.ref i] =>
    show wR (match a1.get i with | some (.lst _) => R.ok (PIt.enh i 0) a1 | _ => .no) P X = wO (a1.get i) _
    cases a1.get i with
    | none => rfl
    | some o => cases o <;> rfl
  | [.int j] => rfl
  | [.non] => rfl
  | [.bl _] => rfl
  | [.str _] => rfl
  | [.tup _] => rfl
  | [.rol _] => rfl
  | [.exc _ _ _] => rfl
  | x :: _ :: _ => cases x <;> rfl
def revW (v : PV) (a : AH) (Q : PV → AH → Prop) : Prop := match v with
  | .tup l => Q (.tup l.reverse) a
  | .rol l => Q (.ref a.n) (a.new (.lst l.reverse))
  | _ => False
/-! values -/
theorem o_xor {i : Int} {P : PV × AH → Prop} : wO (bXor (.int i) (.int 1) a) P = P (.int (x1 i), a) := propext ⟨fun h => h, fun h => h⟩
theorem o_add {i j : Int} {P : PV × AH → Prop} : wO (bAdd (.int i) (.int j) a) P = P (.int (i + j), a) := propext ⟨fun h => h, fun h => h⟩
theorem o_sub {i j : Int} {P : PV × AH → Prop} : wO (bSub (.int i) (.int j) a) P = P (.int (i - j), a) := propext ⟨fun h => h, fun h => h⟩
theorem o_addT {l m : List PV} {P : PV × AH → Prop} : wO (bAdd (.tup l) (.tup m) a) P = (l.length + m.length ≤ LIM ∧ P (.tup (l ++ m), a)) := by
  show wO (if l.length + m.length ≤ LIM then some (PV.tup (l ++ m), a) else none) P = _
  by_cases h : l.length + m.length ≤ LIM
  · rw [if_pos h]; simp [h, wO]
  · rw [if_neg h]; simp [h, wO]
theorem o_mod {i j : Int} {P : PV × AH → Prop} : wO (bMod (.int i) (.int j) a) P = (0 < j ∧ P (.int (i % j), a)) := by
  show wO (match decide (0 < j) with | true => some (PV.int (i % j), a) | false => none) P = _
  by_cases h : 0 < j
  · rw [decide_eq_true h]; simp [h, wO]
  · rw [decide_eq_false h]; simp [h, wO]
theorem o_div {i j : Int} {P : PV × AH → Prop} : wO (bDiv (.int i) (.int j) a) P = ((0 < j ∧ j < 1073741824) ∧ P (.int (i / j), a)) := by
  show wO (match decide (0 < j) && decide (j < 1073741824) with | true => some (PV.int (i / j), a) | false => none) P = _
  by_cases h : 0 < j
  · by_cases h2 : j < 1073741824
    · rw [decide_eq_true h, decide_eq_true h2]; simp [h, h2, wO]
    · rw [decide_eq_true h, decide_eq_false h2]; simp [h, h2, wO]
  · rw [decide_eq_false h]; simp [h, wO]
theorem o_mul {i j : Int} {P : PV × AH → Prop} : wO (bMul (.int i) (.int j) a) P = (cMulB i j = true ∧ P (.int (i * j), a)) := by
  show wO (match cMulB i j with | true => some (PV.int (i * j), a) | false => none) P = _
  cases cMulB i j <;> simp [wO]
theorem o_lt {i j : Int} {P : PV × AH → Prop} : wO (cLt (.int i) (.int j) a) P = P (.bl (decide (i < j)), a) := propext ⟨fun h => h, fun h => h⟩
theorem o_le {i j : Int} {P : PV × AH → Prop} : wO (cLe (.int i) (.int j) a) P = P (.bl (decide (i ≤ j)), a) := propext ⟨fun h => h, fun h => h⟩
theorem o_gt {i j : Int} {P : PV × AH → Prop} : wO (cGt (.int i) (.int j) a) P = P (.bl (decide (j < i)), a) := propext ⟨fun h => h, fun h => h⟩
theorem o_ge {i j : Int} {P : PV × AH → Prop} : wO (cGe (.int i) (.int j) a) P = P (.bl (decide (j ≤ i)), a) := propext ⟨fun h => h, fun h => h⟩
theorem o_eqi {i j : Int} {P : PV × AH → Prop} : wO (cEq (.int i) (.int j) a) P = P (.bl (decide (i = j)), a) := by
  rw [cEq_int] <;> rfl
theorem cNe_int {i j : Int} : cNe (.int i) (.int j) a = some (.bl (!decide (i = j)), a) := by
  unfold cNe
  rw [toD_int, toD_int]
  show some (PV.bl (!PyData.eqv (.int i) (.int j)), a) = _
  rw [PyData.eqv]
  by_cases h : i = j
  · simp [h]
  · simp [h]
theorem o_nei {i j : Int} {P : PV × AH → Prop} : wO (cNe (.int i) (.int j) a) P = P (.bl (!decide (i = j)), a) := by
  rw [cNe_int] <;> rfl
theorem o_eqw {w u : List Int} {P : PV × AH → Prop} : wO (cEq (.tup (iw w)) (.tup (iw u)) a) P = P (.bl (decide (w = u)), a) := by
  rw [cEq_tup] <;> rfl
theorem o_eqw0 {w : List Int} {P : PV × AH → Prop} : wO (cEq (.tup (iw w)) (.tup []) a) P = P (.bl (decide (w = [])), a) := o_eqw (u := [])
theorem o_new {w u : List Int} {P : PV × AH → Prop} : wO (cNe (.tup (iw w)) (.tup (iw u)) a) P = P (.bl (!decide (w = u)), a) := by
  rw [cNe_tup] <;> rfl
theorem o_new0 {w : List Int} {P : PV × AH → Prop} : wO (cNe (.tup (iw w)) (.tup []) a) P = P (.bl (!decide (w = [])), a) := o_new (u := [])
theorem o_ixT {l : List PV} {i : Int} {P : PV × AH → Prop} : wO (ixO (.tup l) (.int i) a) P = wO (L2.atI l i) fun w => P (w, a) := by
  show wO ((L2.atI l i).map fun w => (w, a)) P = _
  rw [wO_map]
theorem o_ixL {j : Nat} {l : List PV} {i : Int} {P : PV × AH → Prop} (h : a.get j = some (.lst l)) : wO (ixO (.ref j) (.int i) a) P = wO (L2.atI l i) fun w => P (w, a) := by
  show wO (match a.get j with | some (.lst l) => (match (PV.int i) with | .int i => (L2.atI l i).map fun w => (w, a) | _ => none) | some (.dct kvs) => (match keyOf (PV.int i) with | some q => (dlook kvs q).map fun w => (w, a) | none => none) | _ => none) P = _
  rw [h]
  show wO ((L2.atI l i).map fun w => (w, a)) P = _
  rw [wO_map]
theorem o_lenT {l : List PV} {P : PV × AH → Prop} : wO (bLen [.tup l] a) P = P (.int l.length, a) := propext ⟨fun h => h, fun h => h⟩
theorem o_lenR {l : List PV} {P : PV × AH → Prop} : wO (bLen [.rol l] a) P = P (.int l.length, a) := propext ⟨fun h => h, fun h => h⟩
theorem o_lenL {j : Nat} {l : List PV} {P : PV × AH → Prop} (h : a.get j = some (.lst l)) : wO (bLen [.ref j] a) P = P (.int l.length, a) := by
  simp only [bLen, h, wO_some]
theorem o_int {i : Int} {P : PV × AH → Prop} : wO (bInt [.int i] a) P = P (.int i, a) := propext ⟨fun h => h, fun h => h⟩
theorem o_tupT {l : List PV} {P : PV × AH → Prop} : wO (bTuple [.tup l] a) P = P (.tup l, a) := propext ⟨fun h => h, fun h => h⟩
theorem o_tupL {j : Nat} {l : List PV} {P : PV × AH → Prop} (h : a.get j = some (.lst l)) : wO (bTuple [.ref j] a) P = P (.tup l, a) := by
  simp only [bTuple, h, wO_some]
theorem o_lisT {l : List PV} {P : PV × AH → Prop} : wO (bList [.tup l] a) P = P (.ref a.n, a.new (.lst l)) := propext ⟨fun h => h, fun h => h⟩
theorem o_lisL {j : Nat} {l : List PV} {P : PV × AH → Prop} (h : a.get j = some (.lst l)) : wO (bList [.ref j] a) P = P (.ref a.n, a.new (.lst l)) := by
  simp only [bList, h, wO_some]
theorem o_min {i j : Int} {P : PV × AH → Prop} : wO (bMin [.int i, .int j] a) P = P (.int (if j < i then j else i), a) := propext ⟨fun h => h, fun h => h⟩
theorem o_max {i j : Int} {P : PV × AH → Prop} : wO (bMax [.int i, .int j] a) P = P (.int (if j > i then j else i), a) := propext ⟨fun h => h, fun h => h⟩
theorem o_slT {l : List PV} {lo hi : Option Int} {P : PV × AH → Prop} : wO (slO (.tup l) lo hi a) P = P (.tup (cutP l lo hi), a) := propext ⟨fun h => h, fun h => h⟩
theorem o_idx {row : List Int} {j : Int} {P : PV × AH → Prop} (h : j ∈ row) : wO (mIndexT (.tup (iw row)) [.int j] a) P = P (.int (row.idxOf j : Nat), a) := by
  rw [idx_tup h] <;> rfl
theorem o_isN {b : Bool} {P : PV × AH → Prop} : wO (cIs b .non .non a) P = P (.bl (!b), a) := propext ⟨fun h => h, fun h => h⟩
theorem o_isI {b : Bool} {i : Int} {P : PV × AH → Prop} : wO (cIs b (.int i) .non a) P = P (.bl b, a) := propext ⟨fun h => h, fun h => h⟩
theorem o_isT {b : Bool} {l : List PV} {P : PV × AH → Prop} : wO (cIs b (.tup l) .non a) P = P (.bl b, a) := propext ⟨fun h => h, fun h => h⟩
theorem o_inw {b : Bool} {c : Int} {w : List Int} {P : PV × AH → Prop} : wO (cIn b (.int c) (.tup (iw w)) a) P = P (.bl (Bool.xor b (decide (c ∈ w))), a) := by
  rw [in_tup] <;> rfl
theorem t_tup {l : List PV} : isT 1 (.tup l) a = true := rfl
theorem t_lst {i : Nat} {l : List PV} (h : a.get i = some (.lst l)) : isT 0 (.ref i) a = true := by
  simp [isT, h]
theorem t_dct {i : Nat} {l : List (L2.Key × PV)} (h : a.get i = some (.dct l)) : isT 2 (.ref i) a = true := by
  simp [isT, h]
end
theorem pv_get_new {a : AH} {o : AO} {i : Nat} : (a.new o).get i = if i = a.n then some o else a.get i := AH.get_new ..
theorem lt_ne {i n : Nat} (h : i < n) : i ≠ n := Nat.ne_of_lt h
end VI
end
section
set_option maxRecDepth 100000
/-! The tactic; first specs. -/
namespace VI
open PySem PyProof.Rows

theorem sl_0 {o : Option PV} {e : Env} : slot (o :: e) 0 = o := rfl
theorem sl_s {o : Option PV} {e : Env} {i : Nat} : slot (o :: e) (i + 1) = slot e i := rfl
theorem pu_0 {o : Option PV} {e : Env} {v : PV} : put (o :: e) 0 v = some v :: e := rfl
theorem pu_s {o : Option PV} {e : Env} {i : Nat} {v : PV} : put (o :: e) (i + 1) v = o :: put e i v := rfl
theorem mn_if (i j : Nat) : (if (j : Int) < i then (j : Int) else i) = ((min i j : Nat) : Int) := by
  split <;> omega
theorem mx_if (i j : Nat) : (if (j : Int) > i then (j : Int) else i) = ((max i j : Nat) : Int) := by
  split <;> omega
theorem lim_0 : (0 ≤ LIM) = True := by simp [LIM]
theorem lim_1 : (1 ≤ LIM) = True := by simp [LIM]
theorem lim_2 : (2 ≤ LIM) = True := by simp [LIM]
theorem lim_3 : (3 ≤ LIM) = True := by simp [LIM]
theorem lim_4 : (4 ≤ LIM) = True := by simp [LIM]
theorem lim_5 : (5 ≤ LIM) = True := by simp [LIM]
theorem lim_6 : (6 ≤ LIM) = True := by simp [LIM]
theorem lim_7 : (7 ≤ LIM) = True := by simp [LIM]
theorem lim_8 : (8 ≤ LIM) = True := by simp [LIM]
theorem lim_9 : (9 ≤ LIM) = True := by simp [LIM]
theorem lim_10 : (10 ≤ LIM) = True := by simp [LIM]
theorem lim_11 : (11 ≤ LIM) = True := by simp [LIM]
theorem lim_12 : (12 ≤ LIM) = True := by simp [LIM]
theorem lim_13 : (13 ≤ LIM) = True := by simp [LIM]
theorem lim_14 : (14 ≤ LIM) = True := by simp [LIM]
theorem lim_15 : (15 ≤ LIM) = True := by simp [LIM]
theorem o_minN {a : AH} {i j : Nat} {P : PV × AH → Prop} : wO (bMin [.int i, .int j] a) P = P (.int ((min i j : Nat) : Int), a) := by
  rw [o_min, mn_if]
theorem o_maxN {a : AH} {i j : Nat} {P : PV × AH → Prop} : wO (bMax [.int i, .int j] a) P = P (.int ((max i j : Nat) : Int), a) := by
  rw [o_max, mx_if]
theorem mk_non {n : Nat} {Q : PV → AH → Prop} {a : AH} : mkW n Q .non a = Q (.ref n) a := propext ⟨fun h => h, fun h => h⟩
theorem w_F' {k n : Nat} {g : GS} {vs : List PV} {a : AH} {Q : PV → AH → Prop} {X : EX} (hk : Nat.beq vs.length k = true) : wR (mkF k n g vs a) Q X = wS (g (startE n vs) a) { nx := fun _ a => Q .non a, rt := Q, er := fun c fs _ a => X c fs a } := by
  rw [w_F, if_pos hk]
theorem not_f {b : Bool} (h : (!b) = false) : b = true := by cases b <;> first | rfl | cases h
theorem not_t {b : Bool} (h : (!b) = true) : ¬ b = true := by
  intro z
  rw [z] at h
  cases h
/-- by a spec -/
theorem wR_of {r : R PV} {v : PV} {a : AH} {Q : PV → AH → Prop} {X : EX} (h : ∃ a', r = .ok v a' ∧ Xt a a') (k : ∀ a', Xt a a' → Q v a') : wR r Q X := by
  obtain ⟨a', e, x⟩ := h
  rw [e]
  exact k a' x
theorem of_wR {r : R PV} {v : PV} {a : AH} (h : wR r (fun u a' => u = v ∧ Xt a a') (fun _ _ _ => False)) : ∃ a', r = .ok v a' ∧ Xt a a' := by
  cases r with
  | ok u a' => exact ⟨a', by rw [h.1], h.2⟩
  | er c fs a' => exact h.elim
  | no => exact h.elim
theorem if_i {b : Bool} {P Q : Prop} (h1 : b = true → P) (h2 : b = false → Q) : ifW (.bl b) P Q := by
  cases b with
  | true => exact h1 rfl
  | false => exact h2 rfl
theorem if_t {b : Bool} {P Q : Prop} (h : b = true) (p : P) : ifW (.bl b) P Q := by
  subst h
  exact p
theorem if_f {b : Bool} {P Q : Prop} (h : b = false) (q : Q) : ifW (.bl b) P Q := by
  subst h
  exact q
theorem lim2 : 2 ≤ LIM := by decide
theorem wk_ok' {row : List Int} {g : Nat} {c : Int} (hg : g < row.length) (hc : x1 c ∈ row) (a : AH) {Q : PV → AH → Prop} {X : EX} : wR (F__law_walk [.tup (iw row), .int g, .int c] a) Q X = Q (ofN (wk row g c)) a := by
  rw [wk_ok hg hc] <;> rfl

end VI
end
section
open VI
local macro_rules | `(tactic| push_cast) => `(tactic| push_cast [])
local macro_rules | `(tactic| push_cast [$ls,*]) => `(tactic| ((try simp only [↓w_var, ↓w_c, ↓w_bin, ↓w_neg, ↓w_ch, ↓w_and, ↓w_or, ↓w_not, ↓w_eif, ↓w_nil, ↓w_cons, ↓w_tup, ↓w_lst, ↓w_cb, ↓w_call, ↓w_callD, ↓w_callR, ↓w_make, ↓w_oN, ↓w_oS, ↓w_sl, ↓w_bm, ↓w_bm0, ↓w_isi, ↓w_fld, ↓w_rgL, ↓w_dnew, ↓w_lc, ↓f_val, ↓f_rg1, ↓f_enm,
     ↓w_nx, ↓w_rt, ↓w_erS, ↓s_nil, ↓s_seq', ↓s_drop', ↓s_ret', ↓s_if', ↓s_set', ↓s_par', ↓s_par3', ↓s_augI', ↓s_asg', ↓on_nx, ↓on_sub, ↓gw_nm, ↓gw_tu2, ↓gw_tu3, ↓s_fld', ↓s_raise', ↓s_raise1', ↓s_for',
     ↓wO_some, ↓wO_none, ↓ifW_t, ↓ifW_f, ↓notW_b, ↓intW_i, ↓par2W_i, ↓par3W_i, ↓rgW_i, ↓it_tup, ↓it_rol, ↓wR_ok, ↓mk_non, 
     ↓o_xor, ↓o_add, ↓o_sub, ↓o_addT, ↓o_mod, ↓o_div, ↓o_mul, ↓o_lt, ↓o_le, ↓o_gt, ↓o_ge, ↓o_eqi, ↓o_nei, ↓o_eqw0, ↓o_eqw, ↓o_new0, ↓o_new, ↓o_ixT, ↓o_lenT, ↓o_lenR, ↓o_int, ↓o_tupT, ↓o_lisT, ↓o_minN, ↓o_maxN, ↓o_slT, ↓o_isN, ↓o_isI, ↓o_isT, ↓o_inw,
     lim_0, lim_1, lim_2, lim_3, lim_4, lim_5, lim_6, lim_7, lim_8, lim_9, lim_10, lim_11, lim_12, lim_13, lim_14, lim_15,
     Bool.not_false, Bool.not_true, Bool.false_xor, Bool.true_xor, decide_true, decide_false, sl_0, sl_s, pu_0, pu_s, slot, put, wipeE, unput, t_tup, iw_len, List.length_cons, List.length_nil, Nat.zero_add, Nat.reduceAdd, Nat.reduceLeDiff, true_and, and_true, $ls,*]) <;> try dsimp only))
section
set_option maxRecDepth 100000
/-! The lesser triple; walked. -/
namespace VI
open PySem PyProof.Rows

abbrev nno : EX := fun _ _ _ => False
def tri (t : Trp) : PV := .tup [.int t.1, .tup (iw t.2.1), .int t.2.2]
def ofT : Option Trp → PV
  | none => .non
  | some t => tri t
theorem mapO_co {α β : Type} {f : α → Option β} {x : α} {l : List α} {y : β} {m : List β} (h : f x = some y) (t : mapO f l = some m) : mapO f (x :: l) = some (y :: m) := by
  unfold mapO
  rw [h, t]
theorem mapO_ni {α β : Type} {f : α → Option β} : mapO f [] = some [] := by
  unfold mapO
  rfl
theorem toP_int (f : Nat) (i : Int) : toP (f + 1) (.int i) = some (.int i) := rfl
theorem toP_iw (f : Nat) : ∀ w : List Int, mapO (toP (f + 1)) (iw w) = some (w.map PyData.int)
  | [] => rfl
  | i :: w => mapO_co (toP_int f i) (toP_iw f w)
theorem toP_w (f : Nat) (w : List Int) : toP (f + 2) (.tup (iw w)) = some (.tuple (w.map .int)) := by
  show (mapO (toP (f + 1)) (iw w)).map PyData.tuple = _
  rw [toP_iw] <;> rfl
theorem toP_tri (t : Trp) : toP DEP (tri t) = some (trd t) := by
  show (mapO (toP 19) [.int t.1, .tup (iw t.2.1), .int t.2.2]).map PyData.tuple = _
  rw [mapO_co (toP_int 18 t.1) (mapO_co (toP_w 17 t.2.1) (mapO_co (toP_int 18 t.2.2) mapO_ni))]
  rfl
theorem ofD_iw (f : Nat) (w : List Int) : (w.map PyData.int).map (ofD (f + 1)) = iw w := by
  rw [List.map_map]
  rfl
theorem ofD_trd (t : Trp) : ofD DEP (trd t) = tri t := by
  show PV.tup [ofD 19 (.int t.1), ofD 19 (.tuple (t.2.1.map .int)), ofD 19 (.int t.2.2)] = _
  have e : ofD 19 (.tuple (t.2.1.map .int)) = .tup ((t.2.1.map PyData.int).map (ofD 18)) := rfl
  rw [e, ofD_iw] <;> rfl
theorem alikeA_ints : ∀ w u : List Int, PySem.W.alikeAll (w.map .int) (u.map .int) = true
  | [], [] => by simp [PySem.W.alikeAll]
  | [], _ :: _ => by simp [PySem.W.alikeAll]
  | _ :: _, [] => by simp [PySem.W.alikeAll]
  | i :: w, j :: u => by simp [PySem.W.alikeAll, PySem.W.alike, alikeA_ints w u]
theorem alike_trd (t u : Trp) : PySem.W.alike (trd t) (trd u) = true := by
  simp [trd, PySem.W.alike, PySem.W.alikeAll, alikeA_ints]
theorem pick1 (t : Trp) : pick PySem.W.minD [tri t] = some (tri t) := by
  unfold pick
  rw [mapO_co (toP_tri t) mapO_ni]
  show (match alikeL [trd t] with | true => some (ofD DEP (PySem.W.minD (trd t) [])) | false => none) = _
  have e : alikeL [trd t] = true := by
    simp [alikeL, alike_trd]
    simp [isNo, trd]
  rw [e]
  show some (ofD DEP (trd t)) = _
  rw [ofD_trd]
theorem pickT (t u : Trp) : pick PySem.W.minD [tri t, tri u] = some (tri (mnT t u)) := by
  unfold pick
  rw [mapO_co (toP_tri t) (mapO_co (toP_tri u) mapO_ni)]
  show (match alikeL [trd t, trd u] with | true => some (ofD DEP (PySem.W.minD (trd t) [trd u])) | false => none) = _
  have e : alikeL [trd t, trd u] = true := by
    simp [alikeL, alike_trd]
    simp [isNo, trd]
  rw [e]
  show some (ofD DEP (if PySem.W.dataLt (trd u) (trd t) = true then trd u else trd t)) = _
  unfold mnT
  split
  · rw [ofD_trd]
  · rw [ofD_trd]
theorem o_minT {a : AH} {t u : Trp} {P : PV × AH → Prop} : wO (bMin [tri t, tri u] a) P = P (tri (mnT t u), a) := by
  have e : bMin [tri t, tri u] a = (match pick PySem.W.minD [tri t, tri u] with | some x => some (x, a) | none => none) := rfl
  rw [e, pickT] <;> rfl
theorem o_minL1 {a : AH} {i : Nat} {t : Trp} {P : PV × AH → Prop} (g : a.get i = some (.lst [tri t])) : wO (bMin [.ref i] a) P = P (tri t, a) := by
  have e : bMin [.ref i] a = (match oneS [.ref i] a with | some l => (match pick PySem.W.minD l with | some x => some (x, a) | none => none) | none => none) := rfl
  have e2 : oneS [.ref i] a = some [tri t] := by
    simp only [oneS, g]
  rw [e, e2]
  show wO (match pick PySem.W.minD [tri t] with | some x => some (x, a) | none => none) P = _
  rw [pick1] <;> rfl
theorem o_minL2 {a : AH} {i : Nat} {t u : Trp} {P : PV × AH → Prop} (g : a.get i = some (.lst [tri t, tri u])) : wO (bMin [.ref i] a) P = P (tri (mnT t u), a) := by
  have e : bMin [.ref i] a = (match oneS [.ref i] a with | some l => (match pick PySem.W.minD l with | some x => some (x, a) | none => none) | none => none) := rfl
  have e2 : oneS [.ref i] a = some [tri t, tri u] := by
    simp only [oneS, g]
  rw [e, e2]
  show wO (match pick PySem.W.minD [tri t, tri u] with | some x => some (x, a) | none => none) P = _
  rw [pickT] <;> rfl
/-! slices -/
theorem iw_drop (w : List Int) (k : Nat) : iw (w.drop k) = (iw w).drop k := by simp [iw]
theorem iw_take (w : List Int) (k : Nat) : iw (w.take k) = (iw w).take k := by simp [iw]
theorem cut_lo {w : List Int} {k : Nat} (h : k ≤ w.length) : cutP (iw w) (some (k : Int)) none = iw (w.drop k) := by
  have e : HT.sIx (iw w).length 0 (some (k : Int)) = k := by
    rw [HT.sIx_nat, iw_len]
    omega
  have e2 : HT.sIx (iw w).length (iw w).length none = w.length := by
    unfold HT.sIx
    simp [iw_len]
  unfold cutP
  rw [e, e2, iw_drop, List.take_of_length_le]
  rw [List.length_drop, iw_len]
  exact Nat.le_refl _
theorem cut_hi {w : List Int} {k : Nat} (h : k ≤ w.length) : cutP (iw w) none (some (k : Int)) = iw (w.take k) := by
  have e : HT.sIx (iw w).length 0 none = 0 := by
    unfold HT.sIx
    simp
  have e2 : HT.sIx (iw w).length (iw w).length (some (k : Int)) = k := by
    rw [HT.sIx_nat, iw_len]
    omega
  unfold cutP
  rw [e, e2, iw_take]
  simp
end VI
end
section
set_option maxRecDepth 100000
/-! walked, the plain bridge: the program's. -/
namespace VI
open PySem PyProof.Rows

theorem wkd_lt {row : List Int} (h : RW row) : ∀ {w : List Int} {g : Nat}, g < row.length → LW row w → (wkd row g w).1 < row.length ∧ LW row (wkd row g w).2 := by
  intro w g hg hw
  obtain ⟨p, e1, e2, _⟩ := wkd_ex (row := row) w g
  have l := lw_app.mp (e1 ▸ hw)
  exact ⟨wka_lt h hg l.1 e2, l.2⟩
theorem wkd_len {row : List Int} {w : List Int} {g : Nat} : (wkd row g w).2.length ≤ w.length := by
  obtain ⟨p, e1, e2, _⟩ := wkd_ex (row := row) w g
  have := congrArg List.length e1
  rw [List.length_append] at this
  omega
theorem walked_ok {row : List Int} (h : RW row) {w : List Int} {g : Nat} (hg : g < row.length) (hw : LW row w) (hl : w.length ≤ 900) (a : AH) :
    ∃ a', F_walked [.tup (iw row), .int g, .tup (iw w)] a = .ok (.tup [.int (wkd row g w).1, .tup (iw (wkd row g w).2)]) a' ∧ Xt a a' := by
  apply of_wR
  unfold F_walked
  refine Eq.mpr w_F ?_
  rw [if_pos (by rfl)]
  simp only [startE, List.map_cons, List.map_nil, List.length_cons, List.length_nil, Nat.reduceAdd, Nat.reduceSub, List.reduceReplicate, List.cons_append, List.nil_append]
  unfold g_walked
  push_cast
  have W : ∀ D : En, (∀ (k g' : Nat) (o : Option PV), k ≤ w.length → wkd row g w = (g', w.drop k) → D.nx [some (.tup (iw row)), some (.int g'), some (.tup (iw w)), some (.int k), o] a) → wS (whl wT wB 1000 [some (.tup (iw row)), some (.int g), some (.tup (iw w)), some (.int 0), none] a) D := by
    intro D hD
    refine w_whl (fun m e a' => a' = a ∧ ∃ (k g' : Nat) (o : Option PV), e = [some (.tup (iw row)), some (.int g'), some (.tup (iw w)), some (.int k), o] ∧ k + m = w.length ∧ g' < row.length ∧ wkd row g w = wkd row g' (w.drop k)) ?_ 1000 w.length _ _ (by omega) ⟨rfl, 0, g, none, rfl, by omega, hg, rfl⟩
    rintro m e a' ⟨rfl, k, g', o, rfl, hk, hg', hd⟩
    by_cases hm : m = 0
    · have ek : k = w.length := by omega
      subst ek
      rw [wT_end]
      refine .inl ⟨rfl, hD _ _ _ (Nat.le_refl _) ?_⟩
      rw [hd, List.drop_length] <;> rfl
    · have hk' : k < w.length := by omega
      have hc : w[k]? = some w[k] := List.getElem?_eq_getElem hk'
      have lc : Lt row w[k] := hw _ (List.getElem_mem hk')
      rw [wT_at hg' hc (h.x1m lc)]
      rw [List.drop_eq_getElem_cons hk'] at hd
      have hd : wkd row g w = (match wk row g' w[k] with | some h => wkd row h (w.drop (k + 1)) | none => (g', w[k] :: w.drop (k + 1))) := hd
      cases z : wk row g' w[k] with
      | none =>
        rw [z] at hd
        refine .inl ⟨rfl, hD _ _ _ (by omega) ?_⟩
        rw [hd, List.drop_eq_getElem_cons hk']
      | some g2 =>
        rw [z] at hd
        refine .inr ⟨rfl, ?_⟩
        rw [wB_at hg' hc (h.x1m lc) z]
        exact ⟨m - 1, by omega, rfl, k + 1, g2, _, rfl, by omega, h.wk_lt' hg' lc z, hd⟩
  refine W _ fun k g' o hk e => ?_
  rw [e]
  push_cast [cut_lo hk]
  exact Xt.refl a
/-- sorted pairs -/
theorem nil_iw : ([] : List PV) = iw [] := rfl
theorem srt2_tri (i j : Nat) : PV.tup [.int ((min i j : Nat) : Int), .tup [], .int ((max i j : Nat) : Int)] = tri (srt2 i j) := rfl
theorem at_nat {row : List Int} {i : Nat} (hi : i < row.length) : L2.atI (iw row) (i : Int) = some (.int (row.getD i 0)) := by
  refine at_iw ?_
  rw [List.getD_eq_getElem?_getD, List.getElem?_eq_getElem hi] <;> rfl
theorem gb_ok' {row : List Int} {c : Int} (hc : c ∈ row) (a : AH) {Q : PV → AH → Prop} {X : EX} : wR (F_gap_behind [.tup (iw row), .int c] a) Q X = Q (.int ((nx row (row.idxOf c) : Nat) : Int)) a := by
  rw [gb_ok hc] <;> rfl
/-- an end, or none -/
def ofC (row : List Int) : Option Nat → PV
  | none => .non
  | some i => .int (row.getD i 0)
theorem eb_ok {row : List Int} (h : RW row) {s e : Nat} (hs : s < row.length) (he : e < row.length) (hne : s ≠ e) (a : AH) {Q : PV → AH → Prop} {X : EX} (k : Q (ofC row (btw row s e)) a) : wR (F_end_between [.tup (iw row), .int s, .int e] a) Q X := by
  have lo := h.lo
  unfold F_end_between
  refine Eq.mpr w_F ?_
  rw [if_pos (by rfl)]
  simp only [startE, List.map_cons, List.map_nil, List.length_cons, List.length_nil, Nat.reduceAdd, Nat.reduceSub, List.reduceReplicate, List.cons_append, List.nil_append]
  unfold g_end_between
  push_cast
  have hmn : min s e < row.length := by omega
  have hmx : max s e < row.length := by omega
  have c2 : ∀ P : PV × AH → Prop, wO (cEq (.tup [.int ((min s e : Nat) : Int), .int ((max s e : Nat) : Int)]) (.tup [.int 0, .int ((row.length : Nat) - 1 : Int)]) a) P = P (.bl (decide ([((min s e : Nat) : Int), ((max s e : Nat) : Int)] = [0, (row.length : Int) - 1])), a) := by
    intro P
    exact o_eqw (w := [((min s e : Nat) : Int), ((max s e : Nat) : Int)]) (u := [0, (row.length : Int) - 1])
  have e1 : btw row s e = if max s e = min s e + 1 then some (min s e) else if min s e = 0 ∧ max s e = row.length - 1 then some (max s e) else none := by
    unfold btw
    rw [nx_is hs, nx_is he]
    by_cases a1 : e = s + 1
    · rw [if_pos (by split <;> omega), if_pos (by omega)]
      congr 1
      omega
    · by_cases a2 : s = e + 1
      · rw [if_neg (by split <;> omega), if_pos (by split <;> omega), if_pos (by omega)]
        congr 1
        omega
      · by_cases b1 : s = 0 ∧ e = row.length - 1
        · rw [if_neg (by split <;> omega), if_pos (by split <;> omega), if_neg (by omega), if_pos (by omega)]
          congr 1
          omega
        · by_cases b2 : e = 0 ∧ s = row.length - 1
          · rw [if_pos (by split <;> omega), if_neg (by omega), if_pos (by omega)]
            congr 1
            omega
          · rw [if_neg (by split <;> omega), if_neg (by split <;> omega), if_neg (by omega), if_neg (by omega)]
  rw [e1] at k
  by_cases a1 : max s e = min s e + 1
  · rw [if_pos a1] at k
    refine if_t (by rw [decide_eq_true_eq]; omega) ?_
    push_cast [at_nat hmn]
    exact k
  · rw [if_neg a1] at k
    refine if_f (by rw [decide_eq_false_iff_not]; omega) ?_
    push_cast
    push_cast [↓c2]
    by_cases a2 : min s e = 0 ∧ max s e = row.length - 1
    · rw [if_pos a2] at k
      refine if_t (by
        rw [decide_eq_true_eq]
        have : ((min s e : Nat) : Int) = 0 := by omega
        have t : ((max s e : Nat) : Int) = (row.length : Int) - 1 := by omega
        rw [this, t]) ?_
      push_cast [at_nat hmx]
      exact k
    · rw [if_neg a2] at k
      refine if_f (by
        rw [decide_eq_false_iff_not]
        intro z
        have z1 := (List.cons.inj z).1
        have z2 := (List.cons.inj (List.cons.inj z).2).1
        omega) ?_
      push_cast
      exact k
end VI
end
section
set_option maxRecDepth 100000
/-! The plain bridge, by the program and by the law. -/
namespace VI
open PySem PyProof.Rows

theorem eb_acr {row : List Int} {i : Nat} : row.idxOf (x1 (row.getD i 0)) = acr row i := rfl
theorem o_minQ {a : AH} {x y z x' y' z' : PV} {t u : Trp} {P : PV × AH → Prop} (e1 : PV.tup [x, y, z] = tri t) (e2 : PV.tup [x', y', z'] = tri u) : wO (bMin [.tup [x, y, z], .tup [x', y', z']] a) P = P (tri (mnT t u), a) := by
  rw [e1, e2, o_minT]
theorem pb_ok {row : List Int} (h : RW row) {w : List Int} {s e : Nat} (hs : s < row.length) (he : e < row.length) (hw : LW row w) (hl : w.length ≤ 900) (a : AH) :
    ∃ a', F_plain_bridge [.tup (iw row), .int s, .tup (iw w), .int e] a = .ok (ofT (BR row s w e)) a' ∧ Xt a a' := by
  have LM : 900 < LIM := by decide
  have lf := lw_frd h hw
  have lfl := frd_len w
  apply of_wR
  unfold F_plain_bridge
  refine Eq.mpr w_F ?_
  rw [if_pos (by rfl)]
  simp only [startE, List.map_cons, List.map_nil, List.length_cons, List.length_nil, Nat.reduceAdd, Nat.reduceSub, List.reduceReplicate, List.cons_append, List.nil_append]
  unfold g_plain_bridge
  push_cast
  refine wR_of (frd_ok2 w (by omega) _) fun a1 f1 => ?_
  push_cast
  have k1 := wkd_lt h hs lf
  have k1l := wkd_len (row := row) (w := frd w) (g := s)
  refine wR_of (walked_ok h hs lf (by omega) _) fun a2 f2 => ?_
  push_cast
  refine wR_of (und_ok2 _ (by omega) _) fun a3 f3 => ?_
  push_cast
  have lu := lw_und h k1.2
  have k2 := wkd_lt h he lu
  have k2l := wkd_len (row := row) (w := und (wkd row s (frd w)).2) (g := e)
  rw [und_len] at k2l
  refine wR_of (walked_ok h he lu (by rw [und_len]; omega) _) fun a4 f4 => ?_
  push_cast
  have f14 := ((f1.trans f2).trans f3).trans f4
  have eB : BR row s w e = pln row ((wkd row s (frd w)).1, und (wkd row e (und (wkd row s (frd w)).2)).2, (wkd row e (und (wkd row s (frd w)).2)).1) := rfl
  rw [eB]
  generalize wkd row e (und (wkd row s (frd w)).2) = K at *
  generalize wkd row s (frd w) = J at *
  obtain ⟨s1, u⟩ := J
  obtain ⟨e1, v⟩ := K
  dsimp only at k1 k2 k1l k2l lu
  have hs1 : s1 < row.length := k1.1
  have he1 : e1 < row.length := k2.1
  by_cases hv : v = []
  · subst hv
    refine if_f (by simp) ?_
    push_cast
    by_cases hse : s1 = e1
    · subst hse
      refine if_t (by simp) ?_
      push_cast
      refine ⟨?_, f14⟩
      show PV.non = ofT (if s1 = s1 then none else _)
      rw [if_pos rfl]
      rfl
    · refine if_f (by rw [decide_eq_false_iff_not]; omega) ?_
      push_cast
      refine eb_ok h hs1 he1 hse _ ?_
      push_cast
      have eb : pln row (s1, und [], e1) = some (match btw row s1 e1 with | none => srt2 s1 e1 | some i => mnT (srt2 s1 e1) (srt2 (acr row i) (nx row (acr row i)))) := by
        show base row s1 e1 = _
        unfold base
        rw [if_neg hse] <;> rfl
      rw [eb]
      cases b : btw row s1 e1 with
      | none =>
        unfold ofC
        push_cast
        exact ⟨rfl, f14⟩
      | some i =>
        have hi := btw_lt h hs1 he1 b
        have hx : x1 (row.getD i 0) ∈ row := h.x1m (at_lt h hi).1
        unfold ofC
        push_cast [↓o_idx hx]
        rw [gb_ok' hx]
        push_cast
        rw [o_minQ (srt2_tri _ _) (srt2_tri _ _)]
        exact ⟨rfl, f14⟩
  · refine if_t (by simp [hv]) ?_
    push_cast
    refine wR_of (und_ok2 v (by omega) _) fun a5 f5 => ?_
    push_cast
    have hq : und v ≠ [] := fun z => hv (und_nil.mp z)
    rw [o_minQ (t := (s1, und v, e1)) (u := (e1, v, s1)) rfl rfl]
    refine ⟨?_, f14.trans f5⟩
    show _ = ofT (if und v = [] then _ else _)
    rw [if_neg hq]
    show _ = tri (mnT (s1, und v, e1) (e1, und (und v), s1))
    rw [und_und h k2.2]
end VI
end
section
set_option maxRecDepth 100000
/-! The plain bridge, by the law. -/
namespace VI
open PySem PyProof.Rows

theorem at_0 {c : Int} {w : List Int} : L2.atI (iw (c :: w)) 0 = some (.int c) := at_iw (k := 0) rfl
theorem at_L {w : List Int} {d : Int} : L2.atI (iw (w ++ [d])) ((((w ++ [d]).length : Nat) : Int) - 1) = some (.int d) := at_last (by simp)
theorem cut_1 {c : Int} {w : List Int} : cutP (iw (c :: w)) (some 1) none = iw w := cut_lo (k := 1) (by simp)
theorem cut_L {d : Int} {w : List Int} : cutP (iw (w ++ [d])) none (some ((((w ++ [d]).length : Nat) : Int) - 1)) = iw w := by
  have e : ((((w ++ [d]).length : Nat) : Int) - 1) = (w.length : Nat) := by simp
  rw [e, cut_hi (by simp)]
  simp
theorem o_isNn {b : Bool} {a : AH} {o : Option Nat} {P : PV × AH → Prop} : wO (cIs b (ofN o) .non a) P = P (.bl (Bool.xor b o.isNone), a) := by
  cases o <;> cases b <;> rfl
theorem tgt_cons {row : List Int} {s g e : Nat} {c : Int} {w : List Int} (z : wk row s c = some g) : tgt row s (c :: w) e = tgt row g w e := by
  have e1 : wkd row s (c :: w) = wkd row g w := by
    show (match wk row s c with | some h => wkd row h w | none => (s, c :: w)) = _
    rw [z]
  unfold tgt
  rw [e1]
theorem tgt_stk {row : List Int} {s e : Nat} {w : List Int} (z : Stk row s w) : tgt row s w e = (s, und (wkd row e (und w)).2, (wkd row e (und w)).1) := by
  have e1 : wkd row s w = (s, w) := wkd_of (u := w) [] rfl z
  unfold tgt
  rw [e1]
theorem tgt_snoc {row : List Int} {s g e : Nat} {d : Int} {w : List Int} (z : Stk row s (w ++ [d])) (y : wk row e (x1 d) = some g) : tgt row s (w ++ [d]) e = tgt row s w g := by
  have zw : Stk row s w := by
    intro c hc
    refine z c ?_
    cases w with
    | nil => cases hc
    | cons k w => exact hc
  rw [tgt_stk z, tgt_stk zw]
  have u : und (w ++ [d]) = x1 d :: und w := by simp [und]
  have e1 : wkd row e (und (w ++ [d])) = wkd row g (und w) := by
    rw [u]
    show (match wk row e (x1 d) with | some h => wkd row h (und w) | none => (e, x1 d :: und w)) = _
    rw [y]
  rw [e1]
theorem tgt_all {row : List Int} (h : RW row) {s e : Nat} {w : List Int} (hw : LW row w) (z : Stk row s w) (y : Stk row e (und w)) : tgt row s w e = (s, w, e) := by
  rw [tgt_stk z]
  have e1 : wkd row e (und w) = (e, und w) := wkd_of (u := und w) [] rfl y
  rw [e1]
  show (s, und (und w), e) = _
  rw [und_und h hw]
theorem tight_ok {row : List Int} (h : RW row) {w : List Int} {s e : Nat} (hs : s < row.length) (he : e < row.length) (hw : LW row w) (hl : w.length ≤ 900) (a : AH) :
    ∃ a', F__law_tight [.tup (iw row), .int s, .tup (iw w), .int e] a = .ok (tri (tgt row s (frd w) e)) a' ∧ Xt a a' := by
  have LM : 900 < LIM := by decide
  have lf := lw_frd h hw
  have lfl := frd_len w
  apply of_wR
  unfold F__law_tight
  refine Eq.mpr w_F ?_
  rw [if_pos (by rfl)]
  simp only [startE, List.map_cons, List.map_nil, List.length_cons, List.length_nil, Nat.reduceAdd, Nat.reduceSub, List.reduceReplicate, List.cons_append, List.nil_append]
  unfold g__law_tight
  push_cast
  refine wR_of (frd_ok w (by omega) _) fun a1 f1 => ?_
  push_cast
  generalize hT : tgt row s (frd w) e = T
  refine w_whl (fun m ev a' => ∃ (s' : Nat) (L : List Int) (e' : Nat) (go : Bool) (o6 o7 : Option PV), ev = [some (.tup (iw row)), some (.int s'), some (.tup (iw w)), some (.int e'), some (.tup (iw L)), some (.bl go), o6, o7] ∧ Xt a a' ∧ tgt row s' L e' = T ∧ LW row L ∧ s' < row.length ∧ e' < row.length ∧ (go = false → T = (s', L, e')) ∧ L.length + (if go = true then 1 else 0) = m) ?_ 1000 ((frd w).length + 1) _ _ (by omega) ⟨s, frd w, e, true, none, none, rfl, f1, hT, lf, hs, he, by simp, rfl⟩
  rintro m ev a' ⟨s', L, e', go, o6, o7, rfl, xa, hT, hL, hs', he', hgo, hm⟩
  have fin : ∀ a', Xt a a' → T = (s', L, e') → wS (sRet (eTup (aCons (eVar 1) (aCons (eVar 4) (aCons (eVar 3) aNil)))) [some (.tup (iw row)), some (.int s'), some (.tup (iw w)), some (.int e'), some (.tup (iw L)), some (.bl go), o6, o7] a') { nx := fun x a_1 => PV.non = tri T ∧ Xt a a_1, rt := fun u a' => u = tri T ∧ Xt a a' } := by
    intro a' x e
    push_cast
    rw [e]
    exact ⟨rfl, x⟩
  push_cast
  cases L with
  | nil =>
    refine if_f (by simp) ?_
    refine .inl ⟨rfl, fin _ xa ?_⟩
    rw [← hT]
    rfl
  | cons c L =>
    refine if_t (by simp) ?_
    push_cast
    cases go with
    | false => exact .inl ⟨rfl, fin _ xa (hgo rfl)⟩
    | true =>
      refine .inr ⟨rfl, ?_⟩
      have q := lw_cons.mp hL
      have hc1 := h.x1m q.1
      rcases snoc (c :: L) with z | ⟨M, d, z⟩
      · cases z
      · have qd := (lw_app.mp (z ▸ hL)).2
        have hd : Lt row d := lw_one.mp qd
        have hx2 : x1 (x1 d) ∈ row := by
          rw [h.x1x1 hd]
          exact h.lm hd
        have eL : iw (c :: L) = iw (M ++ [d]) := by rw [z]
        have aL : L2.atI (iw (c :: L)) ((((c :: L).length : Nat) : Int) - 1) = some (.int d) := by rw [z]; exact at_L
        have cL : cutP (iw (c :: L)) none (some ((((c :: L).length : Nat) : Int) - 1)) = iw M := by rw [z]; exact cut_L
        have lM : M.length = L.length := by
          have := congrArg List.length z
          rw [List.length_cons, List.length_append, List.length_singleton] at this
          omega
        rw [List.length_cons] at aL cL hm
        push_cast [at_0]
        rw [wk_ok' hs' hc1]
        push_cast [aL]
        rw [wk_ok' he' hx2]
        push_cast [↓o_isNn]
        cases z1 : wk row s' c with
        | some g =>
          refine if_t rfl ?_
          push_cast [cut_1]
          refine ⟨L.length + 1, by rw [if_pos rfl] at hm; omega, g, L, e', true, _, _, rfl, xa, ?_, q.2, h.wk_lt' hs' q.1 z1, he', by simp, by simp⟩
          rw [← hT, tgt_cons z1]
        | none =>
          refine if_f rfl ?_
          push_cast [↓o_isNn]
          have st : Stk row s' (c :: L) := fun c' e => by cases e; exact z1
          cases z2 : wk row e' (x1 d) with
          | some g =>
            refine if_t rfl ?_
            push_cast [cL]
            refine ⟨M.length + 1, by rw [if_pos rfl] at hm; omega, s', M, g, true, _, _, rfl, xa, ?_, (lw_app.mp (z ▸ hL)).1, hs', h.wk_lt' he' (h.x1_lt hd) z2, by simp, by simp⟩
            rw [← hT, z]
            rw [z] at st
            rw [tgt_snoc st z2]
          | none =>
            refine if_f rfl ?_
            push_cast
            have sb : Stk row e' (und (c :: L)) := by
              rw [z, und_app]
              intro c' e
              cases e
              exact z2
            have t := tgt_all h hL st sb
            exact ⟨L.length + 1, by rw [if_pos rfl] at hm; omega, s', c :: L, e', false, _, _, rfl, xa, hT, hL, hs', he', fun _ => by rw [← hT, t], by simp⟩
end VI
end
section
set_option maxRecDepth 100000
/-! The plain bridge, by the law: the end. -/
namespace VI
open PySem PyProof.Rows

theorem o_app {a : AH} {i : Nat} {l : List PV} {v : PV} {P : PV × AH → Prop} (h : a.get i = some (.lst l)) (g : l.length < LIM) : wO (mAppend (.ref i) [v] a) P = P (.non, a.put i (.lst (l ++ [v]))) := by
  have e : mAppend (.ref i) [v] a = (match a.get i with | some (.lst l) => (match Nat.blt l.length LIM with | true => some (PV.non, a.put i (.lst (l ++ [v]))) | false => none) | _ => none) := rfl
  rw [e, h]
  show wO (match Nat.blt l.length LIM with | true => some (PV.non, a.put i (.lst (l ++ [v]))) | false => none) P = _
  rw [show Nat.blt l.length LIM = true from Nat.ble_eq_true_of_le g] <;> rfl
/-- across, where two gaps are beside one end -/
def acrL (row : List Int) (x y : Nat) : List PV := if y = nx row x then [tri (srt2 (acr row x) (nx row (acr row x)))] else []
theorem acrL_len (row : List Int) (x y : Nat) : (acrL row x y).length ≤ 1 := by
  unfold acrL
  split <;> simp
abbrev lbB : GS := (sIf (eBin cEq (eVar 10) (eBin bMod (eCB bInt (aCons (eBin bAdd (eVar 9) (eC (.int 1))) aNil)) (eVar 8)))
    (sSeq (sSet 11 (eBM 1 mIndexT (eVar 0) (aCons (eBin bXor (eBin ixO (eVar 0) (eVar 9)) (eC (.int 1))) aNil)))
    (sSeq (sSet 12 (eBin bMod (eCB bInt (aCons (eBin bAdd (eVar 11) (eC (.int 1))) aNil)) (eVar 8)))
    (sDrop (eBM 0 mAppend (eVar 7) (aCons (eTup (aCons (eCB bMin (aCons (eVar 11) (aCons (eVar 12) aNil))) (aCons (eTup aNil) (aCons (eCB bMax (aCons (eVar 11) (aCons (eVar 12) aNil))) aNil)))) aNil)))))
    sNil)
theorem mod_nx {row : List Int} {i : Nat} : ((i : Int) + 1) % (row.length : Int) = ((nx row i : Nat) : Int) := by
  unfold nx
  rw [Int.natCast_emod] <;> rfl
theorem lb_body {row : List Int} (h : RW row) {x y f : Nat} (hx : x < row.length) {e1 e2 e3 e4 e5 e6 o11 o12 : Option PV} {a : AH} {acc : List PV} (hf : a.get f = some (.lst acc)) (ha : acc.length < LIM) {D : En}
    (k : ∀ (p11 p12 : Option PV) (a' : AH), a'.n = a.n → a'.get f = some (.lst (acc ++ acrL row x y)) → (∀ i, i ≠ f → a'.get i = a.get i) → D.nx [some (.tup (iw row)), e1, e2, e3, e4, e5, e6, some (.ref f), some (.int row.length), some (.int x), some (.int y), p11, p12] a') :
    wS (lbB [some (.tup (iw row)), e1, e2, e3, e4, e5, e6, some (.ref f), some (.int row.length), some (.int x), some (.int y), o11, o12] a) D := by
  have hm : (0 : Int) < row.length := by have := h.lo; omega
  push_cast [hm, mod_nx]
  by_cases z : y = nx row x
  · refine if_t (by rw [decide_eq_true_eq]; omega) ?_
    have q := at_lt h hx
    have hi : x1 (row.getD x 0) ∈ row := h.x1m q.1
    push_cast [at_nat hx, ↓o_idx hi, hm, mod_nx, t_lst hf, ↓o_app hf ha]
    refine k _ _ _ rfl ?_ fun i hi => ?_
    · rw [AH.get_put, if_pos rfl]
      unfold acrL
      rw [if_pos z] <;> rfl
    · rw [AH.get_put, if_neg hi]
  · refine if_f (by rw [decide_eq_false_iff_not]; omega) ?_
    push_cast
    refine k _ _ _ rfl ?_ fun _ _ => rfl
    unfold acrL
    rw [if_neg z, List.append_nil]
    exact hf
theorem lbr_ok {row : List Int} (h : RW row) {w : List Int} {s e : Nat} (hs : s < row.length) (he : e < row.length) (hw : LW row w) (hl : w.length ≤ 900) (a : AH) :
    ∃ a', F__law_bridge [.tup (iw row), .int s, .tup (iw w), .int e] a = .ok (ofT (BR row s w e)) a' ∧ Xt a a' := by
  have LM : 900 < LIM := by decide
  have lf := lw_frd h hw
  have lfl := frd_len w
  apply of_wR
  unfold F__law_bridge
  refine Eq.mpr w_F ?_
  rw [if_pos (by rfl)]
  simp only [startE, List.map_cons, List.map_nil, List.length_cons, List.length_nil, Nat.reduceAdd, Nat.reduceSub, List.reduceReplicate, List.cons_append, List.nil_append]
  unfold g__law_bridge
  push_cast
  refine wR_of (tight_ok h hs he hw hl _) fun a1 f1 => ?_
  have hT : (tgt row s (frd w) e).1 < row.length ∧ (tgt row s (frd w) e).2.2 < row.length ∧ LW row (tgt row s (frd w) e).2.1 ∧ (tgt row s (frd w) e).2.1.length ≤ w.length := by
    obtain ⟨p, q, v, s1, e1, K, lp, lq, lv⟩ := wks_ex h (s := s) (e := e) lf
    have L := congrArg List.length K.w
    rw [List.length_append, List.length_append, und_len, und_len] at L
    rw [K.t]
    exact ⟨wka_lt h hs lp K.ws, wka_lt h he lq K.we, lw_und h lv, by show (und v).length ≤ _; rw [und_len]; omega⟩
  unfold BR
  generalize tgt row s (frd w) e = T at *
  obtain ⟨s1, u, e1⟩ := T
  obtain ⟨hs1, he1, lu, hul⟩ := hT
  dsimp only at hs1 he1 lu hul
  unfold tri
  push_cast
  by_cases hu : u = []
  · subst hu
    refine if_f (by simp) ?_
    push_cast
    by_cases hse : s1 = e1
    · subst hse
      refine if_t (by simp) ?_
      push_cast
      refine ⟨?_, f1⟩
      show PV.non = ofT (base row s1 s1)
      unfold base
      rw [if_pos rfl] <;> rfl
    · refine if_f (by rw [decide_eq_false_iff_not]; omega) ?_
      have eb : pln row (s1, [], e1) = some (match btw row s1 e1 with | none => srt2 s1 e1 | some i => mnT (srt2 s1 e1) (srt2 (acr row i) (nx row (acr row i)))) := by
        show base row s1 e1 = _
        unfold base
        rw [if_neg hse] <;> rfl
      push_cast
      generalize hd : (a1.new _) = a2
      have x2 : Xt a1 a2 := by rw [← hd]; exact Xt.new _ _
      have gf : a2.get a1.n = some (.lst [tri (srt2 s1 e1)]) := by
        rw [← hd, AH.get_new, if_pos rfl]
        rfl
      have n2 : a2.n = a1.n + 1 := by rw [← hd]; rfl
      rw [it_ref (l := [.tup [.int s1, .int e1], .tup [.int e1, .int s1]]) (by rw [AH.get_new, if_pos rfl])]
      clear hd
      have gf' : (a2.new (.lst [.tup [.int s1, .int e1], .tup [.int e1, .int s1]])).get a1.n = some (.lst [tri (srt2 s1 e1)]) := by
        rw [AH.get_new, if_neg (by omega)]
        exact gf
      have gj : (a2.new (.lst [.tup [.int s1, .int e1], .tup [.int e1, .int s1]])).get a2.n = some (.lst [.tup [.int s1, .int e1], .tup [.int e1, .int s1]]) := by
        rw [AH.get_new, if_pos rfl]
      have x3 := x2.trans (Xt.new a2 (.lst [.tup [.int s1, .int e1], .tup [.int e1, .int s1]]))
      have hn : (a2.new (.lst [.tup [.int s1, .int e1], .tup [.int e1, .int s1]])).n = a1.n + 2 := by
        show a2.n + 1 = _
        omega
      have tn : turns (a2.new (.lst [.tup [.int s1, .int e1], .tup [.int e1, .int s1]])) (.hl a2.n 0) = 3 := by
        show lenO _ + 1 = _
        rw [gj]
        rfl
      rw [tn]
      generalize a2.new (.lst [.tup [.int s1, .int e1], .tup [.int e1, .int s1]]) = a3 at *
      have nf : a1.n ≠ a2.n := by omega
      refine w_for (fun a' => a'.get a2.n = some (.lst [.tup [.int s1, .int e1], .tup [.int e1, .int s1]])) (fun l ev a' => ∃ (k : Nat) (o9 o10 o11 o12 : Option PV), k ≤ 2 ∧ l = ([.tup [.int s1, .int e1], .tup [.int e1, .int s1]] : List PV).drop k ∧
        ev = [some (.tup (iw row)), some (.int s), some (.tup (iw w)), some (.int e), some (.int s1), some (.tup (iw [])), some (.int e1), some (.ref a1.n), some (.int row.length), o9, o10, o11, o12] ∧ Xt a1 a' ∧ a'.n = a1.n + 2 ∧
        a'.get a2.n = some (.lst [.tup [.int s1, .int e1], .tup [.int e1, .int s1]]) ∧ a'.get a1.n = some (.lst ([tri (srt2 s1 e1)] ++ (if 1 ≤ k then acrL row s1 e1 else []) ++ (if 2 ≤ k then acrL row e1 s1 else []))))
        (fun l ev a' ⟨k, o9, o10, o11, o12, _, _, _, _, _, g, _⟩ => g) ?_ ?_ _ _ _ _ _ (yl_hl fun _ g => g) (by simp) ⟨0, none, none, none, none, by omega, rfl, by rw [iw_len] <;> rfl, x3, hn, gj, by simpa using gf'⟩
      · rintro ev a' ⟨k, o9, o10, o11, o12, hk, hl, rfl, xa, na, gl, gf⟩
        have k2 : k = 2 := by
          rcases k with _ | _ | k
          · cases hl
          · cases hl
          · omega
        subst k2
        rw [if_pos (by omega), if_pos (by omega)] at gf
        have xx := f1.trans xa
        push_cast
        rw [eb]
        have A1 : acrL row s1 e1 = (if e1 = nx row s1 then [tri (srt2 (acr row s1) (nx row (acr row s1)))] else []) := rfl
        have A2 : acrL row e1 s1 = (if s1 = nx row e1 then [tri (srt2 (acr row e1) (nx row (acr row e1)))] else []) := rfl
        rw [A1, A2] at gf
        have B : btw row s1 e1 = if e1 = nx row s1 then some s1 else if s1 = nx row e1 then some e1 else none := rfl
        rw [B]
        by_cases z1 : e1 = nx row s1
        · have z2 : ¬ s1 = nx row e1 := by
            intro z
            rw [z1] at z
            exact h.nx_nx hs1 z.symm
          rw [if_pos z1, if_neg z2] at gf
          rw [if_pos z1]
          rw [o_minL2 gf]
          exact ⟨rfl, xx⟩
        · rw [if_neg z1] at gf
          rw [if_neg z1]
          by_cases z2 : s1 = nx row e1
          · rw [if_pos z2] at gf
            rw [if_pos z2]
            rw [o_minL2 gf]
            exact ⟨rfl, xx⟩
          · rw [if_neg z2] at gf
            rw [if_neg z2]
            rw [o_minL1 gf]
            exact ⟨rfl, xx⟩
      · rintro v l ev a' ⟨k, o9, o10, o11, o12, hk, hl, rfl, xa, na, gl, gf⟩
        rcases k with _ | _ | k
        · cases hl
          rw [gw_tu2, on_nx]
          refine lb_body h hs1 gf (by simp [LIM]) fun p11 p12 a'' n'' g'' o'' => ?_
          refine ⟨1, _, _, _, _, by omega, rfl, rfl, ⟨by rw [n'']; exact xa.le, fun i hi => by rw [o'' i (by omega), xa.old i hi]⟩, by omega, by rw [o'' _ (Ne.symm nf)]; exact gl, ?_⟩
          rw [g'']
          simp
        · cases hl
          rw [gw_tu2, on_nx]
          refine lb_body h he1 gf (by
            have al := acrL_len row s1 e1
            simp [LIM]
            omega) fun p11 p12 a'' n'' g'' o'' => ?_
          refine ⟨2, _, _, _, _, by omega, rfl, rfl, ⟨by rw [n'']; exact xa.le, fun i hi => by rw [o'' i (by omega), xa.old i hi]⟩, by omega, by rw [o'' _ (Ne.symm nf)]; exact gl, ?_⟩
          rw [g'']
          simp
        · have k0 : k = 0 := by omega
          subst k0
          cases hl
  · refine if_t (by simp [hu]) ?_
    push_cast
    refine wR_of (und_ok u (by omega) _) fun a2 f2 => ?_
    push_cast
    rw [o_minQ (t := (s1, u, e1)) (u := (e1, und u, s1)) rfl rfl]
    refine ⟨?_, f1.trans f2⟩
    show _ = ofT (if u = [] then _ else _)
    rw [if_neg hu]
    rfl
end VI
end
section
set_option maxRecDepth 100000
/-! The fact; numbers, letters. -/
namespace VI
open PySem PyProof.Rows

theorem o_inL {b : Bool} {c : Int} {i : Nat} {w : List Int} {a : AH} {P : PV × AH → Prop} (g : a.get i = some (.lst (iw w))) : wO (cIn b (.int c) (.ref i) a) P = P (.bl (Bool.xor b (decide (c ∈ w))), a) := by
  have e : cIn b (.int c) (.ref i) a = inD b (.int c) (.ref i) a := by
    show (match a.get i with | some (.dct kvs) => (match keyOf (PV.int c) with | some q => some (PV.bl (Bool.xor b (dlook kvs q).isSome), a) | none => none) | _ => inD b (.int c) (.ref i) a) = _
    rw [g]
  rw [e]
  unfold inD
  rw [toD_int, show DEP = 18 + 2 from rfl, toD_lst 18 g]
  show wO (some (PV.bl (Bool.xor b ((w.map PyData.int).any fun y => PyData.eqv y (.int c))), a)) P = _
  rw [any_int] <;> rfl
theorem at_pv {row : List Int} {g : Nat} (hg : g < row.length) : L2.atI (iw row) ((g : Int) - 1) = some (.int (row.getD (prv row.length g) 0)) := by
  have hp : prv row.length g < row.length := by
    unfold prv
    split <;> omega
  refine at_prv hg ?_
  rw [List.getD_eq_getElem?_getD, List.getElem?_eq_getElem hp] <;> rfl
theorem wk_none {row : List Int} {g : Nat} {c : Int} (hg : g < row.length) : wk row g c = none ↔ ¬ c ∈ [row.getD g 0, row.getD (prv row.length g) 0] := by
  have hp : prv row.length g < row.length := by
    unfold prv
    split <;> omega
  unfold wk
  rw [List.getD_eq_getElem?_getD, List.getD_eq_getElem?_getD, List.getElem?_eq_getElem hg, List.getElem?_eq_getElem hp]
  by_cases h1 : row[g] = c
  · rw [if_pos (by rw [h1])]
    simp [h1]
  · rw [if_neg (by simp [h1])]
    by_cases h2 : row[prv row.length g] = c
    · rw [if_pos (by rw [h2])]
      simp [h2]
    · rw [if_neg (by simp [h2])]
      simp [Ne.symm h1, Ne.symm h2, eq_comm]
theorem pf_ok {row : List Int} (h : RW row) {w : List Int} {s e : Nat} (hs : s < row.length) (he : e < row.length) (hw : LW row w) (hl : w.length ≤ 900) (a : AH) :
    wR (F__law_plain_fact [.tup (iw row), tri (s, w, e)] a) (fun v a' => ∃ b, v = .bl b ∧ (b = true ↔ PF row s w e) ∧ Xt a a') nno := by
  have LM : 900 < LIM := by decide
  unfold F__law_plain_fact tri
  refine Eq.mpr w_F ?_
  rw [if_pos (by rfl)]
  simp only [startE, List.map_cons, List.map_nil, List.length_cons, List.length_nil, Nat.reduceAdd, Nat.reduceSub, List.reduceReplicate, List.cons_append, List.nil_append]
  unfold g__law_plain_fact
  push_cast
  cases w with
  | nil =>
    refine if_t (by simp) ?_
    push_cast
    refine ⟨_, rfl, ?_, .refl _⟩
    unfold PF
    rw [if_pos rfl]
    simp
    omega
  | cons c w =>
    refine if_f (by simp) ?_
    push_cast [at_nat hs, at_pv hs]
    have x1 := Xt.new a (.lst [.int (row.getD s 0), .int (row.getD (prv row.length s) 0)])
    have g1 : (a.new (.lst [.int (row.getD s 0), .int (row.getD (prv row.length s) 0)])).get a.n = some (.lst (iw [row.getD s 0, row.getD (prv row.length s) 0])) := by
      rw [AH.get_new, if_pos rfl] <;> rfl
    have n1 : a.n < (a.new (.lst [.int (row.getD s 0), .int (row.getD (prv row.length s) 0)])).n := Nat.lt_succ_self _
    generalize a.new (.lst [.int (row.getD s 0), .int (row.getD (prv row.length s) 0)]) = a1 at *
    refine wR_of (frd_ok _ (by omega) _) fun a2 f2 => ?_
    have g2 : a2.get a.n = some (.lst (iw [row.getD s 0, row.getD (prv row.length s) 0])) := by
      rw [f2.old _ n1]
      exact g1
    push_cast
    unfold PF
    rw [if_neg (by simp)]
    by_cases hf : frd (c :: w) = c :: w
    · refine if_t (by simp [hf]) ?_
      push_cast [at_0, ↓o_inL g2]
      by_cases hc : c ∈ [row.getD s 0, row.getD (prv row.length s) 0]
      · refine if_f (by simp only [hc, decide_true, Bool.not_true]) ?_
        refine ⟨_, rfl, ?_, x1.trans f2⟩
        simp only [Bool.false_eq_true, false_iff]
        rintro ⟨_, z, _⟩
        exact (wk_none hs).mp (z c rfl) hc
      · refine if_t (by simp only [hc, decide_false, Bool.not_false]) ?_
        rcases snoc (c :: w) with z | ⟨M, d, z⟩
        · cases z
        · have aL : L2.atI (iw (c :: w)) ((((c :: w).length : Nat) : Int) - 1) = some (.int d) := by rw [z]; exact at_L
          rw [List.length_cons] at aL
          have g3 : (a2.new (.lst [.int (row.getD e 0), .int (row.getD (prv row.length e) 0)])).get a2.n = some (.lst (iw [row.getD e 0, row.getD (prv row.length e) 0])) := by
            rw [AH.get_new, if_pos rfl] <;> rfl
          push_cast [aL, at_nat he, at_pv he, ↓o_inL g3]
          refine ⟨_, rfl, ?_, (x1.trans f2).trans (Xt.new _ _)⟩
          have e1 : (und (c :: w)).head? = some (VI.x1 d) := by
            rw [z, und_app]
            rfl
          have e2 : Stk row s (c :: w) := fun c' e => by
            cases e
            exact (wk_none hs).mpr hc
          simp only [Bool.not_eq_true', decide_eq_false_iff_not]
          constructor
          · intro q
            refine ⟨hf, e2, fun c' y => ?_⟩
            rw [e1] at y
            cases y
            exact (wk_none he).mpr q
          · rintro ⟨_, _, q⟩
            exact (wk_none he).mp (q _ e1)
    · refine if_f (by simp [hf]) ?_
      refine ⟨_, rfl, ?_, x1.trans f2⟩
      simp [hf]
end VI
end
section
set_option maxRecDepth 100000
/-! Numbers, letters, skins: what is asked of them. -/
namespace VI
open PySem PyProof.Rows

def nr : PV → Bool
  | .ref _ => false
  | .exc _ _ _ => false
  | _ => true
/-- a whole number from lo to hi -/
def iv (lo hi : Int) : PV → Bool
  | .int i => decide (lo ≤ i) && decide (i ≤ hi)
  | _ => false
def skO (row : List Int) : AO := .ins "Skin" [("row", .tup (iw row)), ("bands", .int ((row.length / 2 : Nat) : Int))]
theorem sk_row {a : AH} {sk : Nat} {row : List Int} {P : PV → Prop} (h : a.get sk = some (skO row)) : wO (getF ["Skin"] "row" (.ref sk) a) P = P (.tup (iw row)) := by
  have e : getF ["Skin"] "row" (.ref sk) a = some (.tup (iw row)) := by
    simp only [getF, h, skO]
    rfl
  rw [e] <;> rfl
theorem sk_bands {a : AH} {sk : Nat} {row : List Int} {P : PV → Prop} (h : a.get sk = some (skO row)) : wO (getF ["Skin"] "bands" (.ref sk) a) P = P (.int ((row.length / 2 : Nat) : Int)) := by
  have e : getF ["Skin"] "bands" (.ref sk) a = some (.int ((row.length / 2 : Nat) : Int)) := by
    simp only [getF, h, skO]
    rfl
  rw [e] <;> rfl
section
variable {a : AH} {Q : PV → AH → Prop} {X : EX}
theorem ns_ok {sk : Nat} {row : List Int} (h : a.get sk = some (skO row)) : wR (F_need_skin [.ref sk] a) Q X = Q .non a := by
  have e : isV (fun _ => false) [("Skin", true)] [] a (.ref sk) = some true := by
    simp only [isV, h, skO]
    rfl
  apply propext
  unfold F_need_skin
  rw [w_F' (by rfl)]
  simp only [startE, List.map_cons, List.map_nil, List.length_cons, List.length_nil, Nat.reduceAdd, Nat.reduceSub, List.reduceReplicate, List.cons_append, List.nil_append]
  unfold g_need_skin
  push_cast [e]
theorem ns_bad {v : PV} (hv : nr v = true) : wR (F_need_skin [v] a) Q X = X "BadSkin" [("part", .non)] a := by
  have e : isV (fun _ => false) [("Skin", true)] [] a v = some false := by
    cases v <;> first | rfl | cases hv
  apply propext
  unfold F_need_skin
  rw [w_F' (by rfl)]
  simp only [startE, List.map_cons, List.map_nil, List.length_cons, List.length_nil, Nat.reduceAdd, Nat.reduceSub, List.reduceReplicate, List.cons_append, List.nil_append]
  unfold g_need_skin
  push_cast [e]
theorem nb_ok {sk : Nat} {row : List Int} (h : a.get sk = some (skO row)) (hr : 4 ≤ row.length) : wR (F_need_bands [.ref sk] a) Q X = Q .non a := by
  apply propext
  unfold F_need_bands
  rw [w_F' (by rfl)]
  simp only [startE, List.map_cons, List.map_nil, List.length_cons, List.length_nil, Nat.reduceAdd, Nat.reduceSub, List.reduceReplicate, List.cons_append, List.nil_append]
  unfold g_need_bands
  push_cast [↓ns_ok h, ↓sk_bands h]
  have z : ¬ ((row.length / 2 : Nat) : Int) < 2 := by omega
  rw [decide_eq_false z, ifW_f]
  push_cast
theorem nb_ring {sk : Nat} {row : List Int} (h : a.get sk = some (skO row)) (hr : row.length < 4) : wR (F_need_bands [.ref sk] a) Q X = X "BadSkin" [("part", .str "bands")] a := by
  apply propext
  unfold F_need_bands
  rw [w_F' (by rfl)]
  simp only [startE, List.map_cons, List.map_nil, List.length_cons, List.length_nil, Nat.reduceAdd, Nat.reduceSub, List.reduceReplicate, List.cons_append, List.nil_append]
  unfold g_need_bands
  push_cast [↓ns_ok h, ↓sk_bands h]
  have z : ((row.length / 2 : Nat) : Int) < 2 := by omega
  rw [decide_eq_true z, ifW_t]
  push_cast
theorem nb_bad {v : PV} (hv : nr v = true) : wR (F_need_bands [v] a) Q X = X "BadSkin" [("part", .non)] a := by
  apply propext
  unfold F_need_bands
  rw [w_F' (by rfl)]
  simp only [startE, List.map_cons, List.map_nil, List.length_cons, List.length_nil, Nat.reduceAdd, Nat.reduceSub, List.reduceReplicate, List.cons_append, List.nil_append]
  unfold g_need_bands
  push_cast [↓ns_bad hv]
theorem in_ok {v : PV} (hv : nr v = true) : wR (F_is_number [v] a) Q X = Q (.bl (match v with | .int _ => true | _ => false)) a := by
  apply propext
  unfold F_is_number
  rw [w_F' (by rfl)]
  simp only [startE, List.map_cons, List.map_nil, List.length_cons, List.length_nil, Nat.reduceAdd, Nat.reduceSub, List.reduceReplicate, List.cons_append, List.nil_append]
  unfold g_is_number
  cases v with
  | ref i => cases hv
  | exc c ns l => cases hv
  | _ => push_cast [isV, fIsInt, fIsBool]
theorem bt_ok {v : PV} (hv : nr v = true) {lo hi : Int} : wR (F_is_between [v, .int lo, .int hi] a) Q X = Q (.bl (iv lo hi v)) a := by
  apply propext
  unfold F_is_between
  rw [w_F' (by rfl)]
  simp only [startE, List.map_cons, List.map_nil, List.length_cons, List.length_nil, Nat.reduceAdd, Nat.reduceSub, List.reduceReplicate, List.cons_append, List.nil_append]
  unfold g_is_between
  push_cast [↓in_ok hv]
  cases v with
  | int i =>
    push_cast
    unfold iv
    by_cases h : lo ≤ i
    · rw [decide_eq_true h]
      push_cast
      simp [h]
    · rw [decide_eq_false h]
      push_cast
      simp [h]
  | ref i => cases hv
  | exc c ns l => cases hv
  | _ => push_cast [iv]
theorem nbt_ok {v : PV} (hv : nr v = true) {lo hi : Int} {nm : PV} : wR (F_need_between [v, .int lo, .int hi, nm] a) Q X = if iv lo hi v = true then Q .non a else X "BadNumber" [("part", nm)] a := by
  apply propext
  unfold F_need_between
  rw [w_F' (by rfl)]
  simp only [startE, List.map_cons, List.map_nil, List.length_cons, List.length_nil, Nat.reduceAdd, Nat.reduceSub, List.reduceReplicate, List.cons_append, List.nil_append]
  unfold g_need_between
  push_cast [↓bt_ok hv]
  cases iv lo hi v with
  | true => push_cast; simp
  | false => push_cast; simp
end
end VI
end
section
set_option maxRecDepth 100000
/-! Letters, words, plain triples: judged. -/
namespace VI
open PySem PyProof.Rows

structure SkH (a : AH) (sk : Nat) (row : List Int) : Prop where
  lt : sk < a.n
  at_ : a.get sk = some (skO row)
theorem SkH.xt {a b : AH} {sk : Nat} {row : List Int} (h : SkH a sk row) (x : Xt a b) : SkH b sk row := ⟨Nat.lt_of_lt_of_le h.lt x.le, by rw [x.old _ h.lt]; exact h.at_⟩
theorem allBl_map : ∀ bs : List Bool, allBl (bs.map .bl) = some bs
  | [] => rfl
  | b :: bs => by
    have ih := allBl_map bs
    show (match allBl (bs.map .bl) with | some bs => some (b :: bs) | none => none) = _
    rw [ih]
theorem o_all {a : AH} {i : Nat} {bs : List Bool} {P : PV × AH → Prop} (h : a.get i = some (.lst (bs.map .bl))) : wO (bAll [.ref i] a) P = P (.bl (bs.all id), a) := by
  have e : oneL [.ref i] a = some (bs.map .bl) := by simp only [oneL, h]
  unfold bAll
  rw [e]
  show wO (match allBl (bs.map .bl) with | some bs => some (PV.bl (bs.all id), a) | none => none) P = _
  rw [allBl_map] <;> rfl
theorem pick2_T (f : PV → PV) (l : List PV) : pick2 (fun _ => true) f l = l.map f := pick2_all fun _ _ => rfl
section
variable {a : AH} {Q : PV → AH → Prop} {X : EX}
/-- is_tuple(thing, 3), is_letters .. of what is no tuple -/
theorem il_no {sk : PV} {v : PV} (hv : isV fIsTup [] [] a v = some false) : wR (F_is_letters [sk, v] a) Q X = Q (.bl false) a := by
  apply propext
  unfold F_is_letters
  rw [w_F' (by rfl)]
  simp only [startE, List.map_cons, List.map_nil, List.length_cons, List.length_nil, Nat.reduceAdd, Nat.reduceSub, List.reduceReplicate, List.cons_append, List.nil_append]
  unfold g_is_letters
  push_cast [hv]
theorem il_ok {sk : Nat} {row : List Int} (h : SkH a sk row) {l : List PV} (hl : l.length ≤ LIM) (hn : ∀ v ∈ l, nr v = true) (k : ∀ a', Xt a a' → Q (.bl (l.all (iv 0 ((row.length : Int) - 1)))) a') : wR (F_is_letters [.ref sk, .tup l] a) Q X := by
  unfold F_is_letters
  refine Eq.mpr w_F ?_
  rw [if_pos (by rfl)]
  simp only [startE, List.map_cons, List.map_nil, List.length_cons, List.length_nil, Nat.reduceAdd, Nat.reduceSub, List.reduceReplicate, List.cons_append, List.nil_append]
  unfold g_is_letters
  have e : isV fIsTup [] [] a (.tup l) = some true := rfl
  push_cast [e]
  refine lc_use (fun _ => true) (fun v => .bl (iv 0 ((row.length : Int) - 1) v)) l (yl_seq l) rfl hl (fun v hv a1 x1 => ⟨_, rfl, ?_⟩) fun a1 x1 n1 g1 => ?_
  · have S1 := h.xt x1
    push_cast
    refine ⟨Xt.refl _, fun _ => ?_⟩
    push_cast [↓sk_row S1.at_, ↓bt_ok (hn v hv)]
    exact Xt.refl _
  · rw [pick2_T] at g1
    have g2 : a1.get a.n = some (.lst ((l.map (iv 0 ((row.length : Int) - 1))).map .bl)) := by
      rw [g1, List.map_map] <;> rfl
    push_cast [↓o_all g2]
    have e2 : (l.map (iv 0 ((row.length : Int) - 1))).all id = l.all (iv 0 ((row.length : Int) - 1)) := by
      rw [List.all_map] <;> rfl
    rw [e2]
    exact k _ x1
theorem iw_ok {sk : Nat} {row : List Int} (h : SkH a sk row) {l : List PV} (hl : l.length ≤ LIM) (hn : ∀ v ∈ l, nr v = true) (k : ∀ a', Xt a a' → Q (.bl (l.all (iv 0 ((row.length : Int) - 1)) && decide (l.length ≤ 200))) a') : wR (F_is_word [.ref sk, .tup l] a) Q X := by
  unfold F_is_word
  refine Eq.mpr w_F ?_
  rw [if_pos (by rfl)]
  simp only [startE, List.map_cons, List.map_nil, List.length_cons, List.length_nil, Nat.reduceAdd, Nat.reduceSub, List.reduceReplicate, List.cons_append, List.nil_append]
  unfold g_is_word
  push_cast [↓ns_ok h.at_]
  refine il_ok h hl hn fun a1 x1 => ?_
  refine if_i (fun z => ?_) fun z => ?_
  · push_cast
    have q := k _ x1
    rw [z, Bool.true_and] at q
    have e : decide ((l.length : Int) ≤ 200) = decide (l.length ≤ 200) := decide_eq_decide.mpr (by omega)
    rw [e]
    exact q
  · have q := k _ x1
    rw [z] at q
    exact q
theorem iw_no {sk : Nat} {row : List Int} (h : SkH a sk row) {v : PV} (hv : isV fIsTup [] [] a v = some false) : wR (F_is_word [.ref sk, v] a) Q X = Q (.bl false) a := by
  apply propext
  unfold F_is_word
  rw [w_F' (by rfl)]
  simp only [startE, List.map_cons, List.map_nil, List.length_cons, List.length_nil, Nat.reduceAdd, Nat.reduceSub, List.reduceReplicate, List.cons_append, List.nil_append]
  unfold g_is_word
  push_cast [↓ns_ok h.at_, ↓il_no hv]
theorem nw_ok {sk : Nat} {row : List Int} (h : SkH a sk row) {l : List PV} (hl : l.length ≤ LIM) (hn : ∀ v ∈ l, nr v = true) (k : ∀ a', Xt a a' → if (l.all (iv 0 ((row.length : Int) - 1)) && decide (l.length ≤ 200)) = true then Q .non a' else X "BadWord" [] a') : wR (F_need_word [.ref sk, .tup l] a) Q X := by
  unfold F_need_word
  refine Eq.mpr w_F ?_
  rw [if_pos (by rfl)]
  simp only [startE, List.map_cons, List.map_nil, List.length_cons, List.length_nil, Nat.reduceAdd, Nat.reduceSub, List.reduceReplicate, List.cons_append, List.nil_append]
  unfold g_need_word
  push_cast
  refine iw_ok h hl hn fun a1 x1 => ?_
  have q := k _ x1
  push_cast
  refine if_i (fun z => ?_) fun z => ?_
  · push_cast
    rw [if_neg (not_t z)] at q
    exact q
  · push_cast
    rw [if_pos (not_f z)] at q
    exact q
theorem nw_no {sk : Nat} {row : List Int} (h : SkH a sk row) {v : PV} (hv : isV fIsTup [] [] a v = some false) : wR (F_need_word [.ref sk, v] a) Q X = X "BadWord" [] a := by
  apply propext
  unfold F_need_word
  rw [w_F' (by rfl)]
  simp only [startE, List.map_cons, List.map_nil, List.length_cons, List.length_nil, Nat.reduceAdd, Nat.reduceSub, List.reduceReplicate, List.cons_append, List.nil_append]
  unfold g_need_word
  push_cast [↓iw_no h hv]
theorem it_no {v : PV} (hv : isV fIsTup [] [] a v = some false) {n : Int} : wR (F_is_tuple [v, .int n] a) Q X = Q (.bl false) a := by
  apply propext
  unfold F_is_tuple
  rw [w_F' (by rfl)]
  simp only [startE, List.map_cons, List.map_nil, List.length_cons, List.length_nil, Nat.reduceAdd, Nat.reduceSub, List.reduceReplicate, List.cons_append, List.nil_append]
  unfold g_is_tuple
  push_cast [hv]
theorem it_ok {l : List PV} {n : Nat} : wR (F_is_tuple [.tup l, .int n] a) Q X = Q (.bl (decide (l.length = n))) a := by
  apply propext
  unfold F_is_tuple
  rw [w_F' (by rfl)]
  simp only [startE, List.map_cons, List.map_nil, List.length_cons, List.length_nil, Nat.reduceAdd, Nat.reduceSub, List.reduceReplicate, List.cons_append, List.nil_append]
  unfold g_is_tuple
  have e : isV fIsTup [] [] a (.tup l) = some true := rfl
  push_cast [e]
  have e : decide ((l.length : Int) = n) = decide (l.length = n) := decide_eq_decide.mpr (by omega)
  rw [e]
end
end VI
end
section
set_option maxRecDepth 100000
/-! Plain triples: judged by the program, by the law. -/
namespace VI
open PySem PyProof.Rows

theorem eqv_trd (t u : Trp) : PyData.eqv (trd t) (trd u) = decide (t = u) := by
  obtain ⟨t1, t2, t3⟩ := t
  obtain ⟨u1, u2, u3⟩ := u
  unfold trd
  rw [PyData.eqv, PyData.eqvAll, PyData.eqvAll, PyData.eqvAll, PyData.eqvAll, PyData.eqv, PyData.eqv, PyData.eqv, eqvAll_ints]
  show (decide ((t1 : Int) = u1) && (decide (t2 = u2) && (decide ((t3 : Int) = u3) && true))) = _
  by_cases a : t1 = u1
  · by_cases b : t2 = u2
    · by_cases c : t3 = u3
      · simp [a, b, c]
      · have c' : ¬ (t3 : Int) = u3 := by omega
        simp [c, c']
    · simp [b]
  · have a' : ¬ (t1 : Int) = u1 := by omega
    simp [a, a']
theorem toD_tri (a : AH) (t : Trp) : toD a DEP (tri t) = some (trd t) := by
  rw [show DEP = 19 + 1 from rfl]
  unfold tri
  unfold toD
  show (mapO (toD a 19) [.int t.1, .tup (iw t.2.1), .int t.2.2]).map PyData.tuple = _
  have e : ∀ i : Int, toD a 19 (.int i) = some (.int i) := fun i => by
    rw [show (19 : Nat) = 18 + 1 from rfl]
    unfold toD
    rfl
  rw [mapO_co (e _) (mapO_co (toD_tup a 17 t.2.1) (mapO_co (e _) mapO_ni))]
  rfl
theorem toD_non (a : AH) : toD a DEP .non = some .none := by
  rw [show DEP = 19 + 1 from rfl]
  unfold toD
  rfl
theorem o_eqT {a : AH} {o : Option Trp} {t : Trp} {P : PV × AH → Prop} : wO (cEq (ofT o) (tri t) a) P = P (.bl (decide (o = some t)), a) := by
  cases o with
  | none =>
    have e : cEq (ofT none) (tri t) a = some (.bl (PyData.eqv .none (trd t)), a) := by
      unfold cEq
      rw [toD_tri]
      show (match toD a DEP .non with | some d => some (PV.bl (PyData.eqv d (trd t)), a) | none => none) = _
      rw [toD_non]
    rw [e]
    have : PyData.eqv .none (trd t) = false := by
      unfold trd
      rw [PyData.eqv] <;> simp
    rw [this]
    simp [wO]
  | some u =>
    have e : cEq (ofT (some u)) (tri t) a = some (.bl (PyData.eqv (trd u) (trd t)), a) := by
      unfold cEq
      rw [toD_tri]
      show (match toD a DEP (tri u) with | some d => some (PV.bl (PyData.eqv d (trd t)), a) | none => none) = _
      rw [toD_tri]
    rw [e, eqv_trd]
    show P (.bl (decide (u = t)), a) = _
    simp
/-- surely no tuple -/
inductive NoT (a : AH) : PV → Prop where
  | non : NoT a .non
  | int (i : Int) : NoT a (.int i)
  | bl (b : Bool) : NoT a (.bl b)
  | str (x : Str) : NoT a (.str x)
  | lst {i : Nat} {l : List PV} (h3 : 3 ≤ i) (h : i < a.n) (g : a.get i = some (.lst l)) : NoT a (.ref i)
theorem NoT.xt {a b : AH} {v : PV} (h : NoT a v) (x : Xt a b) : NoT b v := by
  cases h with
  | lst h3 h g => exact .lst h3 (Nat.lt_of_lt_of_le h x.le) (by rw [x.old _ h]; exact g)
  | _ => constructor
theorem NoT.is {a : AH} {v : PV} (h : NoT a v) : isV fIsTup [] [] a v = some false := by
  cases h with
  | lst h3 h g => simp only [isV, g, fIsTup]
  | _ => rfl
/-- in a row's range -/
abbrev inr (row : List Int) : PV → Bool := iv 0 ((row.length : Int) - 1)
/-- surely no triple -/
inductive No (row : List Int) (a : AH) : PV → Prop where
  | a {v : PV} (h : NoT a v) : No row a v
  | b {l : List PV} (h : l.length ≠ 3) : No row a (.tup l)
  | c {x y z : PV} (h : NoT a y) : No row a (.tup [x, y, z])
  | d {x z : PV} {l : List PV} (hl : l.length ≤ LIM) (hx : nr x = true) (hz : nr z = true) (hn : ∀ v ∈ l, nr v = true) (h : (inr row x && inr row z && l.all (inr row)) = false) : No row a (.tup [x, .tup l, z])
theorem No.xt {row : List Int} {a b : AH} {v : PV} (h : No row a v) (x : Xt a b) : No row b v := by
  cases h with
  | a h => exact .a (h.xt x)
  | b h => exact .b h
  | c h => exact .c (h.xt x)
  | d hl hx hz hn h => exact .d hl hx hz hn h
theorem iv_nat {row : List Int} {i : Nat} (h : i < row.length) : inr row (.int i) = true := by
  unfold inr iv
  simp
  omega
theorem iv_lt {row : List Int} {c : Int} (h : Lt row c) : inr row (.int c) = true := by
  unfold Lt at h
  unfold inr iv
  simp
  omega
theorem inr_iff {row : List Int} {c : Int} : inr row (.int c) = true ↔ Lt row c := by
  unfold Lt inr iv
  simp
  omega
theorem nr_iw {w : List Int} : ∀ v ∈ iw w, nr v = true := by
  intro v hv
  obtain ⟨i, _, rfl⟩ := iw_mem hv
  rfl
theorem all_iw {row w : List Int} (h : LW row w) : (iw w).all (inr row) = true := by
  rw [List.all_eq_true]
  intro v hv
  obtain ⟨i, hi, rfl⟩ := iw_mem hv
  exact iv_lt (h i hi)
theorem at3_0 {x y z : PV} : L2.atI [x, y, z] 0 = some x := rfl
theorem at3_1 {x y z : PV} : L2.atI [x, y, z] 1 = some y := rfl
theorem at3_2 {x y z : PV} : L2.atI [x, y, z] 2 = some z := rfl
theorem nNo {row : List Int} {a : AH} {v : PV} (h : NoT a v) {n : Int} {Q : PV → AH → Prop} {X : EX} : wR (F_is_tuple [v, .int n] a) Q X = Q (.bl false) a := it_no h.is
section
variable {a : AH} {Q : PV → AH → Prop} {X : EX}
theorem it3_ok {l : List PV} : wR (F_is_tuple [.tup l, .int 3] a) Q X = Q (.bl (decide (l.length = 3))) a := it_ok (n := 3)
theorem ibo_no {row : List Int} {sk : Nat} (h : SkH a sk row) {v : PV} (hv : No row a v) (k : ∀ a', Xt a a' → Q (.bl false) a') : wR (F_is_bridge_of [.ref sk, v, .int 40] a) Q X := by
  unfold F_is_bridge_of
  refine Eq.mpr w_F ?_
  rw [if_pos (by rfl)]
  simp only [startE, List.map_cons, List.map_nil, List.length_cons, List.length_nil, Nat.reduceAdd, Nat.reduceSub, List.reduceReplicate, List.cons_append, List.nil_append]
  unfold g_is_bridge_of
  cases hv with
  | a hv =>
    push_cast [↓it_no hv.is]
    exact k _ (.refl _)
  | b hl =>
    push_cast [↓it3_ok]
    rw [decide_eq_false hl]
    push_cast
    exact k _ (.refl _)
  | c hy =>
    push_cast [↓it3_ok, at3_1, ↓il_no hy.is]
    exact k _ (.refl _)
  | @d x z l hl hx hz hn hf =>
    push_cast [↓it3_ok, at3_1]
    refine il_ok h hl hn fun a1 x1 => ?_
    have S1 := h.xt x1
    push_cast
    refine if_i (fun y => ?_) fun y => ?_
    · push_cast
      exact k _ x1
    · push_cast [at3_0, at3_2]
      refine lc_use (fun _ => true) (fun v => .bl (inr row v)) [x, z] (yl_seq _) rfl (by simp [LIM]) (fun v hv a2 x2 => ⟨_, rfl, ?_⟩) fun a2 x2 n2 g2 => ?_
      · have S2 := S1.xt x2
        have nv : nr v = true := by
          rcases List.mem_cons.mp hv with rfl | hv
          · exact hx
          · rcases List.mem_cons.mp hv with rfl | hv
            · exact hz
            · cases hv
        push_cast
        refine ⟨Xt.refl _, fun _ => ?_⟩
        push_cast [↓sk_row S2.at_, ↓bt_ok nv]
        exact Xt.refl _
      · rw [pick2_T] at g2
        have g3 : a2.get a1.n = some (.lst (([inr row x, inr row z]).map .bl)) := g2
        push_cast [↓o_all g3]
        have q : (inr row x && inr row z) = false := by
          have y' : l.all (inr row) = true := by
            have := not_f y
            exact this
          rw [y', Bool.and_true] at hf
          exact hf
        have q2 : List.all [inr row x, inr row z] id = false := by
          simp only [List.all_cons, List.all_nil, id, Bool.and_true]
          exact q
        rw [q2]
        push_cast
        exact k _ (x1.trans x2)
theorem ibo_ok {row : List Int} (hr : RW row) {sk : Nat} (h : SkH a sk row) {t : Trp} (h1 : t.1 < row.length) (h2 : t.2.2 < row.length) (hw : LW row t.2.1) (hl : t.2.1.length ≤ 900) (k : ∀ a', Xt a a' → Q (.bl (decide (t.2.1.length ≤ 40) && decide (BR row t.1 t.2.1 t.2.2 = some t))) a') : wR (F_is_bridge_of [.ref sk, tri t, .int 40] a) Q X := by
  have LM : 900 < LIM := by decide
  unfold F_is_bridge_of
  refine Eq.mpr w_F ?_
  rw [if_pos (by rfl)]
  simp only [startE, List.map_cons, List.map_nil, List.length_cons, List.length_nil, Nat.reduceAdd, Nat.reduceSub, List.reduceReplicate, List.cons_append, List.nil_append]
  unfold g_is_bridge_of
  have et : tri t = .tup [.int t.1, .tup (iw t.2.1), .int t.2.2] := rfl
  rw [et]
  push_cast [↓it3_ok, at3_1]
  refine il_ok h (by rw [iw_len]; omega) nr_iw fun a1 x1 => ?_
  have S1 := h.xt x1
  rw [all_iw hw]
  push_cast [at3_0, at3_2]
  refine lc_use (fun _ => true) (fun v => .bl (inr row v)) [.int t.1, .int t.2.2] (yl_seq _) rfl (by simp [LIM]) (fun v hv a2 x2 => ⟨_, rfl, ?_⟩) fun a2 x2 n2 g2 => ?_
  · have S2 := S1.xt x2
    have nv : nr v = true := by
      rcases List.mem_cons.mp hv with rfl | hv
      · rfl
      · rcases List.mem_cons.mp hv with rfl | hv
        · rfl
        · cases hv
    push_cast
    refine ⟨Xt.refl _, fun _ => ?_⟩
    push_cast [↓sk_row S2.at_, ↓bt_ok nv]
    exact Xt.refl _
  · rw [pick2_T] at g2
    have g3 : a2.get a1.n = some (.lst (([inr row (.int t.1), inr row (.int t.2.2)]).map .bl)) := g2
    push_cast [↓o_all g3]
    have q2 : List.all [inr row (.int t.1), inr row (.int t.2.2)] id = true := by
      rw [iv_nat h1, iv_nat h2]
      rfl
    rw [q2]
    push_cast [at3_1]
    have S2 := S1.xt x2
    have x12 := x1.trans x2
    by_cases hc : t.2.1.length ≤ 40
    · refine if_f (by rw [decide_eq_false_iff_not]; omega) ?_
      push_cast [↓sk_row S2.at_, at3_0, at3_1, at3_2]
      refine wR_of (pb_ok hr h1 h2 hw hl _) fun a3 x3 => ?_
      push_cast
      rw [← et, o_eqT]
      have q := k _ (x12.trans x3)
      rw [decide_eq_true hc, Bool.true_and] at q
      exact q
    · refine if_t (by rw [decide_eq_true_iff]; omega) ?_
      push_cast
      have q := k _ x12
      rw [decide_eq_false hc, Bool.false_and] at q
      exact q
theorem ib_no {row : List Int} (hr : RW row) {sk : Nat} (h : SkH a sk row) {v : PV} (hv : No row a v) (k : ∀ a', Xt a a' → Q (.bl false) a') : wR (F_is_bridge [.ref sk, v] a) Q X := by
  unfold F_is_bridge
  refine Eq.mpr w_F ?_
  rw [if_pos (by rfl)]
  simp only [startE, List.map_cons, List.map_nil, List.length_cons, List.length_nil, Nat.reduceAdd, Nat.reduceSub, List.reduceReplicate, List.cons_append, List.nil_append]
  unfold g_is_bridge
  push_cast [↓nb_ok h.at_ hr.lo]
  exact ibo_no h hv k
theorem ib_ok {row : List Int} (hr : RW row) {sk : Nat} (h : SkH a sk row) {t : Trp} (h1 : t.1 < row.length) (h2 : t.2.2 < row.length) (hw : LW row t.2.1) (hl : t.2.1.length ≤ 900) (k : ∀ a', Xt a a' → Q (.bl (decide (t.2.1.length ≤ 40) && decide (BR row t.1 t.2.1 t.2.2 = some t))) a') : wR (F_is_bridge [.ref sk, tri t] a) Q X := by
  unfold F_is_bridge
  refine Eq.mpr w_F ?_
  rw [if_pos (by rfl)]
  simp only [startE, List.map_cons, List.map_nil, List.length_cons, List.length_nil, Nat.reduceAdd, Nat.reduceSub, List.reduceReplicate, List.cons_append, List.nil_append]
  unfold g_is_bridge
  push_cast [↓nb_ok h.at_ hr.lo]
  exact ibo_ok hr h h1 h2 hw hl k
end
end VI
end
section
set_option maxRecDepth 100000
/-! The law's judge; refusals of bridges. -/
namespace VI
open PySem PyProof.Rows

theorem LM40 : 1000 < LIM := by decide
abbrev lpT : FE := (eOr (eNot (eIsi fIsInt [] [] (eVar 2))) (eOr (eIsi fIsBool [] [] (eVar 2)) (eNot (eCh cLe cLt (eC (.int 0)) (eVar 2) (eCB bLen (aCons (eVar 0) aNil))))))
section
variable {a : AH} {Q : PV → AH → Prop} {X : EX}
theorem lpT_ok {row : List Int} {o : Option PV} {v : PV} (hv : nr v = true) : wR (lpT [some (.tup (iw row)), o, some v] a) Q X = Q (.bl (!inr row v)) a := by
  apply propext
  unfold lpT
  cases v with
  | ref i => cases hv
  | exc c ns l => cases hv
  | int i =>
    push_cast [isV, fIsInt, fIsBool]
    unfold inr iv
    by_cases h : 0 ≤ i
    · rw [decide_eq_true h]
      push_cast
      have e : decide (i < (row.length : Int)) = decide (i ≤ (row.length : Int) - 1) := decide_eq_decide.mpr (by omega)
      rw [e]
      simp [h]
    · rw [decide_eq_false h]
      push_cast
      simp [h]
  | _ => push_cast [isV, fIsInt, fIsBool, inr, iv]
/-- the loop over numbers, all of which are in range or not -/
theorem lp_loop {row : List Int} {th : PV} {D : En} {o : Option PV} (l : List PV) (hl : ∀ v ∈ l, nr v = true) (k0 : l.all (inr row) = false → D.rt (.bl false) a) (k1 : l.all (inr row) = true → ∀ o, D.nx [some (.tup (iw row)), some th, o] a) (f : Nat) (hf : l.length < f) :
    wS (forL (gNm 2) (sIf lpT (sRet (eC (.bl false))) sNil) f (.seq l) [some (.tup (iw row)), some th, o] a) D := by
  refine w_for (fun _ => True) (fun l' ev a' => a' = a ∧ (∃ o, ev = [some (.tup (iw row)), some th, o]) ∧ (∀ v ∈ l', nr v = true) ∧ l'.all (inr row) = l.all (inr row)) (fun _ _ _ _ => trivial) ?_ ?_ l _ _ _ _ (yl_seq l) hf ⟨rfl, ⟨_, rfl⟩, hl, rfl⟩
  · rintro ev a' ⟨rfl, ⟨o, rfl⟩, _, e⟩
    exact k1 e.symm o
  · rintro v l' ev a' ⟨rfl, ⟨o, rfl⟩, hn, e⟩
    rw [gw_nm, on_nx]
    dsimp only
    rw [s_if']
    show wR (lpT [some (.tup (iw row)), some th, some v] a') _ _
    rw [lpT_ok (hn v List.mem_cons_self)]
    rw [List.all_cons] at e
    refine if_i (fun z => ?_) fun z => ?_
    · have q : inr row v = false := by
        cases y : inr row v with
        | true => rw [y] at z; cases z
        | false => rfl
      rw [q, Bool.false_and] at e
      push_cast
      exact k0 e.symm
    · rw [not_f z, Bool.true_and] at e
      push_cast
      exact ⟨⟨_, rfl⟩, fun w hw => hn w (List.mem_cons_of_mem _ hw), e⟩
theorem ip_no {row : List Int} {v : PV} (hv : No row a v) (k : ∀ a', Xt a a' → Q (.bl false) a') : wR (F__law_is_plain [.tup (iw row), v] a) Q X := by
  have LM := LM40
  unfold F__law_is_plain
  refine Eq.mpr w_F ?_
  rw [if_pos (by rfl)]
  simp only [startE, List.map_cons, List.map_nil, List.length_cons, List.length_nil, Nat.reduceAdd, Nat.reduceSub, List.reduceReplicate, List.cons_append, List.nil_append]
  unfold g__law_is_plain
  cases hv with
  | a hv =>
    push_cast [hv.is]
    exact k _ (.refl _)
  | @b l hl =>
    have e : isV fIsTup [] [] a (.tup l) = some true := rfl
    push_cast [e]
    refine if_t (by simp; omega) ?_
    push_cast
    exact k _ (.refl _)
  | @c x y z hy =>
    have e : isV fIsTup [] [] a (.tup [x, y, z]) = some true := rfl
    push_cast [e]
    refine if_f (by simp) ?_
    push_cast [at3_1, hy.is]
    exact k _ (.refl _)
  | @d x z l hl hx hz hn hf =>
    have e : isV fIsTup [] [] a (.tup [x, .tup l, z]) = some true := rfl
    have e2 : isV fIsTup [] [] a (.tup l) = some true := rfl
    push_cast [e]
    refine if_f (by simp) ?_
    push_cast [at3_1, e2]
    by_cases h40 : l.length ≤ 40
    · refine if_f (by rw [decide_eq_false_iff_not]; omega) ?_
      push_cast [at3_0, at3_1, at3_2]
      refine ⟨by show 2 + l.length ≤ LIM; omega, ?_⟩
      refine lp_loop ([x, z] ++ l) (fun v hv => ?_) (fun _ => k _ (.refl _)) (fun q => ?_) _ (Nat.lt_succ_self _)
      · rcases List.mem_cons.mp hv with rfl | hv
        · exact hx
        · rcases List.mem_cons.mp hv with rfl | hv
          · exact hz
          · exact hn v hv
      · have q2 : (inr row x && (inr row z && l.all (inr row))) = true := q
        rw [← Bool.and_assoc, hf] at q2
        cases q2
    · refine if_t (by rw [decide_eq_true_iff]; omega) ?_
      push_cast
      exact k _ (.refl _)
theorem ip_ok {row : List Int} (hr : RW row) {t : Trp} (h1 : t.1 < row.length) (h2 : t.2.2 < row.length) (hw : LW row t.2.1) (hl : t.2.1.length ≤ 900) (k : ∀ a', Xt a a' → Q (.bl (decide (t.2.1.length ≤ 40) && decide (BR row t.1 t.2.1 t.2.2 = some t))) a') : wR (F__law_is_plain [.tup (iw row), tri t] a) Q X := by
  have LM := LM40
  unfold F__law_is_plain
  refine Eq.mpr w_F ?_
  rw [if_pos (by rfl)]
  simp only [startE, List.map_cons, List.map_nil, List.length_cons, List.length_nil, Nat.reduceAdd, Nat.reduceSub, List.reduceReplicate, List.cons_append, List.nil_append]
  unfold g__law_is_plain
  have et : tri t = .tup [.int t.1, .tup (iw t.2.1), .int t.2.2] := rfl
  have e : isV fIsTup [] [] a (.tup [.int t.1, .tup (iw t.2.1), .int t.2.2]) = some true := rfl
  have e2 : isV fIsTup [] [] a (.tup (iw t.2.1)) = some true := rfl
  rw [et]
  push_cast [e]
  refine if_f (by simp) ?_
  push_cast [at3_1, e2]
  by_cases h40 : t.2.1.length ≤ 40
  · refine if_f (by rw [decide_eq_false_iff_not]; omega) ?_
    push_cast [at3_0, at3_1, at3_2]
    refine ⟨by show 2 + t.2.1.length ≤ LIM; omega, ?_⟩
    have al : ([PV.int t.1, .int t.2.2] ++ iw t.2.1).all (inr row) = true := by
      rw [List.all_append, all_iw hw]
      simp only [List.all_cons, List.all_nil, iv_nat h1, iv_nat h2, Bool.and_self]
    refine lp_loop ([.int t.1, .int t.2.2] ++ iw t.2.1) (fun v hv => ?_) (fun q => ?_) (fun q o => ?_) _ (Nat.lt_succ_self _)
    · rcases List.mem_cons.mp hv with rfl | hv
      · rfl
      · rcases List.mem_cons.mp hv with rfl | hv
        · rfl
        · exact nr_iw v hv
    · rw [al] at q
      cases q
    · push_cast [at3_0, at3_1, at3_2]
      refine wR_of (lbr_ok hr h1 h2 hw hl _) fun a1 x1 => ?_
      push_cast
      rw [← et, o_eqT]
      have q := k _ x1
      rw [decide_eq_true h40, Bool.true_and] at q
      exact q
  · refine if_t (by rw [decide_eq_true_iff]; omega) ?_
    push_cast
    have q := k _ (.refl _)
    rw [decide_eq_false h40, Bool.false_and] at q
    exact q
theorem nbr_no {row : List Int} (hr : RW row) {sk : Nat} (h : SkH a sk row) {v : PV} (hv : No row a v) (k : ∀ a', Xt a a' → X "BadBridge" [] a') : wR (F_need_bridge [.ref sk, v] a) Q X := by
  unfold F_need_bridge
  refine Eq.mpr w_F ?_
  rw [if_pos (by rfl)]
  simp only [startE, List.map_cons, List.map_nil, List.length_cons, List.length_nil, Nat.reduceAdd, Nat.reduceSub, List.reduceReplicate, List.cons_append, List.nil_append]
  unfold g_need_bridge
  push_cast
  refine ibo_no h hv fun a1 x1 => ?_
  push_cast
  exact k _ x1
theorem nbr_ok {row : List Int} (hr : RW row) {sk : Nat} (h : SkH a sk row) {t : Trp} (h1 : t.1 < row.length) (h2 : t.2.2 < row.length) (hw : LW row t.2.1) (hl : t.2.1.length ≤ 900) (k : ∀ a', Xt a a' → if (decide (t.2.1.length ≤ 40) && decide (BR row t.1 t.2.1 t.2.2 = some t)) = true then Q .non a' else X "BadBridge" [] a') : wR (F_need_bridge [.ref sk, tri t] a) Q X := by
  unfold F_need_bridge
  refine Eq.mpr w_F ?_
  rw [if_pos (by rfl)]
  simp only [startE, List.map_cons, List.map_nil, List.length_cons, List.length_nil, Nat.reduceAdd, Nat.reduceSub, List.reduceReplicate, List.cons_append, List.nil_append]
  unfold g_need_bridge
  push_cast
  refine ibo_ok hr h h1 h2 hw hl fun a1 x1 => ?_
  have q := k _ x1
  push_cast
  refine if_i (fun z => ?_) fun z => ?_
  · rw [if_neg (not_t z)] at q
    push_cast
    exact q
  · rw [if_pos (not_f z)] at q
    push_cast
    exact q
end
end VI
end
section
set_option maxRecDepth 100000
/-! The least turn of a word. -/
namespace VI
open PySem PyProof.Rows

/-- a word as data, as a value -/
abbrev wD (r : List Int) : PyData := .tuple (r.map .int)
abbrev wV (r : List Int) : PV := .tup (iw r)
def mnW (w u : List Int) : List Int := if PySem.W.dataLt (.tuple (u.map .int)) (.tuple (w.map .int)) = true then u else w
def rots (w : List Int) : List (List Int) := (List.range w.length).map fun i => w.drop i ++ w.take i
/-- the least turn -/
def lt (w : List Int) : List Int := match rots w with
  | [] => []
  | r :: rs => rs.foldl mnW r
theorem mnW_mem : ∀ (rs : List (List Int)) (r : List Int), rs.foldl mnW r ∈ r :: rs
  | [], r => List.mem_cons_self
  | u :: rs, r => by
    have ih := mnW_mem rs (mnW r u)
    show rs.foldl mnW (mnW r u) ∈ _
    rcases List.mem_cons.mp ih with e | e
    · rw [e]
      unfold mnW
      split
      · exact List.mem_cons_of_mem _ List.mem_cons_self
      · exact List.mem_cons_self
    · exact List.mem_cons_of_mem _ (List.mem_cons_of_mem _ e)
theorem lt_rot {w : List Int} (h : w ≠ []) : ∃ i, lt w = w.drop i ++ w.take i := by
  have e : ∃ r rs, rots w = r :: rs := by
    cases q : rots w with
    | nil =>
      exfalso
      have := congrArg List.length q
      unfold rots at this
      simp at this
      exact h this
    | cons r rs => exact ⟨r, rs, rfl⟩
  obtain ⟨r, rs, e⟩ := e
  have m := mnW_mem rs r
  rw [← e] at m
  obtain ⟨i, _, q⟩ := List.mem_map.mp m
  refine ⟨i, ?_⟩
  unfold lt
  rw [e]
  exact q.symm
theorem lt_mem {w : List Int} (h : w ≠ []) (c : Int) : c ∈ lt w ↔ c ∈ w := by
  obtain ⟨i, e⟩ := lt_rot h
  rw [e, List.mem_append]
  have t := List.take_append_drop i w
  have : c ∈ w.take i ++ w.drop i ↔ c ∈ w := by rw [t]
  rw [← this, List.mem_append]
  exact Or.comm
theorem lt_len {w : List Int} (h : w ≠ []) : (lt w).length = w.length := by
  obtain ⟨i, e⟩ := lt_rot h
  rw [e]
  simp
  omega
theorem pickWs (a : AH) : ∀ (rs : List (List Int)), mapO (toP DEP) (rs.map wV) = some (rs.map wD)
  | [] => mapO_ni
  | r :: rs => mapO_co (toP_w 18 r) (pickWs a rs)
theorem foldl_minD : ∀ (rs : List (List Int)) (r : List Int), (rs.map wD).foldl (fun a y => if PySem.W.dataLt y a then y else a) (PyData.tuple (r.map .int)) = PyData.tuple ((rs.foldl mnW r).map .int)
  | [], r => rfl
  | u :: rs, r => by
    show (rs.map wD).foldl (fun a y => if PySem.W.dataLt y a then y else a) (if PySem.W.dataLt (.tuple (u.map .int)) (.tuple (r.map .int)) = true then .tuple (u.map .int) else .tuple (r.map .int)) = PyData.tuple ((rs.foldl mnW (mnW r u)).map .int)
    rw [← foldl_minD rs (mnW r u)]
    congr 1
    unfold mnW
    split <;> rfl
theorem ofD_w (w : List Int) : ofD DEP (.tuple (w.map .int)) = .tup (iw w) := by
  have e : ofD DEP (.tuple (w.map .int)) = .tup ((w.map PyData.int).map (ofD 19)) := rfl
  rw [e, ofD_iw]
theorem alikeL_ws (rs : List (List Int)) : alikeL (rs.map wD) = true := by
  unfold alikeL
  rw [Bool.and_eq_true, List.all_eq_true, List.all_eq_true]
  constructor
  · intro x hx
    obtain ⟨r, _, rfl⟩ := List.mem_map.mp hx
    rw [List.all_eq_true]
    intro y hy
    obtain ⟨u, _, rfl⟩ := List.mem_map.mp hy
    simp [PySem.W.alike, alikeA_ints]
  · intro x hx
    obtain ⟨r, _, rfl⟩ := List.mem_map.mp hx
    simp [isNo]
theorem pickW {r : List Int} {rs : List (List Int)} : pick PySem.W.minD ((r :: rs).map wV) = some (.tup (iw (rs.foldl mnW r))) := by
  unfold pick
  rw [pickWs ⟨0, .nil⟩ (r :: rs)]
  show (match alikeL ((r :: rs).map wD) with | true => some (ofD DEP (PySem.W.minD (.tuple (r.map .int)) (rs.map wD))) | false => none) = _
  rw [alikeL_ws]
  show some (ofD DEP (PySem.W.minD (.tuple (r.map .int)) (rs.map wD))) = _
  have e : PySem.W.minD (.tuple (r.map .int)) (rs.map wD) = PyData.tuple ((rs.foldl mnW r).map .int) := foldl_minD rs r
  rw [e, ofD_w]
theorem o_minR {a : AH} {i : Nat} {r : List Int} {rs : List (List Int)} {P : PV × AH → Prop} (g : a.get i = some (.lst ((r :: rs).map wV))) : wO (bMin [.ref i] a) P = P (.tup (iw (rs.foldl mnW r)), a) := by
  have e : bMin [.ref i] a = (match oneS [.ref i] a with | some l => (match pick PySem.W.minD l with | some x => some (x, a) | none => none) | none => none) := rfl
  have e2 : oneS [.ref i] a = some ((r :: rs).map wV) := by
    simp only [oneS, g]
  rw [e, e2]
  show wO (match pick PySem.W.minD ((r :: rs).map wV) with | some x => some (x, a) | none => none) P = _
  rw [pickW] <;> rfl
def fRot (w : List Int) : PV → PV
  | .int i => .tup (iw (w.drop i.toNat ++ w.take i.toNat))
  | v => v
theorem fRot_i (w : List Int) (i : Nat) : fRot w (.int i) = .tup (iw (w.drop i ++ w.take i)) := by
  show PV.tup (iw (w.drop (i : Int).toNat ++ w.take (i : Int).toNat)) = _
  rw [Int.toNat_natCast]
theorem smallN {n : Nat} (h : n ≤ 1000) : smallI (n : Int) = true := by
  unfold smallI
  simp
  omega
theorem lt_ok {w : List Int} (h : w ≠ []) (hl : w.length ≤ 900) (a : AH) : ∃ a', F_least_turn [.tup (iw w)] a = .ok (.tup (iw (lt w))) a' ∧ Xt a a' := by
  have LM := LM40
  have hp : 1 ≤ w.length := by
    cases w with
    | nil => exact absurd rfl h
    | cons c w => simp
  apply of_wR
  unfold F_least_turn
  refine Eq.mpr w_F ?_
  rw [if_pos (by rfl)]
  simp only [startE, List.map_cons, List.map_nil, List.length_cons, List.length_nil, Nat.reduceAdd, Nat.reduceSub, List.reduceReplicate, List.cons_append, List.nil_append]
  unfold g_least_turn
  have e1 : ∀ P : PV × AH → Prop, wO (bMax [.int 1, .int w.length] a) P = P (.int w.length, a) := by
    intro P
    have := o_maxN (a := a) (i := 1) (j := w.length) (P := P)
    rw [show max 1 w.length = w.length by omega] at this
    exact this
  push_cast [↓e1, smallN (show w.length ≤ 1000 by omega)]
  refine lc_use (fun _ => true) (fRot w) ((List.range w.length).map fun i => PV.int (0 + (i : Nat))) (yl_rg _ _) (by simp [turns]) (by simp; omega) (fun v hv a1 x1 => ⟨_, rfl, ?_⟩) fun a1 x1 n1 g1 => ?_
  · obtain ⟨i, hi, rfl⟩ := List.mem_map.mp hv
    have hi := List.mem_range.mp hi
    push_cast
    refine ⟨Xt.refl _, fun _ => ?_⟩
    have z : (0 : Int) + (i : Nat) = (i : Nat) := by omega
    rw [z]
    push_cast [cut_lo (Nat.le_of_lt hi), cut_hi (Nat.le_of_lt hi)]
    refine ⟨?_, ?_, Xt.refl _⟩
    · rw [List.length_drop, List.length_take]; omega
    · rw [fRot_i, iw_app]
  · rw [pick2_T, List.map_map] at g1
    have e2 : (List.range w.length).map (fRot w ∘ fun i => PV.int (0 + (i : Nat))) = (rots w).map wV := by
      unfold rots
      rw [List.map_map]
      refine List.map_congr_left fun i _ => ?_
      show fRot w (.int (0 + (i : Nat))) = .tup (iw (w.drop i ++ w.take i))
      rw [Int.zero_add, fRot_i]
    rw [e2] at g1
    cases q : rots w with
    | nil =>
      exfalso
      have := congrArg List.length q
      unfold rots at this
      simp at this
      exact h this
    | cons r rs =>
      rw [q] at g1
      push_cast [↓o_minR g1]
      refine ⟨?_, x1⟩
      unfold lt
      rw [q]
theorem lt_ok' {w : List Int} (h : w ≠ []) (hl : w.length ≤ 900) (a : AH) : ∃ a', F__law_turn [.tup (iw w)] a = .ok (.tup (iw (lt w))) a' ∧ Xt a a' := lt_ok h hl a
end VI
end
section
set_option maxRecDepth 100000
/-! Rims: each end in just one. -/
namespace VI
open PySem PyProof.Rows

/-- the end behind the other end of a letter's band -/
def beh (row : List Int) (c : Int) : Int := row.getD (nx row (row.idxOf (x1 c))) 0
/-- on from a letter, until one that was met -/
def inn (row : List Int) : Nat → List Int → List Int → Int → List Int × List Int
  | 0, met, w, _ => (met, w)
  | n + 1, met, w, c => if c ∈ met then (met, w) else inn row n (met ++ [c]) (w ++ [c]) (beh row c)
def stp (row : List Int) (s : List Int × List (List Int)) (c : Int) : List Int × List (List Int) := ((inn row 13 s.1 [] c).1, if (inn row 13 s.1 [] c).2 = [] then s.2 else s.2 ++ [lt (inn row 13 s.1 [] c).2])
def RL (row : List Int) : List (List Int) := (row.foldl (stp row) ([], [])).2
theorem nd_len : ∀ {l row : List Int}, l.Nodup → (∀ c ∈ l, c ∈ row) → l.length ≤ row.length
  | [], _, _, _ => Nat.zero_le _
  | c :: l, row, nd, sb => by
    have q := List.nodup_cons.mp nd
    have hc := sb c List.mem_cons_self
    have r := nd_len (l := l) (row := row.erase c) q.2 fun d hd => (List.mem_erase_of_ne (fun (z : d = c) => q.1 (z ▸ hd))).mpr (sb d (List.mem_cons_of_mem _ hd))
    have e := List.length_erase_of_mem hc
    have p := List.length_pos_of_mem hc
    rw [List.length_cons]
    omega
def Dj (r s : List Int) : Prop := ∀ c ∈ r, c ∉ s
structure Gd (row met : List Int) (found : List (List Int)) : Prop where
  nd : met.Nodup
  lw : LW row met
  ne : ∀ r ∈ found, r ≠ []
  rw_ : ∀ r ∈ found, LW row r
  rl : ∀ r ∈ found, r.length ≤ row.length
  dj : found.Pairwise Dj
  mem : ∀ c, c ∈ met ↔ ∃ r ∈ found, c ∈ r
  fl : found.length ≤ met.length
section
variable {row : List Int} (h : RW row)
include h
theorem lw_len {met : List Int} (nd : met.Nodup) (lw : LW row met) : met.length ≤ row.length := nd_len nd fun c hc => h.lm (lw c hc)
theorem beh_lt {c : Int} (hc : Lt row c) : Lt row (beh row c) := by
  have e : row[nx row (row.idxOf (x1 c))]? = some (beh row c) := by
    unfold beh
    rw [List.getD_eq_getElem?_getD, List.getElem?_eq_getElem h.nx_lt] <;> rfl
  exact h.lt_at e
theorem inn_ex : ∀ (n : Nat) (met w : List Int) (c : Int), Lt row c → met.Nodup → LW row met → ∃ t, inn row n met w c = (met ++ t, w ++ t) ∧ LW row t ∧ (met ++ t).Nodup ∧ (1 ≤ n → c ∈ met ++ t)
  | 0, met, w, c, hc, nd, lw => ⟨[], by simp [inn], fun _ z => (by cases z), by simpa using nd, fun z => absurd z (by omega)⟩
  | n + 1, met, w, c, hc, nd, lw => by
    by_cases hm : c ∈ met
    · refine ⟨[], ?_, fun _ z => (by cases z), by simpa using nd, fun _ => by simpa using hm⟩
      unfold inn
      rw [if_pos hm]
      simp
    · have nd2 : (met ++ [c]).Nodup := by
        rw [List.nodup_append]
        refine ⟨nd, by simp, fun a ha b hb => ?_⟩
        rw [List.mem_singleton] at hb
        intro z
        exact hm (hb ▸ z ▸ ha)
      have lw2 : LW row (met ++ [c]) := lw_app.mpr ⟨lw, lw_one.mpr hc⟩
      obtain ⟨t, e, lt, nt, _⟩ := inn_ex n (met ++ [c]) (w ++ [c]) (beh row c) (beh_lt h hc) nd2 lw2
      refine ⟨c :: t, ?_, lw_cons.mpr ⟨hc, lt⟩, by simpa using nt, fun _ => by simp⟩
      show (if c ∈ met then (met, w) else inn row n (met ++ [c]) (w ++ [c]) (beh row c)) = _
      rw [if_neg hm, e]
      simp
theorem stp_gd {met : List Int} {found : List (List Int)} {c : Int} (G : Gd row met found) (hc : Lt row c) : Gd row (stp row (met, found) c).1 (stp row (met, found) c).2 ∧ c ∈ (stp row (met, found) c).1 ∧ ∀ d ∈ met, d ∈ (stp row (met, found) c).1 := by
  obtain ⟨t, e, lt_, nt, ct⟩ := inn_ex h 13 met [] c hc G.nd G.lw
  have ct := ct (by omega)
  have lw2 : LW row (met ++ t) := lw_app.mpr ⟨G.lw, lt_⟩
  unfold stp
  show Gd row (inn row 13 met [] c).1 (if (inn row 13 met [] c).2 = [] then found else found ++ [lt (inn row 13 met [] c).2]) ∧ _ ∈ (inn row 13 met [] c).1 ∧ ∀ d ∈ met, d ∈ (inn row 13 met [] c).1
  rw [e, List.nil_append]
  show Gd row (met ++ t) (if t = [] then found else found ++ [lt t]) ∧ c ∈ met ++ t ∧ ∀ d ∈ met, d ∈ met ++ t
  refine ⟨?_, ct, fun d hd => List.mem_append_left _ hd⟩
  by_cases z : t = []
  · subst z
    rw [if_pos rfl, List.append_nil]
    exact G
  · rw [if_neg z]
    have tl := lw_len h (nd := (List.nodup_append.mp nt).2.1) lt_
    have tp : 1 ≤ t.length := by
      cases t with
      | nil => exact absurd rfl z
      | cons _ _ => simp
    refine ⟨nt, lw2, ?_, ?_, ?_, ?_, ?_, ?_⟩
    · intro r hr
      rcases List.mem_append.mp hr with q | q
      · exact G.ne r q
      · rw [List.mem_singleton] at q
        subst q
        intro y
        have := lt_len z
        rw [y] at this
        simp at this
        omega
    · intro r hr
      rcases List.mem_append.mp hr with q | q
      · exact G.rw_ r q
      · rw [List.mem_singleton] at q
        subst q
        exact fun d hd => lt_ d ((lt_mem z d).mp hd)
    · intro r hr
      rcases List.mem_append.mp hr with q | q
      · exact G.rl r q
      · rw [List.mem_singleton] at q
        subst q
        rw [lt_len z]
        exact tl
    · rw [List.pairwise_append]
      refine ⟨G.dj, by simp, fun r hr s hs => ?_⟩
      rw [List.mem_singleton] at hs
      subst hs
      intro d hd hd2
      have m1 := (G.mem d).mpr ⟨r, hr, hd⟩
      have m2 := (lt_mem z d).mp hd2
      exact (List.nodup_append.mp nt).2.2 d m1 d m2 rfl
    · intro d
      rw [List.mem_append, G.mem]
      constructor
      · rintro (⟨r, hr, hd⟩ | hd)
        · exact ⟨r, List.mem_append_left _ hr, hd⟩
        · exact ⟨lt t, by simp, (lt_mem z d).mpr hd⟩
      · rintro ⟨r, hr, hd⟩
        rcases List.mem_append.mp hr with q | q
        · exact .inl ⟨r, q, hd⟩
        · rw [List.mem_singleton] at q
          subst q
          exact .inr ((lt_mem z d).mp hd)
    · rw [List.length_append, List.length_append, List.length_singleton]
      have := G.fl
      omega
theorem fold_gd : ∀ (l : List Int) {met : List Int} {found : List (List Int)}, LW row l → Gd row met found → Gd row (l.foldl (stp row) (met, found)).1 (l.foldl (stp row) (met, found)).2 ∧ (∀ c ∈ l, c ∈ (l.foldl (stp row) (met, found)).1) ∧ ∀ c ∈ met, c ∈ (l.foldl (stp row) (met, found)).1
  | [], met, found, _, G => ⟨G, fun _ z => (by cases z), fun _ z => z⟩
  | c :: l, met, found, lw, G => by
    have q := lw_cons.mp lw
    obtain ⟨G2, m1, m2⟩ := stp_gd h G q.1
    obtain ⟨G3, n1, n2⟩ := fold_gd l (met := (stp row (met, found) c).1) (found := (stp row (met, found) c).2) q.2 G2
    refine ⟨G3, fun d hd => ?_, fun d hd => n2 d (m2 d hd)⟩
    rcases List.mem_cons.mp hd with rfl | hd
    · exact n2 _ m1
    · exact n1 d hd
omit h in
theorem gd_0 : Gd row [] [] := ⟨List.nodup_nil, fun _ z => (by cases z), fun _ z => (by cases z), fun _ z => (by cases z), fun _ z => (by cases z), List.Pairwise.nil, fun c => ⟨fun z => (by cases z), fun ⟨_, z, _⟩ => (by cases z)⟩, Nat.le_refl _⟩
/-- what is known of the rims -/
structure Rm (row : List Int) (S : List (List Int)) : Prop where
  ne : ∀ r ∈ S, r ≠ []
  rw_ : ∀ r ∈ S, LW row r
  rl : ∀ r ∈ S, r.length ≤ row.length
  dj : S.Pairwise Dj
  mem : ∀ c, Lt row c → ∃ r ∈ S, c ∈ r
  fl : S.length ≤ row.length
theorem rm_RL : Rm row (RL row) := by
  have lw : LW row row := fun c hc => (h.mem c).mp hc
  obtain ⟨G, m, _⟩ := fold_gd h row (met := []) (found := []) lw gd_0
  refine ⟨G.ne, G.rw_, G.rl, G.dj, fun c hc => (G.mem c).mp (m c (h.lm hc)), Nat.le_trans G.fl (lw_len h G.nd G.lw)⟩
omit h in
theorem dj_symm {r s : List Int} (z : Dj r s) : Dj s r := fun c hc hr => z c hr hc
omit h in
theorem rm_perm {S T : List (List Int)} (p : T.Perm S) (R : Rm row S) : Rm row T := by
  refine ⟨fun r hr => R.ne r (p.mem_iff.mp hr), fun r hr => R.rw_ r (p.mem_iff.mp hr), fun r hr => R.rl r (p.mem_iff.mp hr), ?_, fun c hc => ?_, by rw [p.length_eq]; exact R.fl⟩
  · exact (p.pairwise_iff (fun {x y} => dj_symm)).mpr R.dj
  · obtain ⟨r, hr, hc⟩ := R.mem c hc
    exact ⟨r, p.mem_iff.mpr hr, hc⟩
end
end VI
end
section
set_option maxRecDepth 100000
/-! Dicts; the rims of the program. -/
namespace VI
open PySem PyProof.Rows

theorem dlook_app : ∀ (l : List (L2.Key × PV)) (q k : L2.Key) (v : PV), dlook (l ++ [(k, v)]) q = match dlook l q with
    | some w => some w
    | none => if k = q then some v else none
  | [], q, k, v => by
    show (match keyEq k q with | true => some v | false => none) = _
    rw [keyEq_is]
    by_cases h : k = q
    · rw [decide_eq_true h, if_pos h] <;> rfl
    · rw [decide_eq_false h, if_neg h] <;> rfl
  | (k', w) :: l, q, k, v => by
    show (match keyEq k' q with | true => some w | false => dlook (l ++ [(k, v)]) q) = match (match keyEq k' q with | true => some w | false => dlook l q) with | some w => some w | none => if k = q then some v else none
    cases keyEq k' q with
    | true => rfl
    | false => exact dlook_app l q k v
theorem dlook_dset : ∀ (l : List (L2.Key × PV)) (q k : L2.Key) (v : PV), dlook (dset l k v) q = if k = q then (dlook l q).map fun _ => v else dlook l q
  | [], q, k, v => by
    show none = _
    split <;> rfl
  | (k', w) :: l, q, k, v => by
    have ih := dlook_dset l q k v
    have e : dset ((k', w) :: l) k v = match keyEq k' k with | true => (k', v) :: dset l k v | false => (k', w) :: dset l k v := rfl
    have d : ∀ (u : PV) (m : List (L2.Key × PV)), dlook ((k', u) :: m) q = if k' = q then some u else dlook m q := fun u m => by
      show (match keyEq k' q with | true => some u | false => dlook m q) = _
      rw [keyEq_is]
      by_cases h : k' = q
      · rw [decide_eq_true h, if_pos h]
      · rw [decide_eq_false h, if_neg h]
    rw [e, keyEq_is]
    by_cases h : k' = k
    · rw [decide_eq_true h]
      show dlook ((k', v) :: dset l k v) q = _
      rw [d, d, ih]
      by_cases g : k' = q
      · rw [if_pos g, if_pos (h ▸ g), if_pos g] <;> rfl
      · rw [if_neg g, if_neg (fun z => g (h.trans z)), if_neg g, if_neg (fun z => g (h.trans z))]
    · rw [decide_eq_false h]
      show dlook ((k', w) :: dset l k v) q = _
      rw [d, d, ih]
      by_cases g : k' = q
      · rw [if_pos g, if_neg (fun z => h (g.trans z.symm)), if_pos g]
      · rw [if_neg g, if_neg g]
theorem dlook_dput (l : List (L2.Key × PV)) (q k : L2.Key) (v : PV) : dlook (dput l k v) q = if k = q then some v else dlook l q := by
  unfold dput
  cases h : dlook l k with
  | none =>
    show dlook (l ++ [(k, v)]) q = _
    rw [dlook_app]
    by_cases g : k = q
    · rw [← g, h]
    · rw [if_neg g]
      cases dlook l q <;> simp [g]
  | some w =>
    show dlook (dset l k v) q = _
    rw [dlook_dset]
    by_cases g : k = q
    · rw [if_pos g, if_pos g, ← g, h] <;> rfl
    · rw [if_neg g, if_neg g]
theorem dset_len : ∀ (l : List (L2.Key × PV)) (k : L2.Key) (v : PV), (dset l k v).length = l.length
  | [], _, _ => rfl
  | (k', w) :: l, k, v => by
    have ih := dset_len l k v
    show (match keyEq k' k with | true => (k', v) :: dset l k v | false => (k', w) :: dset l k v).length = _
    cases keyEq k' k <;> simp [ih]
theorem dput_len (l : List (L2.Key × PV)) (k : L2.Key) (v : PV) : (dput l k v).length ≤ l.length + 1 := by
  unfold dput
  cases dlook l k with
  | none => simp
  | some w =>
    show (dset l k v).length ≤ _
    rw [dset_len]
    omega
theorem eb2_ok {row : List Int} (h : RW row) {c : Int} (hc : Lt row c) (a : AH) {Q : PV → AH → Prop} {X : EX} : wR (F_end_behind [.tup (iw row), .int c] a) Q X = Q (.int (row.getD (nx row (row.idxOf c)) 0)) a := by
  apply propext
  unfold F_end_behind
  rw [w_F' (by rfl)]
  simp only [startE, List.map_cons, List.map_nil, List.length_cons, List.length_nil, Nat.reduceAdd, Nat.reduceSub, List.reduceReplicate, List.cons_append, List.nil_append]
  unfold g_end_behind
  have hm : (0 : Int) < row.length := by have := h.lo; omega
  push_cast [↓o_idx (h.lm hc), hm, mod_nx, at_nat h.nx_lt]
theorem get_put_eq {a : AH} {i : Nat} {o : AO} : (a.put i o).get i = some o := by rw [AH.get_put, if_pos rfl]
theorem get_put_ne {a : AH} {i j : Nat} {o : AO} (h : j ≠ i) : (a.put i o).get j = a.get j := by rw [AH.get_put, if_neg h]
theorem put_n {a : AH} {i : Nat} {o : AO} : (a.put i o).n = a.n := rfl
theorem get_new_eq {a : AH} {o : AO} : (a.new o).get a.n = some o := by rw [AH.get_new, if_pos rfl]
theorem get_new_lt {a : AH} {o : AO} {i : Nat} (h : i < a.n) : (a.new o).get i = a.get i := by rw [AH.get_new, if_neg (by omega)]
theorem new_n {a : AH} {o : AO} : (a.new o).n = a.n + 1 := rfl
/-- the program's inner loop -/
structure RpH (a0 : AH) (row : List Int) (f m w : Nat) (found : List (List Int)) (met word : List Int) (a : AH) : Prop where
  x : Xt a0 a
  hf : a0.n ≤ f
  hm : a0.n ≤ m
  hw : a0.n ≤ w
  fm : f ≠ m
  fw : f ≠ w
  mw : m ≠ w
  lf : f < a.n
  lm : m < a.n
  lw : w < a.n
  gf : a.get f = some (.lst (found.map wV))
  gm : a.get m = some (.lst (iw met))
  gw : a.get w = some (.lst (iw word))
abbrev rpT : FE := eBin (cIn true) (eVar 5) (eVar 2)
abbrev rpB : GS := (sSeq (sDrop (eBM 0 mAppend (eVar 2) (aCons (eVar 5) aNil)))
    (sSeq (sDrop (eBM 0 mAppend (eVar 4) (aCons (eVar 5) aNil)))
    (sSet 5 (eCall F_end_behind (aCons (eFld ["Skin"] "row" (eVar 0)) (aCons (eBin bXor (eVar 5) (eC (.int 1))) aNil))))))
theorem iw_one (w : List Int) (c : Int) : iw (w ++ [c]) = iw w ++ [.int c] := by simp [iw]
theorem rp_loop {row : List Int} (h : RW row) {a0 : AH} {sk f m w : Nat} {found : List (List Int)} (S : SkH a0 sk row) {o3 : Option PV} {D : En} (R : List Int × List Int)
    (k : ∀ a' c, RpH a0 row f m w found R.1 R.2 a' → D.nx [some (.ref sk), some (.ref f), some (.ref m), o3, some (.ref w), some (.int c)] a') :
    ∀ (a : AH) (met word : List Int) (c : Int), RpH a0 row f m w found met word a → inn row 13 met word c = R → met.Nodup → LW row met → Lt row c → word.length ≤ met.length → wS (whl rpT rpB 1000 [some (.ref sk), some (.ref f), some (.ref m), o3, some (.ref w), some (.int c)] a) D := by
  intro a met word c H e nd lw lc wl
  have hi := h.hi
  have LM := LM40
  refine w_whl (fun j ev a' => ∃ met word c n, ev = [some (.ref sk), some (.ref f), some (.ref m), o3, some (.ref w), some (.int c)] ∧ RpH a0 row f m w found met word a' ∧ inn row n met word c = R ∧ met.Nodup ∧ LW row met ∧ Lt row c ∧ word.length ≤ met.length ∧ row.length + 1 - met.length ≤ n ∧ row.length + 1 - met.length = j) ?_ 1000 (row.length + 1 - met.length) _ _ (by omega) ⟨met, word, c, 13, rfl, H, e, nd, lw, lc, wl, by omega, rfl⟩
  rintro j ev a' ⟨met, word, c, n, rfl, H, e, nd, lw, lc, wl, hn, hj⟩
  have ml := lw_len h nd lw
  push_cast [↓o_inL H.gm]
  cases n with
  | zero => omega
  | succ n =>
    have e : (if c ∈ met then (met, word) else inn row n (met ++ [c]) (word ++ [c]) (beh row c)) = R := e
    by_cases hm : c ∈ met
    · rw [if_pos hm] at e
      rw [decide_eq_true hm]
      refine .inl ⟨rfl, k _ _ ?_⟩
      rw [← e]
      exact H
    · rw [if_neg hm] at e
      rw [decide_eq_false hm]
      refine .inr ⟨rfl, ?_⟩
      have nd2 : (met ++ [c]).Nodup := by
        rw [List.nodup_append]
        refine ⟨nd, by simp, fun a ha b hb => ?_⟩
        rw [List.mem_singleton] at hb
        intro z
        exact hm (hb ▸ z ▸ ha)
      have lw2 : LW row (met ++ [c]) := lw_app.mpr ⟨lw, lw_one.mpr lc⟩
      have ml2 := lw_len h nd2 lw2
      rw [List.length_append, List.length_singleton] at ml2
      push_cast [t_lst H.gm, ↓o_app H.gm (show (iw met).length < LIM by rw [iw_len]; omega)]
      have gw2 : (a'.put m (.lst (iw met ++ [.int c]))).get w = some (.lst (iw word)) := by
        rw [get_put_ne H.mw.symm]
        exact H.gw
      push_cast [t_lst gw2, ↓o_app gw2 (show (iw word).length < LIM by rw [iw_len]; omega)]
      have sg : ((a'.put m (.lst (iw met ++ [.int c]))).put w (.lst (iw word ++ [.int c]))).get sk = some (skO row) := by
        have ls := S.lt
        have := H.hm
        have := H.hw
        rw [get_put_ne (by omega), get_put_ne (by omega), H.x.old _ ls]
        exact S.at_
      push_cast [↓sk_row sg]
      rw [eb2_ok h (h.x1_lt lc)]
      push_cast
      refine ⟨row.length + 1 - (met ++ [c]).length, by rw [List.length_append, List.length_singleton]; omega, met ++ [c], word ++ [c], beh row c, n, rfl, ?_, e, nd2, lw2, beh_lt h lc, by simp; omega, by rw [List.length_append, List.length_singleton]; omega, rfl⟩
      exact ⟨(H.x.put H.hm _).put H.hw _, H.hf, H.hm, H.hw, H.fm, H.fw, H.mw, H.lf, H.lm, H.lw, by rw [get_put_ne H.fw, get_put_ne H.fm]; exact H.gf, by rw [get_put_ne H.mw, get_put_eq, iw_one], by rw [get_put_eq, iw_one]⟩
end VI
end
section
set_option maxRecDepth 100000
/-! Sorted rims; rims_of. -/
namespace VI
open PySem PySem.W PyProof.Rows

theorem ins1_perm {β : Type} (le : β → β → Bool) (x : β) : ∀ l : List β, (ins1 le x l).Perm (x :: l)
  | [] => List.Perm.refl _
  | y :: l => by
    have ih := ins1_perm le x l
    show (match le x y with | true => x :: y :: l | false => y :: ins1 le x l).Perm _
    cases le x y with
    | true => exact List.Perm.refl _
    | false => exact (List.Perm.cons y ih).trans (List.Perm.swap x y l)
theorem isort_perm {β : Type} (le : β → β → Bool) : ∀ l : List β, (isort le l).Perm l
  | [] => List.Perm.refl _
  | x :: l => (ins1_perm le x (isort le l)).trans (List.Perm.cons x (isort_perm le l))
theorem ins1_map {α β : Type} (f : α → β) (le : β → β → Bool) (x : α) : ∀ l : List α, ins1 le (f x) (l.map f) = (ins1 (fun a b => le (f a) (f b)) x l).map f
  | [] => rfl
  | y :: l => by
    have ih := ins1_map f le x l
    show (match le (f x) (f y) with | true => f x :: f y :: l.map f | false => f y :: ins1 le (f x) (l.map f)) = (match le (f x) (f y) with | true => x :: y :: l | false => y :: ins1 (fun a b => le (f a) (f b)) x l).map f
    cases le (f x) (f y) with
    | true => rfl
    | false =>
      show f y :: ins1 le (f x) (l.map f) = f y :: (ins1 (fun a b => le (f a) (f b)) x l).map f
      rw [ih]
theorem isort_map {α β : Type} (f : α → β) (le : β → β → Bool) : ∀ l : List α, isort le (l.map f) = (isort (fun a b => le (f a) (f b)) l).map f
  | [] => rfl
  | x :: l => by
    have ih := isort_map f le l
    show ins1 le (f x) (isort le (l.map f)) = (ins1 (fun a b => le (f a) (f b)) x (isort (fun a b => le (f a) (f b)) l)).map f
    rw [ih, ins1_map]
/-- a word as data beside its value -/
def wP (r : List Int) : PyData × PV := (wD r, wV r)
def srtR (l : List (List Int)) : List (List Int) := isort (fun r s => dataLe false Prod.fst (wP r) (wP s)) l
theorem toD_w (a : AH) (r : List Int) : toD a DEP (wV r) = some (wD r) := toD_tup a 18 r
theorem keyd_ws (a : AH) : ∀ l : List (List Int), mapO (keyd a) (l.map wV) = some (l.map wP)
  | [] => mapO_ni
  | r :: l => by
    have e : keyd a (wV r) = some (wP r) := by
      unfold keyd
      rw [toD_w] <;> rfl
    exact mapO_co e (keyd_ws a l)
theorem srt_ws {a : AH} {l : List (List Int)} (h : ∀ r ∈ l, r ≠ []) : srt a (l.map wV) = some ((srtR l).map wV) := by
  unfold srt
  rw [keyd_ws]
  have e : sortableL ((l.map wP).map (·.1)) = true := by
    rw [List.map_map]
    unfold sortableL
    rw [Bool.and_eq_true]
    constructor
    · rw [List.all_eq_true]
      intro x hx
      obtain ⟨r, _, rfl⟩ := List.mem_map.mp hx
      rw [List.all_eq_true]
      intro y hy
      obtain ⟨s, _, rfl⟩ := List.mem_map.mp hy
      show PySem.W.alike (wD r) (wD s) = true
      simp [PySem.W.alike, alikeA_ints]
    · rw [Bool.or_eq_true]
      left
      rw [List.all_eq_true]
      intro x hx
      obtain ⟨r, hr, rfl⟩ := List.mem_map.mp hx
      show tupNe (wD r) = true
      cases r with
      | nil => exact absurd rfl (h [] hr)
      | cons c r => rfl
  show (match sortableL ((l.map wP).map (fun p : PyData × PV => p.1)) with | true => some (List.map (fun p : PyData × PV => p.2) (isort (dataLe false Prod.fst) (l.map wP))) | false => none) = _
  rw [e]
  show some (List.map (fun p : PyData × PV => p.2) (isort (dataLe false Prod.fst) (l.map wP))) = _
  rw [isort_map, List.map_map]
  rfl
theorem srtR_perm (l : List (List Int)) : (srtR l).Perm l := isort_perm _ l
theorem o_sortW {a : AH} {i : Nat} {l : List (List Int)} {P : PV × AH → Prop} (h : ∀ r ∈ l, r ≠ []) (g : a.get i = some (.lst (l.map wV))) : wO (bSorted [.ref i] a) P = P (.ref a.n, a.new (.lst ((srtR l).map wV))) := by
  have e2 : oneS [.ref i] a = some (l.map wV) := by
    simp only [oneS, g]
  unfold bSorted
  rw [e2]
  show wO (match srt a (l.map wV) with | some m => some (PV.ref a.n, a.new (.lst m)) | none => none) P = _
  rw [srt_ws h] <;> rfl
/-- the rims of a row, sorted -/
def SRm (row : List Int) : List (List Int) := srtR (RL row)
theorem rm_SR {row : List Int} (h : RW row) : Rm row (SRm row) := rm_perm (srtR_perm _) (rm_RL h)
theorem ro_ok {row : List Int} (h : RW row) {a0 : AH} {sk : Nat} (S : SkH a0 sk row) {Q : PV → AH → Prop} {X : EX} (k : ∀ a' i, Xt a0 a' → a0.n ≤ i → i < a'.n → a'.get i = some (.lst ((SRm row).map wV)) → Q (.ref i) a') : wR (F_rims_of [.ref sk] a0) Q X := by
  have LM := LM40
  have hi := h.hi
  unfold F_rims_of
  refine Eq.mpr w_F ?_
  rw [if_pos (by rfl)]
  simp only [startE, List.map_cons, List.map_nil, List.length_cons, List.length_nil, Nat.reduceAdd, Nat.reduceSub, List.reduceReplicate, List.cons_append, List.nil_append]
  unfold g_rims_of
  push_cast [↓sk_row (show ((a0.new (.lst [])).new (.lst [])).get sk = some (skO row) by rw [get_new_lt (by rw [new_n]; have := S.lt; omega), get_new_lt S.lt]; exact S.at_)]
  have nfm : ((a0.new (.lst [])).new (.lst [])).n = a0.n + 2 := rfl
  have gf0 : ((a0.new (.lst [])).new (.lst [])).get a0.n = some (.lst (([] : List (List Int)).map wV)) := by
    rw [get_new_lt (by rw [new_n]; omega), get_new_eq] <;> rfl
  have gm0 : ((a0.new (.lst [])).new (.lst [])).get (a0.n + 1) = some (.lst (iw [])) := get_new_eq
  have x0 : Xt a0 ((a0.new (.lst [])).new (.lst [])) := (Xt.new _ _).trans (Xt.new _ _)
  have en : (a0.new (.lst [])).n = a0.n + 1 := rfl
  rw [en]
  generalize (a0.new (.lst [])).new (.lst []) = a1 at *
  refine w_for (fun _ => True) (fun l ev a' => ∃ met found lr o3 o4 o5, l = iw lr ∧ LW row lr ∧ ev = [some (.ref sk), some (.ref a0.n), some (.ref (a0.n + 1)), o3, o4, o5] ∧ Xt a0 a' ∧ a0.n + 2 ≤ a'.n ∧ a'.get a0.n = some (.lst (found.map wV)) ∧ a'.get (a0.n + 1) = some (.lst (iw met)) ∧ Gd row met found ∧ (lr.foldl (stp row) (met, found)).2 = RL row) (fun _ _ _ _ => trivial) ?_ ?_ (iw row) _ _ _ _ (yl_seq _) (Nat.lt_succ_self _) ⟨[], [], row, none, none, none, rfl, fun c hc => (h.mem c).mp hc, rfl, x0, by omega, gf0, gm0, gd_0, rfl⟩
  · rintro ev a' ⟨met, found, lr, o3, o4, o5, hl, lwr, rfl, xa, na, gf, gm, G, hF⟩
    have lr0 : lr = [] := by
      cases lr with
      | nil => rfl
      | cons _ _ => cases hl
    subst lr0
    have hF : found = RL row := hF
    push_cast [↓o_sortW G.ne gf]
    rw [hF]
    exact k _ _ (xa.trans (Xt.new _ _)) (by omega) (Nat.lt_succ_self _) get_new_eq
  · rintro v l ev a' ⟨met, found, lr, o3, o4, o5, hl, lwr, rfl, xa, na, gf, gm, G, hF⟩
    cases lr with
    | nil => cases hl
    | cons c lr =>
      have hl := List.cons.inj hl
      obtain ⟨rfl, rfl⟩ := hl
      have q := lw_cons.mp lwr
      have G2 := stp_gd h G q.1
      have hF : (lr.foldl (stp row) (stp row (met, found) c)).2 = RL row := hF
      rw [gw_nm, on_nx]
      dsimp only
      rw [s_seq', s_par']
      push_cast
      obtain ⟨t, et, ltt, nt, ct⟩ := inn_ex h 13 met [] c q.1 G.nd G.lw
      have H : RpH a0 row a0.n (a0.n + 1) a'.n found met [] (a'.new (.lst [])) := ⟨xa.trans (Xt.new _ _), by omega, by omega, by omega, by omega, by omega, by omega, by rw [new_n]; omega, by rw [new_n]; omega, by rw [new_n]; omega, by rw [get_new_lt (by omega)]; exact gf, by rw [get_new_lt (by omega)]; exact gm, get_new_eq⟩
      have tl := lw_len h (nd := (List.nodup_append.mp nt).2.1) ltt
      refine rp_loop h S (met ++ t, t) (fun a2 c2 H2 => ?_) _ met [] c H (by simpa using et) G.nd G.lw q.1 (Nat.zero_le _)
      dsimp only at H2
      have es : stp row (met, found) c = (met ++ t, if t = [] then found else found ++ [lt t]) := by
        unfold stp
        show ((inn row 13 met [] c).1, if (inn row 13 met [] c).2 = [] then found else found ++ [lt (inn row 13 met [] c).2]) = _
        rw [et, List.nil_append]
      rw [es] at G2 hF
      have gw3 : (a2.new (.lst [])).get a'.n = some (.lst (iw t)) := by rw [get_new_lt H2.lw]; exact H2.gw
      have ge : (a2.new (.lst [])).get a2.n = some (.lst (iw [])) := get_new_eq
      have on : ∀ P : PV × AH → Prop, wO (cNe (.ref a'.n) (.ref a2.n) (a2.new (.lst []))) P = P (.bl (!decide (t = [])), a2.new (.lst [])) := fun P => by
        rw [cNe_lst gw3 ge] <;> rfl
      push_cast [↓on]
      by_cases ht : t = []
      · refine if_f (by simp [ht]) ?_
        push_cast
        rw [if_pos ht] at G2 hF
        refine ⟨_, _, lr, _, _, _, rfl, q.2, rfl, H2.x.trans (Xt.new _ _), by rw [new_n]; have := H2.lm; omega, by rw [get_new_lt H2.lf]; exact H2.gf, by rw [get_new_lt H2.lm]; exact H2.gm, G2.1, hF⟩
      · refine if_t (by simp [ht]) ?_
        rw [if_neg ht] at G2 hF
        have gf3 : (a2.new (.lst [])).get a0.n = some (.lst (found.map wV)) := by rw [get_new_lt H2.lf]; exact H2.gf
        push_cast [t_lst gf3, ↓o_tupL gw3]
        refine wR_of (lt_ok ht (by omega) _) fun a3 f3 => ?_
        have nl2 := H2.lm
        have nf2 : a0.n < (a2.new (.lst [])).n := by rw [new_n]; omega
        have nm2 : a0.n + 1 < (a2.new (.lst [])).n := by rw [new_n]; omega
        have gf4 : a3.get a0.n = some (.lst (found.map wV)) := by rw [f3.old _ nf2]; exact gf3
        have gm4 : a3.get (a0.n + 1) = some (.lst (iw (met ++ t))) := by rw [f3.old _ nm2, get_new_lt H2.lm]; exact H2.gm
        have fl2 : (found ++ [lt t]).length ≤ (met ++ t).length := G2.1.fl
        have ml2 := lw_len h G2.1.nd G2.1.lw
        dsimp only at ml2
        rw [List.length_append, List.length_singleton] at fl2
        push_cast [↓o_app gf4 (show (found.map wV).length < LIM by rw [List.length_map]; omega)]
        have n3 := f3.le
        rw [new_n] at n3
        refine ⟨met ++ t, found ++ [lt t], lr, _, _, _, rfl, q.2, rfl, ((H2.x.trans (Xt.new _ _)).trans f3).put (Nat.le_refl _) _, by rw [put_n]; omega, by rw [get_put_eq]; simp, by rw [get_put_ne (by omega)]; exact gm4, G2.1, hF⟩
end VI
end
section
set_option maxRecDepth 100000
/-! The rims by the law; the number of a rim. -/
namespace VI
open PySem PySem.W PyProof.Rows

theorem o_setD {a : AH} {p : Nat} {l : List (L2.Key × PV)} {c : Int} {v : PV} {P : AH → Prop} (g : a.get p = some (.dct l)) (h : l.length < LIM) : wO (setO (.ref p) (.int c) v a) P = P (a.put p (.dct (dput l (.inl c) v))) := by
  have e : setO (.ref p) (.int c) v a = (match a.get p with
    | some (.dct l) => (match keyOf (.int c) with
      | some q => (match Nat.blt l.length LIM with
        | true => some (a.put p (.dct (dput l q v)))
        | false => none)
      | none => none)
    | some (.lst l) => (match (PV.int c) with
      | .int k => (match L2.ixN l.length k with
        | some j => some (a.put p (.lst (l.set j v)))
        | none => none)
      | _ => none)
    | _ => none) := rfl
  rw [e, g]
  show wO (match Nat.blt l.length LIM with | true => some (a.put p (.dct (dput l (.inl c) v))) | false => none) P = _
  rw [show Nat.blt l.length LIM = true from Nat.ble_eq_true_of_le h] <;> rfl
theorem o_inD {a : AH} {i : Nat} {l : List (L2.Key × PV)} {c : Int} {b : Bool} {P : PV × AH → Prop} (g : a.get i = some (.dct l)) : wO (cIn b (.int c) (.ref i) a) P = P (.bl (Bool.xor b (dlook l (.inl c)).isSome), a) := by
  have e : cIn b (.int c) (.ref i) a = (match a.get i with | some (.dct kvs) => (match keyOf (PV.int c) with | some q => some (PV.bl (Bool.xor b (dlook kvs q).isSome), a) | none => none) | _ => inD b (.int c) (.ref i) a) := rfl
  rw [e, g] <;> rfl
/-- a dict of what was met -/
structure DM (kvs : List (L2.Key × PV)) (met : List Int) : Prop where
  look : ∀ c, (dlook kvs (.inl c)).isSome = decide (c ∈ met)
  len : kvs.length ≤ met.length
theorem DM.put {kvs : List (L2.Key × PV)} {met : List Int} (h : DM kvs met) (c : Int) (v : PV) : DM (dput kvs (.inl c) v) (met ++ [c]) := by
  refine ⟨fun d => ?_, ?_⟩
  · rw [dlook_dput]
    by_cases g : c = d
    · rw [if_pos (by rw [g])]
      simp [g]
    · rw [if_neg (fun z => g (Sum.inl.inj z)), h.look]
      have : ¬ d = c := fun z => g z.symm
      simp [this]
  · have := dput_len kvs (.inl c) v
    have := h.len
    rw [List.length_append, List.length_singleton]
    omega
structure RlH (a0 : AH) (f m : Nat) (found : List (List Int)) (met : List Int) (a : AH) : Prop where
  x : Xt a0 a
  hf : a0.n ≤ f
  hm : a0.n ≤ m
  fm : f ≠ m
  lf : f < a.n
  lm : m < a.n
  gf : a.get f = some (.lst (found.map wV))
  gm : ∃ kvs, a.get m = some (.dct kvs) ∧ DM kvs met
abbrev rlT : FE := eBin (cIn true) (eVar 5) (eVar 1)
abbrev rlB : GS := (sSeq (sAsg (eC (.bl true)) (gSub (eVar 1) (eVar 5)))
    (sSeq (sSet 4 (eBin bAdd (eVar 4) (eTup (aCons (eVar 5) aNil))))
    (sSet 5 (eBin ixO (eVar 0) (eBin bMod (eCB bInt (aCons (eBin bAdd (eBM 1 mIndexT (eVar 0) (aCons (eBin bXor (eVar 5) (eC (.int 1))) aNil)) (eC (.int 1))) aNil)) (eCB bLen (aCons (eVar 0) aNil)))))))
theorem rl_loop {row : List Int} (h : RW row) {a0 : AH} {f m : Nat} {found : List (List Int)} {o3 : Option PV} {D : En} (R : List Int × List Int)
    (k : ∀ a' c, RlH a0 f m found R.1 a' → D.nx [some (.tup (iw row)), some (.ref m), some (.ref f), o3, some (.tup (iw R.2)), some (.int c)] a') :
    ∀ (a : AH) (met word : List Int) (c : Int), RlH a0 f m found met a → inn row 13 met word c = R → met.Nodup → LW row met → Lt row c → word.length ≤ met.length → wS (whl rlT rlB 1000 [some (.tup (iw row)), some (.ref m), some (.ref f), o3, some (.tup (iw word)), some (.int c)] a) D := by
  intro a met word c H e nd lw lc wl
  have hi := h.hi
  have LM := LM40
  have hm0 : (0 : Int) < row.length := by have := h.lo; omega
  refine w_whl (fun j ev a' => ∃ met word c n, ev = [some (.tup (iw row)), some (.ref m), some (.ref f), o3, some (.tup (iw word)), some (.int c)] ∧ RlH a0 f m found met a' ∧ inn row n met word c = R ∧ met.Nodup ∧ LW row met ∧ Lt row c ∧ word.length ≤ met.length ∧ row.length + 1 - met.length ≤ n ∧ row.length + 1 - met.length = j) ?_ 1000 (row.length + 1 - met.length) _ _ (by omega) ⟨met, word, c, 13, rfl, H, e, nd, lw, lc, wl, by omega, rfl⟩
  rintro j ev a' ⟨met, word, c, n, rfl, H, e, nd, lw, lc, wl, hn, hj⟩
  have ml := lw_len h nd lw
  obtain ⟨kvs, gm, dm⟩ := H.gm
  push_cast [↓o_inD gm]
  rw [dm.look]
  cases n with
  | zero => omega
  | succ n =>
    have e : (if c ∈ met then (met, word) else inn row n (met ++ [c]) (word ++ [c]) (beh row c)) = R := e
    by_cases hm : c ∈ met
    · rw [if_pos hm] at e
      rw [decide_eq_true hm]
      refine .inl ⟨rfl, ?_⟩
      have q := k a' c
      rw [← e] at q
      exact q H
    · rw [if_neg hm] at e
      rw [decide_eq_false hm]
      refine .inr ⟨rfl, ?_⟩
      have nd2 : (met ++ [c]).Nodup := by
        rw [List.nodup_append]
        refine ⟨nd, by simp, fun a ha b hb => ?_⟩
        rw [List.mem_singleton] at hb
        intro z
        exact hm (hb ▸ z ▸ ha)
      have lw2 : LW row (met ++ [c]) := lw_app.mpr ⟨lw, lw_one.mpr lc⟩
      have ml2 := lw_len h nd2 lw2
      rw [List.length_append, List.length_singleton] at ml2
      have dl := dm.len
      push_cast [↓o_setD gm (show kvs.length < LIM by omega), ↓o_idx (h.x1m lc), hm0, mod_nx, at_nat h.nx_lt]
      refine ⟨by omega, row.length + 1 - (met ++ [c]).length, by rw [List.length_append, List.length_singleton]; omega, met ++ [c], word ++ [c], beh row c, n, by rw [iw_one] <;> rfl, ?_, e, nd2, lw2, beh_lt h lc, by simp; omega, by rw [List.length_append, List.length_singleton]; omega, rfl⟩
      exact ⟨H.x.put H.hm _, H.hf, H.hm, H.fm, H.lf, H.lm, by rw [get_put_ne H.fm]; exact H.gf, ⟨_, get_put_eq, dm.put c _⟩⟩
theorem lr_ok {row : List Int} (h : RW row) {a0 : AH} {Q : PV → AH → Prop} {X : EX} (k : ∀ a' i, Xt a0 a' → a0.n ≤ i → i < a'.n → a'.get i = some (.lst ((RL row).map wV)) → Q (.ref i) a') : wR (F__law_rims [.tup (iw row)] a0) Q X := by
  have LM := LM40
  have hi := h.hi
  unfold F__law_rims
  refine Eq.mpr w_F ?_
  rw [if_pos (by rfl)]
  simp only [startE, List.map_cons, List.map_nil, List.length_cons, List.length_nil, Nat.reduceAdd, Nat.reduceSub, List.reduceReplicate, List.cons_append, List.nil_append]
  unfold g__law_rims
  push_cast
  have gm0 : ((a0.new (.dct [])).new (.lst [])).get a0.n = some (.dct []) := by
    rw [get_new_lt (by rw [new_n]; omega), get_new_eq] <;> rfl
  have gf0 : ((a0.new (.dct [])).new (.lst [])).get (a0.n + 1) = some (.lst (([] : List (List Int)).map wV)) := get_new_eq
  have x0 : Xt a0 ((a0.new (.dct [])).new (.lst [])) := (Xt.new _ _).trans (Xt.new _ _)
  have nn : ((a0.new (.dct [])).new (.lst [])).n = a0.n + 2 := rfl
  have en : (a0.new (.dct [])).n = a0.n + 1 := rfl
  rw [en]
  generalize (a0.new (.dct [])).new (.lst []) = a1 at *
  refine w_for (fun _ => True) (fun l ev a' => ∃ met found lr o3 o4 o5, l = iw lr ∧ LW row lr ∧ ev = [some (.tup (iw row)), some (.ref a0.n), some (.ref (a0.n + 1)), o3, o4, o5] ∧ RlH a0 (a0.n + 1) a0.n found met a' ∧ Gd row met found ∧ (lr.foldl (stp row) (met, found)).2 = RL row) (fun _ _ _ _ => trivial) ?_ ?_ (iw row) _ _ _ _ (yl_seq _) (Nat.lt_succ_self _) ⟨[], [], row, none, none, none, rfl, fun c hc => (h.mem c).mp hc, rfl, ⟨x0, by omega, by omega, by omega, by omega, by omega, gf0, ⟨_, gm0, fun c => by simp [dlook], by simp⟩⟩, gd_0, rfl⟩
  · rintro ev a' ⟨met, found, lr, o3, o4, o5, hl, lwr, rfl, H, G, hF⟩
    have lr0 : lr = [] := by
      cases lr with
      | nil => rfl
      | cons _ _ => cases hl
    subst lr0
    have hF : found = RL row := hF
    push_cast
    exact k _ _ H.x H.hf H.lf (by rw [← hF]; exact H.gf)
  · rintro v l ev a' ⟨met, found, lr, o3, o4, o5, hl, lwr, rfl, H, G, hF⟩
    cases lr with
    | nil => cases hl
    | cons c lr =>
      have hl := List.cons.inj hl
      obtain ⟨rfl, rfl⟩ := hl
      have q := lw_cons.mp lwr
      have G2 := stp_gd h G q.1
      have hF : (lr.foldl (stp row) (stp row (met, found) c)).2 = RL row := hF
      rw [gw_nm, on_nx]
      dsimp only
      rw [s_seq', s_par']
      push_cast
      obtain ⟨t, et, ltt, nt, ct⟩ := inn_ex h 13 met [] c q.1 G.nd G.lw
      have tl := lw_len h (nd := (List.nodup_append.mp nt).2.1) ltt
      refine rl_loop h (met ++ t, t) (fun a2 c2 H2 => ?_) _ met [] c H (by simpa using et) G.nd G.lw q.1 (Nat.zero_le _)
      dsimp only at H2
      have es : stp row (met, found) c = (met ++ t, if t = [] then found else found ++ [lt t]) := by
        unfold stp
        show ((inn row 13 met [] c).1, if (inn row 13 met [] c).2 = [] then found else found ++ [lt (inn row 13 met [] c).2]) = _
        rw [et, List.nil_append]
      rw [es] at G2 hF
      push_cast
      by_cases ht : t = []
      · refine if_f (by simp [ht]) ?_
        push_cast
        rw [if_pos ht] at G2 hF
        exact ⟨_, _, lr, _, _, _, rfl, q.2, rfl, H2, G2.1, hF⟩
      · refine if_t (by simp [ht]) ?_
        rw [if_neg ht] at G2 hF
        push_cast [t_lst H2.gf]
        refine wR_of (lt_ok' ht (by omega) _) fun a3 f3 => ?_
        obtain ⟨kvs, gm, dm⟩ := H2.gm
        have gf4 : a3.get (a0.n + 1) = some (.lst (found.map wV)) := by rw [f3.old _ H2.lf]; exact H2.gf
        have gm4 : a3.get a0.n = some (.dct kvs) := by rw [f3.old _ H2.lm]; exact gm
        have fl2 : (found ++ [lt t]).length ≤ (met ++ t).length := G2.1.fl
        have ml2 := lw_len h G2.1.nd G2.1.lw
        dsimp only at ml2
        rw [List.length_append, List.length_singleton] at fl2
        push_cast [↓o_app gf4 (show (found.map wV).length < LIM by rw [List.length_map]; omega)]
        have n3 := f3.le
        have l2 := H2.lf
        have l3 := H2.lm
        exact ⟨met ++ t, found ++ [lt t], lr, _, _, _, rfl, q.2, rfl, ⟨(H2.x.trans f3).put H2.hf _, H2.hf, H2.hm, H2.fm, by rw [put_n]; omega, by rw [put_n]; omega, by rw [get_put_eq]; simp, ⟨kvs, by rw [get_put_ne (by omega)]; exact gm4, dm⟩⟩, G2.1, hF⟩
/-- the place of the rim of an end -/
def rimOf (S : List (List Int)) (c : Int) : Nat := S.findIdx fun r => decide (c ∈ r)
def tIn (c : Int) : PV → Bool
  | .tup [_, .tup l] => match allInt l with
    | some w => decide (c ∈ w)
    | none => false
  | _ => false
def fst2 : PV → PV
  | .tup [k, _] => k
  | v => v
theorem rim_pick (c : Int) : ∀ (S : List (List Int)) (k : Nat), (∃ r ∈ S, c ∈ r) → ∃ m, pick2 (tIn c) fst2 (enm k (S.map wV)) = .int ((k + rimOf S c : Nat) : Int) :: m
  | [], _, ⟨_, z, _⟩ => by cases z
  | r :: S, k, hr => by
    have e : tIn c (.tup [.int k, wV r]) = decide (c ∈ r) := by
      show (match allInt (iw r) with | some w => decide (c ∈ w) | none => false) = _
      rw [allInt_iw]
    show ∃ m, (match tIn c (.tup [.int k, wV r]) with | true => fst2 (.tup [.int k, wV r]) :: pick2 (tIn c) fst2 (enm (k + 1) (S.map wV)) | false => pick2 (tIn c) fst2 (enm (k + 1) (S.map wV))) = _
    rw [e]
    by_cases hc : c ∈ r
    · rw [decide_eq_true hc]
      refine ⟨pick2 (tIn c) fst2 (enm (k + 1) (S.map wV)), ?_⟩
      show PV.int k :: _ = _
      have : rimOf (r :: S) c = 0 := by
        unfold rimOf
        rw [List.findIdx_cons, decide_eq_true hc] <;> rfl
      rw [this] <;> rfl
    · rw [decide_eq_false hc]
      obtain ⟨m, em⟩ := rim_pick c S (k + 1) (by
        obtain ⟨r', h1, h2⟩ := hr
        rcases List.mem_cons.mp h1 with z | z
        · exact absurd (z ▸ h2) hc
        · exact ⟨r', z, h2⟩)
      refine ⟨m, ?_⟩
      show pick2 (tIn c) fst2 (enm (k + 1) (S.map wV)) = _
      rw [em]
      have : rimOf (r :: S) c = rimOf S c + 1 := by
        unfold rimOf
        rw [List.findIdx_cons, decide_eq_false hc] <;> rfl
      rw [this]
      congr 2
      omega
theorem rn_ok {row : List Int} (h : RW row) {g : Nat} (hg : g < row.length) (a : AH) : ∃ a', F__law_rim_number [.tup (iw row), .int g] a = .ok (.int (rimOf (SRm row) (row.getD g 0))) a' ∧ Xt a a' := by
  have LM := LM40
  have hi := h.hi
  apply of_wR
  unfold F__law_rim_number
  refine Eq.mpr w_F ?_
  rw [if_pos (by rfl)]
  simp only [startE, List.map_cons, List.map_nil, List.length_cons, List.length_nil, Nat.reduceAdd, Nat.reduceSub, List.reduceReplicate, List.cons_append, List.nil_append]
  unfold g__law_rim_number
  push_cast
  refine lr_ok h fun a1 i x1 hi1 hi2 g1 => ?_
  push_cast [↓o_sortW (rm_RL h).ne g1, ↓en_ref (get_new_eq (a := a1) (o := .lst ((srtR (RL row)).map wV)))]
  have R := rm_SR h
  have x2 := x1.trans (Xt.new a1 (.lst ((SRm row).map wV)))
  have g2 : (a1.new (.lst ((SRm row).map wV))).get a1.n = some (.lst ((SRm row).map wV)) := get_new_eq
  have n2 : a1.n < (a1.new (.lst ((SRm row).map wV))).n := Nat.lt_succ_self _
  have eS : srtR (RL row) = SRm row := rfl
  rw [eS]
  generalize a1.new (.lst ((SRm row).map wV)) = a2 at *
  have lc := (at_lt h hg).1
  refine lc_use (tIn (row.getD g 0)) fst2 (enm 0 ((SRm row).map wV)) (yl_enh fun a' x' => by rw [x'.old _ n2]; exact g2) (by
    show lenO (a2.get a1.n) + 1 = _
    rw [g2, enm_len] <;> rfl) (by rw [enm_len, List.length_map]; have := R.fl; omega) (fun v hv a3 x3 => ?_) fun a3 x3 n3 g3 => ?_
  · have hv2 : ∀ (S : List (List Int)) (k : Nat), v ∈ enm k (S.map wV) → ∃ (j : Nat) (r : List Int), v = .tup [.int j, wV r] := by
      intro S
      induction S with
      | nil => intro k z; cases z
      | cons r S ih =>
        intro k z
        rcases List.mem_cons.mp z with z | z
        · exact ⟨k, r, z⟩
        · exact ih _ z
    obtain ⟨j, r, rfl⟩ := hv2 _ _ hv
    refine ⟨_, rfl, ?_⟩
    have e : tIn (row.getD g 0) (.tup [.int j, wV r]) = decide (row.getD g 0 ∈ r) := by
      show (match allInt (iw r) with | some w => decide (row.getD g 0 ∈ w) | none => false) = _
      rw [allInt_iw]
    push_cast [at_nat hg]
    rw [e]
    exact ⟨rfl, Xt.refl _, fun _ => ⟨rfl, Xt.refl _⟩⟩
  · obtain ⟨m, em⟩ := rim_pick (row.getD g 0) (SRm row) 0 (R.mem _ lc)
    rw [em, Nat.zero_add] at g3
    push_cast [↓o_ixL g3]
    have e0 : L2.atI (PV.int ((rimOf (SRm row) (row.getD g 0) : Nat) : Int) :: m) 0 = some (.int ((rimOf (SRm row) (row.getD g 0) : Nat) : Int)) := by
      unfold L2.atI L2.ixN
      rw [if_pos (by omega), if_pos (by rw [List.length_cons]; omega)]
      rfl
    push_cast [e0]
    exact x2.trans x3
end VI
end
section
set_option maxRecDepth 100000
/-! rims_at. -/
namespace VI
open PySem PySem.W PyProof.Rows

/-! sorted whole numbers -/
def iP (i : Int) : PyData × PV := (.int i, .int i)
def srtI (w : List Int) : List Int := isort (fun i j => dataLe false Prod.fst (iP i) (iP j)) w
theorem keyd_iw (a : AH) : ∀ w : List Int, mapO (keyd a) (iw w) = some (w.map iP)
  | [] => mapO_ni
  | i :: w => by
    have e : keyd a (.int i) = some (iP i) := by
      unfold keyd
      rw [toD_int] <;> rfl
    exact mapO_co e (keyd_iw a w)
theorem srt_is {a : AH} {w : List Int} : srt a (iw w) = some (iw (srtI w)) := by
  unfold srt
  rw [keyd_iw]
  have e : sortableL ((w.map iP).map (fun p : PyData × PV => p.1)) = true := by
    rw [List.map_map]
    unfold sortableL
    rw [Bool.and_eq_true]
    constructor
    · rw [List.all_eq_true]
      intro x hx
      obtain ⟨r, _, rfl⟩ := List.mem_map.mp hx
      rw [List.all_eq_true]
      intro y hy
      obtain ⟨s, _, rfl⟩ := List.mem_map.mp hy
      show PySem.W.alike (.int r) (.int s) = true
      simp [PySem.W.alike]
    · rw [Bool.or_eq_true]
      right
      rw [List.all_eq_true]
      intro x hx
      obtain ⟨r, hr, rfl⟩ := List.mem_map.mp hx
      rfl
  show (match sortableL ((w.map iP).map (fun p : PyData × PV => p.1)) with | true => some (List.map (fun p : PyData × PV => p.2) (isort (dataLe false Prod.fst) (w.map iP))) | false => none) = _
  rw [e]
  show some (List.map (fun p : PyData × PV => p.2) (isort (dataLe false Prod.fst) (w.map iP))) = _
  rw [isort_map, List.map_map]
  rfl
theorem o_sortI {a : AH} {i : Nat} {w : List Int} {P : PV × AH → Prop} (g : a.get i = some (.lst (iw w))) : wO (bSorted [.ref i] a) P = P (.ref a.n, a.new (.lst (iw (srtI w)))) := by
  have e2 : oneS [.ref i] a = some (iw w) := by
    simp only [oneS, g]
  unfold bSorted
  rw [e2]
  show wO (match srt a (iw w) with | some m => some (PV.ref a.n, a.new (.lst m)) | none => none) P = _
  rw [srt_is] <;> rfl
theorem o_sortT {a : AH} {w : List Int} {P : PV × AH → Prop} : wO (bSorted [.tup (iw w)] a) P = P (.ref a.n, a.new (.lst (iw (srtI w)))) := by
  unfold bSorted
  show wO (match srt a (iw w) with | some m => some (PV.ref a.n, a.new (.lst m)) | none => none) P = _
  rw [srt_is] <;> rfl
/-! dicts of ends -/
def dOf (p : Int) (l : List (L2.Key × PV)) (r : List Int) : List (L2.Key × PV) := r.foldl (fun l c => dput l (.inl c) (.int p)) l
theorem dOf_len (p : Int) : ∀ (r : List Int) (l : List (L2.Key × PV)), (dOf p l r).length ≤ l.length + r.length
  | [], l => Nat.le_refl _
  | c :: r, l => by
    have ih := dOf_len p r (dput l (.inl c) (.int p))
    have := dput_len l (.inl c) (.int p)
    show (dOf p (dput l (.inl c) (.int p)) r).length ≤ _
    rw [List.length_cons]
    omega
theorem dOf_look (p : Int) : ∀ (r : List Int) (l : List (L2.Key × PV)) (q : L2.Key), dlook (dOf p l r) q = if ∃ c ∈ r, (Sum.inl c : L2.Key) = q then some (.int p) else dlook l q
  | [], l, q => by
    rw [if_neg (by rintro ⟨_, z, _⟩; cases z)] <;> rfl
  | c :: r, l, q => by
    have ih := dOf_look p r (dput l (.inl c) (.int p)) q
    show dlook (dOf p (dput l (.inl c) (.int p)) r) q = _
    rw [ih, dlook_dput]
    by_cases h1 : ∃ d ∈ r, (Sum.inl d : L2.Key) = q
    · rw [if_pos h1, if_pos (by obtain ⟨d, hd, e⟩ := h1; exact ⟨d, List.mem_cons_of_mem _ hd, e⟩)]
    · rw [if_neg h1]
      by_cases h2 : (Sum.inl c : L2.Key) = q
      · rw [if_pos h2, if_pos ⟨c, List.mem_cons_self, h2⟩]
      · rw [if_neg h2, if_neg]
        rintro ⟨d, hd, e⟩
        rcases List.mem_cons.mp hd with z | z
        · exact h2 (z ▸ e)
        · exact h1 ⟨d, z, e⟩
theorem dc_run {e : Env} {d : Nat} {p : Int} {w0 w1 w2 w4 o6 : Option PV} : ∀ (r : List Int) (k : Nat) (a : AH) (l : List (L2.Key × PV)), r.length < k → a.get d = some (.dct l) → l.length + r.length ≤ LIM →
    ∃ a', dcL (bNm 5) (eC (.bl true)) (eVar 5) (eVar 3) d k (.seq (iw r)) [w0, w1, w2, some (.int p), w4, none, o6] a = some a' ∧ a'.n = a.n ∧ (∀ i, i ≠ d → a'.get i = a.get i) ∧ a'.get d = some (.dct (dOf p l r))
  | _, 0, _, _, h, _, _ => absurd h (Nat.not_lt_zero _)
  | [], k + 1, a, l, _, g, _ => ⟨a, rfl, rfl, fun _ _ => rfl, g⟩
  | c :: r, k + 1, a, l, h, g, hl => by
    rw [List.length_cons] at h hl
    have dl := dput_len l (.inl c) (.int p)
    obtain ⟨a', e1, e2, e3, e4⟩ := dc_run (e := e) (d := d) (p := p) (w0 := w0) (w1 := w1) (w2 := w2) (w4 := w4) (o6 := o6) r k (a.put d (.dct (dput l (.inl c) (.int p)))) (dput l (.inl c) (.int p)) (by omega) get_put_eq (by omega)
    refine ⟨a', ?_, e2, fun i hi => by rw [e3 i hi, get_put_ne hi], e4⟩
    show (match a.get d with
              | some (.dct l) => (match Nat.blt l.length LIM with
                | true => dcL (bNm 5) (eC (.bl true)) (eVar 5) (eVar 3) d k (.seq (iw r)) [w0, w1, w2, some (.int p), w4, none, o6] (a.put d (.dct (dput l (.inl c) (.int p))))
                | false => none)
              | _ => none) = _
    rw [g]
    show (match Nat.blt l.length LIM with
                | true => dcL (bNm 5) (eC (.bl true)) (eVar 5) (eVar 3) d k (.seq (iw r)) [w0, w1, w2, some (.int p), w4, none, o6] (a.put d (.dct (dput l (.inl c) (.int p))))
                | false => none) = _
    rw [show Nat.blt l.length LIM = true from Nat.ble_eq_true_of_le (by omega)]
    exact e1
theorem mergeP_len : ∀ (m l : List (L2.Key × PV)), (mergeP l m).length ≤ l.length + m.length
  | [], l => Nat.le_refl _
  | (q, v) :: m, l => by
    have ih := mergeP_len m (dput l q v)
    have := dput_len l q v
    show (mergeP (dput l q v) m).length ≤ _
    rw [List.length_cons]
    omega
theorem mergeP_look {v : PV} : ∀ (m l : List (L2.Key × PV)) (q : L2.Key), (∀ kv ∈ m, kv.2 = v) → dlook (mergeP l m) q = if (dlook m q).isSome = true then some v else dlook l q
  | [], l, q, _ => rfl
  | (k, w) :: m, l, q, h => by
    have hw : w = v := h (k, w) List.mem_cons_self
    subst hw
    have ih := mergeP_look m (dput l k w) q fun kv hkv => h kv (List.mem_cons_of_mem _ hkv)
    show dlook (mergeP (dput l k w) m) q = _
    rw [ih, dlook_dput]
    have d : dlook ((k, w) :: m) q = if k = q then some w else dlook m q := by
      show (match keyEq k q with | true => some w | false => dlook m q) = _
      rw [keyEq_is]
      by_cases h : k = q
      · rw [decide_eq_true h, if_pos h]
      · rw [decide_eq_false h, if_neg h]
    rw [d]
    by_cases g : k = q
    · rw [if_pos g, if_pos g]
      simp
    · rw [if_neg g, if_neg g]
theorem dset_vals {v : PV} : ∀ (l : List (L2.Key × PV)) (k : L2.Key), (∀ kv ∈ l, kv.2 = v) → ∀ kv ∈ dset l k v, kv.2 = v
  | [], _, _, _, z => by cases z
  | (k', w) :: l, k, h, kv, z => by
    have hw : w = v := h (k', w) List.mem_cons_self
    have e : dset ((k', w) :: l) k v = match keyEq k' k with | true => (k', v) :: dset l k v | false => (k', w) :: dset l k v := rfl
    rw [e] at z
    have hl : ∀ kv ∈ l, kv.2 = v := fun kv hkv => h kv (List.mem_cons_of_mem _ hkv)
    cases q : keyEq k' k with
    | true =>
      rw [q] at z
      rcases List.mem_cons.mp z with y | y
      · rw [y]
      · exact dset_vals l k hl kv y
    | false =>
      rw [q] at z
      rcases List.mem_cons.mp z with y | y
      · rw [y]; exact hw
      · exact dset_vals l k hl kv y
theorem dput_vals {v : PV} (l : List (L2.Key × PV)) (k : L2.Key) (h : ∀ kv ∈ l, kv.2 = v) : ∀ kv ∈ dput l k v, kv.2 = v := by
  intro kv z
  unfold dput at z
  cases q : dlook l k with
  | none =>
    rw [q] at z
    rcases List.mem_append.mp z with y | y
    · exact h kv y
    · rw [List.mem_singleton] at y
      rw [y]
  | some w =>
    rw [q] at z
    exact dset_vals l k h kv z
theorem dOf_vals (p : Int) : ∀ (r : List Int) (l : List (L2.Key × PV)), (∀ kv ∈ l, kv.2 = .int p) → ∀ kv ∈ dOf p l r, kv.2 = .int p
  | [], l, h => h
  | c :: r, l, h => dOf_vals p r _ (dput_vals l _ h)
theorem o_upd {a : AH} {i j : Nat} {l m : List (L2.Key × PV)} {P : PV × AH → Prop} (ne : i ≠ j) (g : a.get i = some (.dct l)) (g2 : a.get j = some (.dct m)) (h : l.length + m.length ≤ LIM) : wO (mUpdate (.ref i) [.ref j] a) P = P (.non, a.put i (.dct (mergeP l m))) := by
  have e : mUpdate (.ref i) [.ref j] a = (match Nat.beq i j with
      | true => none
      | false => match a.get i with
        | some (.dct l) => (match a.get j with
          | some (.dct m) => (match Nat.ble (l.length + m.length) LIM with
            | true => some (.non, a.put i (.dct (mergeP l m)))
            | false => none)
          | _ => none)
        | _ => none) := rfl
  have b : Nat.beq i j = false := by
    rw [Tr.beq_nat]
    exact decide_eq_false ne
  rw [e, b]
  show wO (match a.get i with
        | some (.dct l) => (match a.get j with
          | some (.dct m) => (match Nat.ble (l.length + m.length) LIM with
            | true => some (.non, a.put i (.dct (mergeP l m)))
            | false => none)
          | _ => none)
        | _ => none) P = _
  rw [g]
  show wO (match a.get j with
          | some (.dct m) => (match Nat.ble (l.length + m.length) LIM with
            | true => some (.non, a.put i (.dct (mergeP l m)))
            | false => none)
          | _ => none) P = _
  rw [g2]
  show wO (match Nat.ble (l.length + m.length) LIM with
            | true => some (.non, a.put i (.dct (mergeP l m)))
            | false => none) P = _
  rw [show Nat.ble (l.length + m.length) LIM = true from Nat.ble_eq_true_of_le h] <;> rfl
/-- a dict display over known values -/
def dcW (vs : List Nat) (b : BT) (ft fk fe : FE) (e : Env) (p : PIt) (a1 : AH) (Q : PV → AH → Prop) (_ : DP Q := ()) : Prop := wO (dcL b ft fk fe a1.n (turns a1 p) p (wipeE e vs) (a1.new (.dct []))) fun a2 => Q (.ref a1.n) a2
theorem w_dc {vs : List Nat} {fi : FI} {b : BT} {ft fk fe : FE} {e : Env} {a : AH} {Q : PV → AH → Prop} {X : EX} : wR (eDc vs fi b ft fk fe e a) Q X = wR (fi e a) (fun p a1 => dcW vs b ft fk fe e p a1 Q) X := by
  unfold eDc dcW
  rw [wR_b]
  refine wR_q fun p a1 => ?_
  cases dcL b ft fk fe a1.n (turns a1 p) p (wipeE e vs) (a1.new (.dct [])) <;> rfl
end VI
end
section
set_option maxRecDepth 100000
/-! rims_at, to its end. -/
namespace VI
open PySem PySem.W PyProof.Rows

/-- the dict of places behind k rims -/
structure PL (row : List Int) (S : List (List Int)) (k : Nat) (l : List (L2.Key × PV)) : Prop where
  look : ∀ p r, p < k → S[p]? = some r → ∀ c ∈ r, dlook l (.inl c) = some (.int p)
  len : l.length ≤ 12 * k
theorem PL.next {row : List Int} (h : RW row) {S : List (List Int)} (R : Rm row S) {k : Nat} {l : List (L2.Key × PV)} (H : PL row S k l) {r : List Int} (hr : S[k]? = some r) : PL row S (k + 1) (mergeP l (dOf k [] r)) := by
  have hk := (List.getElem?_eq_some_iff.mp hr).1
  have rk : S[k] = r := (List.getElem?_eq_some_iff.mp hr).2
  refine ⟨fun p s hp hs c hc => ?_, ?_⟩
  · rw [mergeP_look (v := .int k) _ _ _ (dOf_vals k r [] (fun _ z => by cases z)), dOf_look]
    by_cases e : p = k
    · subst e
      rw [hr] at hs
      cases hs
      have y : ∃ d ∈ r, (Sum.inl d : L2.Key) = .inl c := ⟨c, hc, rfl⟩
      rw [if_pos y] <;> rfl
    · have hp' : p < k := by omega
      have hps := (List.getElem?_eq_some_iff.mp hs).1
      have rp : S[p] = s := (List.getElem?_eq_some_iff.mp hs).2
      have dj := List.pairwise_iff_getElem.mp R.dj p k hps hk hp'
      have ne : ¬ ∃ d ∈ r, (Sum.inl d : L2.Key) = .inl c := by
        rintro ⟨d, hd, e⟩
        cases e
        exact dj c (rp ▸ hc) (rk ▸ hd)
      rw [if_neg ne]
      exact H.look p s hp' hs c hc
  · have a := mergeP_len (dOf k [] r) l
    have b := dOf_len k r []
    have c := R.rl r (List.mem_of_getElem? hr)
    have d := H.len
    have e := h.hi
    rw [List.length_nil] at b
    omega
theorem rimOf_at {row : List Int} {S : List (List Int)} (R : Rm row S) {c : Int} (hc : Lt row c) : ∃ r, S[rimOf S c]? = some r ∧ c ∈ r ∧ rimOf S c < S.length := by
  obtain ⟨r, hr, cr⟩ := R.mem c hc
  have lt : rimOf S c < S.length := by
    unfold rimOf
    exact List.findIdx_lt_length_of_exists ⟨r, hr, decide_eq_true cr⟩
  refine ⟨S[rimOf S c], List.getElem?_eq_getElem lt, ?_, lt⟩
  have := List.findIdx_getElem (xs := S) (p := fun r => decide (c ∈ r)) (w := lt)
  exact of_decide_eq_true this
theorem o_ixD {a : AH} {j : Nat} {l : List (L2.Key × PV)} {c : Int} {v : PV} {P : PV × AH → Prop} (g : a.get j = some (.dct l)) (h : dlook l (.inl c) = some v) : wO (ixO (.ref j) (.int c) a) P = P (v, a) := by
  have e : ixO (.ref j) (.int c) a = (match a.get j with | some (.lst l) => (match (PV.int c) with | .int i => (L2.atI l i).map fun w => (w, a) | _ => none) | some (.dct kvs) => (match keyOf (PV.int c) with | some q => (dlook kvs q).map fun w => (w, a) | none => none) | _ => none) := rfl
  rw [e, g]
  show wO ((dlook l (.inl c)).map fun w => (w, a)) P = _
  rw [h] <;> rfl
theorem enm_cons {k : Nat} {v : PV} {l : List PV} : enm k (v :: l) = .tup [.int k, v] :: enm (k + 1) l := rfl
abbrev raB : GS := (sDrop (eBM 2 mUpdate (eVar 2) (aCons (eDc [5] (fVal (eVar 4)) (bNm 5) (eC (.bl true)) (eVar 5) (eVar 3)) aNil)))
theorem ra_body {k pl : Nat} {r : List Int} {a : AH} {l : List (L2.Key × PV)} {w0 w1 w5 w6 : Option PV} {D : En} (hp : pl < a.n) (g : a.get pl = some (.dct l)) (hl : l.length + r.length ≤ LIM)
    (kk : ∀ a', a.n ≤ a'.n → (∀ i, i < a.n → i ≠ pl → a'.get i = a.get i) → a'.get pl = some (.dct (mergeP l (dOf k [] r))) → D.nx [w0, w1, some (.ref pl), some (.int k), some (wV r), w5, w6] a') :
    wS (raB [w0, w1, some (.ref pl), some (.int k), some (wV r), w5, w6] a) D := by
  obtain ⟨a', e1, e2, e3, e4⟩ := dc_run (e := []) (d := a.n) (p := k) (w0 := w0) (w1 := w1) (w2 := some (.ref pl)) (w4 := some (wV r)) (o6 := w6) r (r.length + 1) (a.new (.dct [])) [] (by omega) get_new_eq (by rw [List.length_nil]; omega)
  have t : turns a (.seq (iw r)) = r.length + 1 := by
    show (iw r).length + 1 = _
    rw [iw_len]
  push_cast [t_dct g, ↓w_dc]
  unfold dcW
  rw [t]
  show wO (dcL (bNm 5) (eC (.bl true)) (eVar 5) (eVar 3) a.n (r.length + 1) (.seq (iw r)) [w0, w1, some (.ref pl), some (.int k), some (wV r), none, w6] (a.new (.dct []))) _
  rw [e1]
  have g1 : a'.get pl = some (.dct l) := by
    rw [e3 _ (by omega), get_new_lt hp]
    exact g
  have dl := dOf_len k r []
  rw [List.length_nil] at dl
  push_cast [↓o_upd (Nat.ne_of_lt hp) g1 e4 (show l.length + (dOf k [] r).length ≤ LIM by omega)]
  refine kk _ (by rw [put_n, e2, new_n]; omega) (fun i hi ne => ?_) get_put_eq
  rw [get_put_ne ne, e3 i (by omega), get_new_lt hi]
theorem ra_ok {row : List Int} (h : RW row) {sk : Nat} {a : AH} (S : SkH a sk row) {t : Trp} (h1 : t.1 < row.length) (h2 : t.2.2 < row.length) (hw : LW row t.2.1) (hl : t.2.1.length ≤ 40) (hB : BR row t.1 t.2.1 t.2.2 = some t) :
    ∃ a', F_rims_at [.ref sk, tri t] a = .ok (.tup (iw (srtI [(rimOf (SRm row) (row.getD t.1 0) : Nat), (rimOf (SRm row) (row.getD t.2.2 0) : Nat)]))) a' ∧ Xt a a' := by
  have LM := LM40
  have hi := h.hi
  apply of_wR
  unfold F_rims_at
  refine Eq.mpr w_F ?_
  rw [if_pos (by rfl)]
  simp only [startE, List.map_cons, List.map_nil, List.length_cons, List.length_nil, Nat.reduceAdd, Nat.reduceSub, List.reduceReplicate, List.cons_append, List.nil_append]
  unfold g_rims_at
  push_cast [↓nb_ok S.at_ h.lo]
  refine nbr_ok h S h1 h2 hw (by omega) fun a1 x1 => ?_
  rw [if_pos (by rw [decide_eq_true hl, decide_eq_true hB] <;> rfl)]
  have S1 := S.xt x1
  push_cast
  have S2 := S1.xt (Xt.new a1 (.dct []))
  refine ro_ok h S2 fun a2 i x2 hi1 hi2 g2 => ?_
  rw [new_n] at hi1
  push_cast [↓en_ref g2]
  have R := rm_SR h
  have gp : a2.get a1.n = some (.dct []) := by
    rw [x2.old _ (by rw [new_n]; omega)]
    exact get_new_eq
  have x12 := (Xt.new a1 (.dct [])).trans x2
  have np : a1.n < a2.n := by have := x2.le; rw [new_n] at this; omega
  have fl := R.fl
  have tn : turns a2 (.enh i 0) = (enm 0 ((SRm row).map wV)).length + 1 := by
    show lenO (a2.get i) + 1 = _
    rw [g2, enm_len] <;> rfl
  rw [tn]
  refine w_for (fun a' => a'.get i = some (.lst ((SRm row).map wV))) (fun l ev a' => ∃ k w3 w4 w5 w6 kvs, l = enm k (((SRm row).drop k).map wV) ∧ k ≤ (SRm row).length ∧ ev = [some (.ref sk), some (tri t), some (.ref a1.n), w3, w4, w5, w6] ∧ Xt a1 a' ∧ i < a'.n ∧ a1.n < a'.n ∧ a'.get i = some (.lst ((SRm row).map wV)) ∧ a'.get a1.n = some (.dct kvs) ∧ PL row (SRm row) k kvs)
    (fun l ev a' ⟨k, w3, w4, w5, w6, kvs, _, _, _, _, _, _, z, _⟩ => z) ?_ ?_ (enm 0 ((SRm row).map wV)) _ _ _ _ (yl_enh fun _ z => z) (Nat.lt_succ_self _) ⟨0, _, _, _, _, [], rfl, Nat.zero_le _, rfl, x12, hi2, np, g2, gp, ⟨fun p r z => absurd z (by omega), Nat.zero_le _⟩⟩
  · rintro ev a' ⟨k, w3, w4, w5, w6, kvs, hl', hk, rfl, xa, ia, na, gi, gk, H⟩
    have kS : k = (SRm row).length := by
      have := congrArg List.length hl'
      rw [enm_len, List.length_map, List.length_drop, List.length_nil] at this
      omega
    have et : tri t = .tup [.int t.1, .tup (iw t.2.1), .int t.2.2] := rfl
    rw [et]
    push_cast [at3_0, at3_2]
    have S3 := S1.xt xa
    have S4 := S.xt x1
    refine lc_use (fun _ => true) (fun v => match v with | .int g => .int (rimOf (SRm row) (row.getD g.toNat 0)) | v => v) [.int t.1, .int t.2.2] (yl_seq _) rfl (by simp [LIM]) (fun v hv a3 x3 => ⟨_, rfl, ?_⟩) fun a3 x3 n3 g3 => ?_
    · have S5 := S3.xt x3
      have gk3 : a3.get a1.n = some (.dct kvs) := by rw [x3.old _ na]; exact gk
      have hv2 : ∃ g : Nat, v = .int g ∧ g < row.length := by
        rcases List.mem_cons.mp hv with z | z
        · exact ⟨_, z, h1⟩
        · rcases List.mem_cons.mp z with z | z
          · exact ⟨_, z, h2⟩
          · cases z
      obtain ⟨g, rfl, hg⟩ := hv2
      push_cast
      refine ⟨Xt.refl _, fun _ => ?_⟩
      obtain ⟨r, e1, e2, e3⟩ := rimOf_at R (at_lt h hg).1
      have lk := H.look _ r (by rw [kS]; exact e3) e1 _ e2
      push_cast [↓sk_row S5.at_, at_nat hg, ↓o_ixD gk3 lk]
      exact ⟨by rw [Int.toNat_natCast], Xt.refl _⟩
    · rw [pick2_T] at g3
      have g4 : a3.get a'.n = some (.lst (iw [(rimOf (SRm row) (row.getD t.1 0) : Nat), (rimOf (SRm row) (row.getD t.2.2 0) : Nat)])) := by
        rw [g3]
        show some (AO.lst [PV.int (rimOf (SRm row) (row.getD (t.1 : Int).toNat 0)), .int (rimOf (SRm row) (row.getD (t.2.2 : Int).toNat 0))]) = _
        rw [Int.toNat_natCast, Int.toNat_natCast] <;> rfl
      push_cast [↓o_sortI g4, ↓o_tupL (get_new_eq (a := a3) (o := .lst (iw (srtI [(rimOf (SRm row) (row.getD t.1 0) : Nat), (rimOf (SRm row) (row.getD t.2.2 0) : Nat)]))))]
      exact x1.trans (xa.trans (x3.trans (Xt.new _ _)))
  · rintro v l ev a' ⟨k, w3, w4, w5, w6, kvs, hl', hk, rfl, xa, ia, na, gi, gk, H⟩
    have hk2 : k < (SRm row).length := by
      have := congrArg List.length hl'
      rw [enm_len, List.length_map, List.length_drop, List.length_cons] at this
      omega
    rw [List.drop_eq_getElem_cons hk2, List.map_cons, enm_cons] at hl'
    obtain ⟨rfl, rfl⟩ := List.cons.inj hl'
    rw [gw_tu2, on_nx]
    have hr : (SRm row)[k]? = some (SRm row)[k] := List.getElem?_eq_getElem hk2
    have rl := R.rl _ (List.getElem_mem hk2)
    have kl := H.len
    refine ra_body na gk (by omega) fun a2' n2' o2' g2' => ?_
    exact ⟨k + 1, _, _, _, _, _, rfl, hk2, rfl, ⟨Nat.le_trans xa.le n2', fun j hj => by rw [o2' j (Nat.lt_of_lt_of_le hj xa.le) (by omega), xa.old j hj]⟩, by omega, by omega, by rw [o2' i ia (by omega)]; exact gi, g2', H.next h R hr⟩
end VI
end
section
set_option maxRecDepth 100000
/-! Draws. -/
namespace VI
open PySem PySem.W PyProof.Rows

def dD (r t : Int) : List (L2.Key × PV) := [(.inr "large", .ref 0), (.inr "rest", .int r), (.inr "cells", .ref 2), (.inr "turn", .int t)]
theorem dD_large (r t : Int) : dlook (dD r t) (.inr "large") = some (.ref 0) := rfl
theorem dD_rest (r t : Int) : dlook (dD r t) (.inr "rest") = some (.int r) := rfl
theorem dD_cells (r t : Int) : dlook (dD r t) (.inr "cells") = some (.ref 2) := rfl
theorem dD_turn (r t : Int) : dlook (dD r t) (.inr "turn") = some (.int t) := rfl
theorem dD_prest (r t x : Int) : dput (dD r t) (.inr "rest") (.int x) = dD x t := rfl
theorem dD_pturn (r t x : Int) : dput (dD r t) (.inr "turn") (.int x) = dD r x := rfl
/-- the state of the draws -/
structure Dw (a : AH) : Prop where
  n : 3 ≤ a.n
  l : ∃ L : List Int, a.get 0 = some (.lst (iw L)) ∧ (∀ x ∈ L, 0 ≤ x) ∧ L.length ≤ 100
  d : ∃ r t : Int, a.get 1 = some (.dct (dD r t)) ∧ 0 ≤ r
  c : ∃ C : List Int, a.get 2 = some (.lst (iw C)) ∧ (∀ x ∈ C, 0 ≤ x) ∧ C.length ≤ 100
/-- all else stays -/
structure Fr (a b : AH) : Prop where
  le : a.n ≤ b.n
  old : ∀ i, 3 ≤ i → i < a.n → b.get i = a.get i
theorem Fr.refl (a : AH) : Fr a a := ⟨Nat.le_refl _, fun _ _ _ => rfl⟩
theorem Fr.trans {a b c : AH} (h : Fr a b) (g : Fr b c) : Fr a c := ⟨Nat.le_trans h.le g.le, fun i h3 hi => (g.old i h3 (Nat.lt_of_lt_of_le hi h.le)).trans (h.old i h3 hi)⟩
theorem Xt.fr {a b : AH} (h : Xt a b) : Fr a b := ⟨h.le, fun i _ hi => h.old i hi⟩
theorem Dw.xt {a b : AH} (h : Dw a) (x : Xt a b) : Dw b := by
  have n := h.n
  obtain ⟨L, e1, l1, l2⟩ := h.l
  obtain ⟨r, t, e2, r0⟩ := h.d
  obtain ⟨C, e3, c1, c2⟩ := h.c
  exact ⟨Nat.le_trans h.n x.le, ⟨L, by rw [x.old _ (by omega)]; exact e1, l1, l2⟩, ⟨r, t, by rw [x.old _ (by omega)]; exact e2, r0⟩, ⟨C, by rw [x.old _ (by omega)]; exact e3, c1, c2⟩⟩
theorem Dw.put {a : AH} (h : Dw a) {i : Nat} (hi : 3 ≤ i) (o : AO) : Dw (a.put i o) := by
  obtain ⟨L, e1, l1, l2⟩ := h.l
  obtain ⟨r, t, e2, r0⟩ := h.d
  obtain ⟨C, e3, c1, c2⟩ := h.c
  exact ⟨h.n, ⟨L, by rw [get_put_ne (by omega)]; exact e1, l1, l2⟩, ⟨r, t, by rw [get_put_ne (by omega)]; exact e2, r0⟩, ⟨C, by rw [get_put_ne (by omega)]; exact e3, c1, c2⟩⟩
theorem Dw.new {a : AH} (h : Dw a) (o : AO) : Dw (a.new o) := h.xt (Xt.new a o)
theorem o_ixK {a : AH} {j : Nat} {l : List (L2.Key × PV)} {c : Str} {v : PV} {P : PV × AH → Prop} (g : a.get j = some (.dct l)) (h : dlook l (.inr c) = some v) : wO (ixO (.ref j) (.str c) a) P = P (v, a) := by
  have e : ixO (.ref j) (.str c) a = (match a.get j with | some (.lst l) => (match (PV.str c) with | .int i => (L2.atI l i).map fun w => (w, a) | _ => none) | some (.dct kvs) => (match keyOf (PV.str c) with | some q => (dlook kvs q).map fun w => (w, a) | none => none) | _ => none) := rfl
  rw [e, g]
  show wO ((dlook l (.inr c)).map fun w => (w, a)) P = _
  rw [h] <;> rfl
theorem o_setK {a : AH} {p : Nat} {l : List (L2.Key × PV)} {c : Str} {v : PV} {P : AH → Prop} (g : a.get p = some (.dct l)) (h : l.length < LIM) : wO (setO (.ref p) (.str c) v a) P = P (a.put p (.dct (dput l (.inr c) v))) := by
  have e : setO (.ref p) (.str c) v a = (match a.get p with
    | some (.dct l) => (match keyOf (.str c) with
      | some q => (match Nat.blt l.length LIM with
        | true => some (a.put p (.dct (dput l q v)))
        | false => none)
      | none => none)
    | some (.lst l) => (match (PV.str c) with
      | .int k => (match L2.ixN l.length k with
        | some j => some (a.put p (.lst (l.set j v)))
        | none => none)
      | _ => none)
    | _ => none) := rfl
  rw [e, g]
  show wO (match Nat.blt l.length LIM with | true => some (a.put p (.dct (dput l (.inr c) v))) | false => none) P = _
  rw [show Nat.blt l.length LIM = true from Nat.ble_eq_true_of_le h] <;> rfl
theorem o_setR {a : AH} {p : Nat} {r t x : Int} {P : AH → Prop} (g : a.get p = some (.dct (dD r t))) : wO (setO (.ref p) (.str "rest") (.int x) a) P = P (a.put p (.dct (dD x t))) := by
  rw [o_setK g (show 4 < LIM by decide), dD_prest]
theorem o_setT {a : AH} {p : Nat} {r t x : Int} {P : AH → Prop} (g : a.get p = some (.dct (dD r t))) : wO (setO (.ref p) (.str "turn") (.int x) a) P = P (a.put p (.dct (dD r x))) := by
  rw [o_setK g (show 4 < LIM by decide), dD_pturn]
theorem o_pow {i : Int} {a : AH} {P : PV × AH → Prop} (h0 : 0 ≤ i) (h : i < 4294967296) : wO (bPow (.int i) (.int 5) a) P = P (.int (i ^ 5), a) := by
  have e : bPow (.int i) (.int 5) a = (match (decide ((0 : Int) ≤ 5) && decide ((5 : Int) ≤ 1000000) && decide (i.natAbs < 2 ^ 64)) with | true => some (.int (i ^ (5 : Int).toNat), a) | false => none) := rfl
  rw [e, decide_eq_true (by omega : i.natAbs < 2 ^ 64)]
  rfl
theorem mulC {i j : Int} (h1 : -(2 ^ 64) < j) (h2 : j < 2 ^ 64) : cMulB i j = true := by
  unfold cMulB
  rw [decide_eq_true h1, decide_eq_true h2]
  simp
theorem mulC1 {i : Int} : cMulB i 69621 = true := mulC (by decide) (by decide)
theorem mulC2 {i : Int} : cMulB i 48271 = true := mulC (by decide) (by decide)
theorem mulC3 {i : Int} : cMulB i 2147483647 = true := mulC (by decide) (by decide)
abbrev mxI : GS := (sSet 4 (eBin bMod (eCB bInt (aCons (eBin bAdd (eBin bAdd (eBin bMul (eVar 4) (eC (.int 48271))) (eCB bInt (aCons (eVar 5) aNil))) (eC (.int 1))) aNil)) (eVar 3)))
theorem mx_inner {a : AH} {g turn found : Int} {C : List Int} {st : Int} {o5 : Option PV} {D : En} (hg : 0 < g) (hs : 0 ≤ st ∧ st < g) (gc : a.get 2 = some (.lst (iw C)))
    (k : ∀ s o, 0 ≤ s ∧ s < g → D.nx [some (.ref 1), some (.int turn), some (.int found), some (.int g), some (.int s), o] a) :
    wS (forL (gNm 5) mxI (turns a (.hl 2 0)) (.hl 2 0) [some (.ref 1), some (.int turn), some (.int found), some (.int g), some (.int st), o5] a) D := by
  have t : turns a (.hl 2 0) = (iw C).length + 1 := by
    show lenO (a.get 2) + 1 = _
    rw [gc] <;> rfl
  rw [t]
  refine w_for (fun a' => a'.get 2 = some (.lst (iw C))) (fun l ev a' => a' = a ∧ (∃ w, l = iw w) ∧ ∃ s o, (0 ≤ s ∧ s < g) ∧ ev = [some (.ref 1), some (.int turn), some (.int found), some (.int g), some (.int s), o]) (fun l ev a' z => by rw [z.1]; exact gc) ?_ ?_ (iw C) _ _ _ _ (yl_hl fun _ z => z) (Nat.lt_succ_self _) ⟨rfl, ⟨C, rfl⟩, st, o5, hs, rfl⟩
  · rintro ev a' ⟨rfl, _, s, o, hs, rfl⟩
    exact k s o hs
  · rintro v l ev a' ⟨rfl, ⟨w, hw⟩, s, o, hs, rfl⟩
    cases w with
    | nil => cases hw
    | cons c w =>
      obtain ⟨rfl, rfl⟩ := List.cons.inj hw
      rw [gw_nm, on_nx]
      dsimp only
      push_cast [mulC2, hg]
      exact ⟨⟨w, rfl⟩, _, _, ⟨Int.emod_nonneg _ (by omega), Int.emod_lt_of_pos _ hg⟩, rfl⟩
theorem mx_ok {a : AH} (h : Dw a) {Q : PV → AH → Prop} {X : EX} (k : ∀ x a', 0 ≤ x → Fr a a' → Dw a' → Q (.int x) a') : wR (F__law_mixed [.ref 1] a) Q X := by
  obtain ⟨L, e1, l1, l2⟩ := h.l
  obtain ⟨r, t, e2, r0⟩ := h.d
  obtain ⟨C, e3, c1, c2⟩ := h.c
  have hn := h.n
  unfold F__law_mixed
  refine Eq.mpr w_F ?_
  rw [if_pos (by rfl)]
  simp only [startE, List.map_cons, List.map_nil, List.length_cons, List.length_nil, Nat.reduceAdd, Nat.reduceSub, List.reduceReplicate, List.cons_append, List.nil_append]
  unfold g__law_mixed
  push_cast [↓o_ixK e2 (dD_turn r t), ↓o_setT e2]
  have g1 : (a.put 1 (.dct (dD r (t + 1)))).get 1 = some (.dct (dD r (t + 1))) := get_put_eq
  have g0 : (a.put 1 (.dct (dD r (t + 1)))).get 0 = a.get 0 := get_put_ne (by omega)
  have g2 : (a.put 1 (.dct (dD r (t + 1)))).get 2 = some (.lst (iw C)) := by rw [get_put_ne (by omega)]; exact e3
  have fr : Fr a (a.put 1 (.dct (dD r (t + 1)))) := ⟨Nat.le_refl _, fun i hi _ => get_put_ne (by omega)⟩
  have pn : (a.put 1 (.dct (dD r (t + 1)))).n = a.n := rfl
  generalize a.put 1 (.dct (dD r (t + 1))) = a1 at *
  push_cast [↓o_ixK g1 (dD_turn r (t + 1))]
  have gj : (a1.new (.lst [.int 2147483629, .int 2147483587, .int 2147483579])).get a1.n = some (.lst [.int 2147483629, .int 2147483587, .int 2147483579]) := get_new_eq
  rw [it_ref gj]
  have tn : turns (a1.new (.lst [.int 2147483629, .int 2147483587, .int 2147483579])) (.hl a1.n 0) = 4 := by
    show lenO _ + 1 = _
    rw [gj] <;> rfl
  rw [tn]
  have h1 : (a1.new (.lst [.int 2147483629, .int 2147483587, .int 2147483579])).get 1 = some (.dct (dD r (t + 1))) := by rw [get_new_lt (by omega)]; exact g1
  have h0 : (a1.new (.lst [.int 2147483629, .int 2147483587, .int 2147483579])).get 0 = a.get 0 := by rw [get_new_lt (by omega)]; exact g0
  have h2 : (a1.new (.lst [.int 2147483629, .int 2147483587, .int 2147483579])).get 2 = some (.lst (iw C)) := by rw [get_new_lt (by omega)]; exact g2
  have fr2 := fr.trans (Xt.new a1 (.lst [.int 2147483629, .int 2147483587, .int 2147483579])).fr
  have nn : 3 ≤ (a1.new (.lst [.int 2147483629, .int 2147483587, .int 2147483579])).n := by rw [new_n]; omega
  generalize a1.new (.lst [.int 2147483629, .int 2147483587, .int 2147483579]) = a2 at *
  refine w_for (fun a' => a'.get a1.n = some (.lst [.int 2147483629, .int 2147483587, .int 2147483579])) (fun l ev a' => a' = a2 ∧ (∃ w : List Int, l = iw w ∧ ∀ g ∈ w, 2147483579 ≤ g ∧ g < 4294967296) ∧ ∃ (f : Int) (o3 o4 o5 : Option PV), 0 ≤ f ∧ ev = [some (.ref 1), some (.int (t + 1)), some (.int f), o3, o4, o5]) (fun l ev a' z => by rw [z.1]; exact gj) ?_ ?_ _ _ _ _ _ (yl_hl fun _ z => z) (by simp) ⟨rfl, ⟨[2147483629, 2147483587, 2147483579], rfl, by simp⟩, 0, _, _, _, by omega, rfl⟩
  · rintro ev a' ⟨rfl, _, f, o3, o4, o5, hf, rfl⟩
    push_cast
    refine k f _ hf fr2 ⟨nn, ⟨L, by rw [h0]; exact e1, l1, l2⟩, ⟨_, _, h1, r0⟩, ⟨C, h2, c1, c2⟩⟩
  · rintro v l ev a' ⟨rfl, ⟨w, hw, hb⟩, f, o3, o4, o5, hf, rfl⟩
    cases w with
    | nil => cases hw
    | cons g w =>
      obtain ⟨rfl, rfl⟩ := List.cons.inj hw
      have bg := hb g List.mem_cons_self
      have g0' : 0 < g := by omega
      rw [gw_nm, on_nx]
      dsimp only
      push_cast [mulC1, g0', ↓o_ixK h1 (dD_cells r (t + 1))]
      refine ⟨by omega, ?_⟩
      rw [it_ref h2]
      refine mx_inner g0' ⟨Int.emod_nonneg _ (by omega), Int.emod_lt_of_pos _ g0'⟩ h2 fun s o hs => ?_
      push_cast [mulC3, ↓o_pow hs.1 (by omega), g0']
      refine ⟨⟨w, rfl, fun x hx => hb x (List.mem_cons_of_mem _ hx)⟩, _, _, _, _, ?_, rfl⟩
      have e5 := Int.emod_nonneg (s ^ 5) (show g ≠ 0 by omega)
      have : 0 ≤ f * 2147483647 := Int.mul_nonneg hf (by omega)
      omega
end VI
end
section
set_option maxRecDepth 100000
/-! Draws: numbers, items, sequences. -/
namespace VI
open PySem PySem.W PyProof.Rows

theorem mPop_at {a : AH} {i k : Nat} {j : Int} {l : List PV} {v : PV} (g : a.get i = some (.lst l)) (b : smallI j = true) (q : seqIndex? j l.length = some k) (h : l[k]? = some v) : mPop (.ref i) [.int j] a = some (v, a.put i (.lst (l.eraseIdx k))) := by
  simp only [mPop, g, b, q, atN_is, h]
theorem o_popK {a : AH} {i k : Nat} {l : List PV} {v : PV} {P : PV × AH → Prop} (g : a.get i = some (.lst l)) (h : l[k]? = some v) (hk : k ≤ 1000) : wO (mPop (.ref i) [.int k] a) P = P (v, a.put i (.lst (l.eraseIdx k))) := by
  have lt := (List.getElem?_eq_some_iff.mp h).1
  have s : seqIndex? (k : Int) l.length = some k := by
    unfold seqIndex?
    have e0 : ¬ (k : Int) < 0 := by omega
    have e1 : (k : Int) < l.length := by omega
    simp [e0, e1]
  rw [mPop_at g (smallN hk) s h, wO_some]
theorem tk_loop {a : AH} (h : Dw a) {w1 w2 : Option PV} {D : En} (k : ∀ a', Fr a a' → Dw a' → D.nx [some (.ref 1), w1, w2] a') :
    wS (whl (eAnd (eBin cEq (eBin ixO (eVar 0) (eC (.str "rest"))) (eC (.int 0))) (eBin cNe (eBin ixO (eVar 0) (eC (.str "large"))) (eLst aNil))) (sAsg (eBM 0 mPop (eBin ixO (eVar 0) (eC (.str "large"))) (aCons (eC (.int 0)) aNil)) (gSub (eVar 0) (eC (.str "rest")))) 1000 [some (.ref 1), w1, w2] a) D := by
  obtain ⟨L, e1, l1, l2⟩ := h.l
  refine w_whl (fun j ev a' => ev = [some (.ref 1), w1, w2] ∧ Fr a a' ∧ Dw a' ∧ ∃ L : List Int, a'.get 0 = some (.lst (iw L)) ∧ (∀ x ∈ L, 0 ≤ x) ∧ L.length ≤ 100 ∧ L.length = j) ?_ 1000 L.length _ _ (by omega) ⟨rfl, Fr.refl _, h, L, e1, l1, l2, rfl⟩
  rintro j ev a' ⟨rfl, F, H, L, e1, l1, l2, hj⟩
  obtain ⟨r, t, e2, r0⟩ := H.d
  have n3 := H.n
  push_cast [↓o_ixK e2 (dD_rest r t)]
  refine if_i (fun z => ?_) fun z => ?_
  · push_cast [↓o_ixK e2 (dD_large r t)]
    have g0 : (a'.new (.lst [])).get 0 = some (.lst (iw L)) := by rw [get_new_lt (by omega)]; exact e1
    have g1 : (a'.new (.lst [])).get 1 = some (.dct (dD r t)) := by rw [get_new_lt (by omega)]; exact e2
    have ge : (a'.new (.lst [])).get a'.n = some (.lst (iw [])) := get_new_eq
    have on : ∀ P : PV × AH → Prop, wO (cNe (.ref 0) (.ref a'.n) (a'.new (.lst []))) P = P (.bl (!decide (L = [])), a'.new (.lst [])) := fun P => by
      rw [cNe_lst g0 ge] <;> rfl
    push_cast [↓on]
    cases L with
    | nil =>
      refine .inl ⟨by simp, k _ (F.trans (Xt.new _ _).fr) (H.new _)⟩
    | cons c L =>
      refine .inr ⟨by simp, ?_⟩
      have H1 := H.new (.lst [])
      have F1 := F.trans (Xt.new a' (.lst [])).fr
      have op : ∀ P : PV × AH → Prop, wO (mPop (.ref 0) [.int 0] (a'.new (.lst []))) P = P (.int c, (a'.new (.lst [])).put 0 (.lst (iw L))) := fun P => o_popK (k := 0) g0 rfl (by omega)
      push_cast [↓o_ixK g1 (dD_large r t), t_lst g0, ↓op]
      have g1' : ((a'.new (.lst [])).put 0 (.lst (iw L))).get 1 = some (.dct (dD r t)) := by rw [get_put_ne (by omega)]; exact g1
      push_cast [↓o_setR g1']
      obtain ⟨C, e3, c1, c2⟩ := H1.c
      rw [List.length_cons] at l2 hj
      have lx : ∀ x ∈ L, 0 ≤ x := fun x hx => l1 x (List.mem_cons_of_mem _ hx)
      have q0 : (((a'.new (.lst [])).put 0 (.lst (iw L))).put 1 (.dct (dD c t))).get 0 = some (.lst (iw L)) := by rw [get_put_ne (by omega), get_put_eq]
      refine ⟨L.length, by omega, ⟨F1.le, fun i h3 hi => by rw [get_put_ne (by omega), get_put_ne (by omega)]; exact F1.old i h3 hi⟩, ⟨H1.n, ⟨L, q0, lx, by omega⟩, ⟨c, t, get_put_eq, l1 c List.mem_cons_self⟩, ⟨C, by rw [get_put_ne (by omega), get_put_ne (by omega)]; exact e3, c1, c2⟩⟩, L, q0, lx, by omega, rfl⟩
  · exact .inl ⟨rfl, k _ F H⟩
theorem tk_ok {a : AH} (h : Dw a) {n : Nat} (hn : 0 < n) (hn2 : n ≤ 1000) {Q : PV → AH → Prop} {X : EX} (k : ∀ (r : Nat) a', r < n → Fr a a' → Dw a' → Q (.int r) a') : wR (F__law_take [.ref 1, .int n] a) Q X := by
  have hn' : (0 : Int) < n := by omega
  have hn3 : (n : Int) < 1073741824 := by omega
  unfold F__law_take
  refine Eq.mpr w_F ?_
  rw [if_pos (by rfl)]
  simp only [startE, List.map_cons, List.map_nil, List.length_cons, List.length_nil, Nat.reduceAdd, Nat.reduceSub, List.reduceReplicate, List.cons_append, List.nil_append]
  unfold g__law_take
  push_cast
  refine tk_loop h fun a1 F1 H1 => ?_
  obtain ⟨r, t, e2, r0⟩ := H1.d
  push_cast [↓o_ixK e2 (dD_rest r t)]
  have fin : ∀ a2, Fr a a2 → Dw a2 → wS (sSeq (sSet 2 (eBin bMod (eCB bInt (aCons (eBin ixO (eVar 0) (eC (.str "rest"))) aNil)) (eVar 1)))
    (sSeq (sAsg (eBin bDiv (eCB bInt (aCons (eBin ixO (eVar 0) (eC (.str "rest"))) aNil)) (eVar 1)) (gSub (eVar 0) (eC (.str "rest"))))
    (sRet (eVar 2))) [some (.ref 1), some (.int n), none] a2) { nx := fun x a => Q .non a, rt := Q, er := fun c fs x a => X c fs a } := by
    intro a2 F2 H2
    obtain ⟨r, t, e2, r0⟩ := H2.d
    push_cast [↓o_ixK e2 (dD_rest r t), hn', hn3, ↓o_setR e2]
    have m0 := Int.emod_nonneg r (show (n : Int) ≠ 0 by omega)
    have m1 := Int.emod_lt_of_pos r hn'
    have e : r % (n : Int) = (((r % (n : Int)).toNat : Nat) : Int) := (Int.toNat_of_nonneg m0).symm
    rw [e]
    obtain ⟨L, e1, l1, l2⟩ := H2.l
    obtain ⟨C, e3, c1, c2⟩ := H2.c
    refine k _ _ (by omega) ⟨F2.le, fun i h3 hi => by rw [get_put_ne (by omega)]; exact F2.old i h3 hi⟩ ⟨H2.n, ⟨L, by rw [get_put_ne (by omega)]; exact e1, l1, l2⟩, ⟨_, _, get_put_eq, Int.ediv_nonneg r0 (by omega)⟩, ⟨C, by rw [get_put_ne (by omega)]; exact e3, c1, c2⟩⟩
  refine if_i (fun z => ?_) fun z => ?_
  · push_cast
    refine mx_ok H1 fun x a2 x0 F2 H2 => ?_
    obtain ⟨r, t, e2, r0⟩ := H2.d
    push_cast [↓o_setR e2]
    obtain ⟨L, e1, l1, l2⟩ := H2.l
    obtain ⟨C, e3, c1, c2⟩ := H2.c
    have := fin (a2.put 1 (.dct (dD x t))) ⟨Nat.le_trans F1.le F2.le, fun i h3 hi => by rw [get_put_ne (by omega)]; exact (F1.trans F2).old i h3 hi⟩ ⟨H2.n, ⟨L, by rw [get_put_ne (by omega)]; exact e1, l1, l2⟩, ⟨_, _, get_put_eq, x0⟩, ⟨C, by rw [get_put_ne (by omega)]; exact e3, c1, c2⟩⟩
    revert this
    push_cast
    exact id
  · exact fin a1 F1 H1
/-- a drawn item -/
theorem pk_ok {a : AH} (h : Dw a) {i : Nat} {l : List PV} (hi : 3 ≤ i) (hin : i < a.n) (g : a.get i = some (.lst l)) (hl : l ≠ []) (hl2 : l.length ≤ 1000) {Q : PV → AH → Prop} {X : EX} (k : ∀ v a', v ∈ l → Fr a a' → Dw a' → Q v a') : wR (F__law_pick [.ref 1, .ref i] a) Q X := by
  unfold F__law_pick
  refine Eq.mpr w_F ?_
  rw [if_pos (by rfl)]
  simp only [startE, List.map_cons, List.map_nil, List.length_cons, List.length_nil, Nat.reduceAdd, Nat.reduceSub, List.reduceReplicate, List.cons_append, List.nil_append]
  unfold g__law_pick
  push_cast [↓o_lenL g]
  have lp : 0 < l.length := List.length_pos_iff.mpr hl
  refine tk_ok h lp hl2 fun r a1 hr F1 H1 => ?_
  have g1 : a1.get i = some (.lst l) := by rw [F1.old i hi hin]; exact g
  push_cast [↓o_ixL g1]
  have e : L2.atI l (r : Int) = some l[r] := by
    unfold L2.atI L2.ixN
    rw [if_pos (by omega), if_pos (by omega)]
    show l[(r : Int).toNat]? = _
    rw [Int.toNat_natCast, List.getElem?_eq_getElem hr]
  push_cast [e]
  exact k _ _ (List.getElem_mem hr) F1 H1
end VI
end
section
set_option maxRecDepth 100000
/-! Sequences drawn; rows; skins. -/
namespace VI
open PySem PySem.W PyProof.Rows

theorem erase_perm {α : Type} : ∀ (l : List α) (k : Nat) (h : k < l.length), (l[k] :: l.eraseIdx k).Perm l
  | [], k, h => absurd h (Nat.not_lt_zero _)
  | x :: l, 0, h => List.Perm.refl _
  | x :: l, k + 1, h => by
    have hk : k < l.length := by
      rw [List.length_cons] at h
      omega
    have ih := erase_perm l k hk
    show (l[k] :: x :: l.eraseIdx k).Perm (x :: l)
    exact (List.Perm.swap x l[k] _).trans (List.Perm.cons x ih)
theorem iw_erase : ∀ (w : List Int) (k : Nat), (iw w).eraseIdx k = iw (w.eraseIdx k)
  | [], _ => rfl
  | _ :: _, 0 => rfl
  | c :: w, k + 1 => by
    have ih := iw_erase w k
    show PV.int c :: (iw w).eraseIdx k = PV.int c :: iw (w.eraseIdx k)
    rw [ih]
theorem sh_ok {a : AH} (h : Dw a) {s : Nat} {w : List Int} (hs : 3 ≤ s) (hsn : s < a.n) (g : a.get s = some (.lst (iw w))) (hw : w.length ≤ 900) {Q : PV → AH → Prop} {X : EX} (k : ∀ f u a', u.Perm w → Fr a a' → Dw a' → a.n ≤ f → f < a'.n → a'.get f = some (.lst (iw u)) → Q (.ref f) a') : wR (F__law_shuffled [.ref 1, .ref s] a) Q X := by
  have LM := LM40
  have n3 := h.n
  unfold F__law_shuffled
  refine Eq.mpr w_F ?_
  rw [if_pos (by rfl)]
  simp only [startE, List.map_cons, List.map_nil, List.length_cons, List.length_nil, Nat.reduceAdd, Nat.reduceSub, List.reduceReplicate, List.cons_append, List.nil_append]
  unfold g__law_shuffled
  push_cast [↓o_lisL g]
  have gl : ((a.new (.lst (iw w))).new (.lst [])).get a.n = some (.lst (iw w)) := by rw [get_new_lt (by rw [new_n]; omega), get_new_eq]
  have gf : ((a.new (.lst (iw w))).new (.lst [])).get (a.n + 1) = some (.lst (iw [])) := get_new_eq
  have F0 : Fr a ((a.new (.lst (iw w))).new (.lst [])) := ((Xt.new _ _).trans (Xt.new _ _)).fr
  have D0 := (h.new (.lst (iw w))).new (.lst [])
  have nn : ((a.new (.lst (iw w))).new (.lst [])).n = a.n + 2 := rfl
  have en : (a.new (.lst (iw w))).n = a.n + 1 := rfl
  rw [en]
  generalize (a.new (.lst (iw w))).new (.lst []) = a1 at *
  refine w_whl (fun j ev a' => ∃ lw fw, ev = [some (.ref 1), some (.ref s), some (.ref a.n), some (.ref (a.n + 1))] ∧ Fr a a' ∧ Dw a' ∧ a.n + 2 ≤ a'.n ∧ a'.get a.n = some (.lst (iw lw)) ∧ a'.get (a.n + 1) = some (.lst (iw fw)) ∧ (fw ++ lw).Perm w ∧ lw.length = j) ?_ 1000 w.length _ _ (by omega) ⟨w, [], rfl, F0, D0, by omega, gl, gf, List.Perm.refl _, rfl⟩
  rintro j ev a' ⟨lw, fw, rfl, F, H, nn, gl, gf, pm, hj⟩
  have gl1 : (a'.new (.lst [])).get a.n = some (.lst (iw lw)) := by rw [get_new_lt (by omega)]; exact gl
  have gf1 : (a'.new (.lst [])).get (a.n + 1) = some (.lst (iw fw)) := by rw [get_new_lt (by omega)]; exact gf
  have on : ∀ P : PV × AH → Prop, wO (cNe (.ref a.n) (.ref a'.n) (a'.new (.lst []))) P = P (.bl (!decide (lw = [])), a'.new (.lst [])) := fun P => by
    rw [cNe_lst gl1 (show (a'.new (.lst [])).get a'.n = some (.lst (iw [])) from get_new_eq)] <;> rfl
  have F1 := F.trans (Xt.new a' (.lst [])).fr
  have H1 := H.new (.lst [])
  have n1 : (a'.new (.lst [])).n = a'.n + 1 := rfl
  push_cast [↓on]
  generalize a'.new (.lst []) = a2 at *
  have pl := pm.length_eq
  rw [List.length_append] at pl
  by_cases z : lw = []
  · subst z
    refine .inl ⟨by simp, ?_⟩
    exact k _ fw _ (by simpa using pm) F1 H1 (by omega) (by omega) gf1
  · refine .inr ⟨by simp [z], ?_⟩
    have lp : 0 < lw.length := List.length_pos_iff.mpr z
    push_cast [t_lst gf1, t_lst gl1, ↓o_lenL gl1]
    refine tk_ok H1 lp (by omega) fun r a3 hr F3 H3 => ?_
    have gl3 : a3.get a.n = some (.lst (iw lw)) := by rw [F3.old _ (by omega) (by omega)]; exact gl1
    have gf3 : a3.get (a.n + 1) = some (.lst (iw fw)) := by rw [F3.old _ (by omega) (by omega)]; exact gf1
    have ex : (iw lw)[r]? = some (.int lw[r]) := by
      unfold iw
      rw [List.getElem?_map, List.getElem?_eq_getElem hr] <;> rfl
    push_cast [↓o_popK gl3 ex (show r ≤ 1000 by omega)]
    have gf4 : (a3.put a.n (.lst ((iw lw).eraseIdx r))).get (a.n + 1) = some (.lst (iw fw)) := by rw [get_put_ne (by omega)]; exact gf3
    push_cast [↓o_app gf4 (show (iw fw).length < LIM by rw [iw_len]; omega)]
    have le3 := F3.le
    refine ⟨(lw.eraseIdx r).length, by rw [List.length_eraseIdx_of_lt hr]; omega, lw.eraseIdx r, fw ++ [lw[r]], ?_, (H3.put (by omega) _).put (by omega) _, by rw [put_n, put_n]; omega, by rw [get_put_ne (by omega), get_put_eq, iw_erase], by rw [get_put_eq, iw_one], ?_, rfl⟩
    · have F4 := F1.trans F3
      exact ⟨F4.le, fun i h3 hi => by rw [get_put_ne (by omega), get_put_ne (by omega)]; exact F4.old i h3 hi⟩
    · rw [List.append_assoc]
      exact (List.Perm.append_left fw (erase_perm lw r hr)).trans pm
/-- whole numbers from 0 on -/
def upTo (n : Nat) : List Int := (List.range n).map fun i => ((i : Nat) : Int)
theorem ints_mem {n : Nat} {c : Int} : c ∈ upTo n ↔ 0 ≤ c ∧ c < n := by
  unfold upTo
  rw [List.mem_map]
  constructor
  · rintro ⟨i, hi, rfl⟩
    have := List.mem_range.mp hi
    omega
  · intro q
    exact ⟨c.toNat, List.mem_range.mpr (by omega), by omega⟩
theorem ints_nd (n : Nat) : (upTo n).Nodup := by
  unfold upTo
  rw [List.nodup_iff_pairwise_ne, List.pairwise_map]
  exact (List.nodup_iff_pairwise_ne.mp List.nodup_range).imp fun {a b} ne z => ne (by exact_mod_cast z)
theorem ints_len (n : Nat) : (upTo n).length = n := by simp [upTo]
/-- a row as Skin wants it -/
structure RP (row : List Int) : Prop where
  pm : row.Perm (upTo row.length)
  ev : row.length % 2 = 0
  lo : 2 ≤ row.length
  hi : row.length ≤ 12
theorem RP.rw {row : List Int} (h : RP row) (lo : 4 ≤ row.length) : RW row :=
  ⟨h.pm.nodup_iff.mpr (ints_nd _), fun c => by rw [h.pm.mem_iff, ints_mem], h.ev, lo, h.hi⟩
theorem rp_of {u : List Int} {n : Nat} (hn : 1 ≤ n) (hn2 : n ≤ 6) (p : u.Perm ((List.range (2 * n - 1)).map fun i => (1 : Int) + (i : Nat))) : RP (0 :: u) ∧ (0 :: u).length = 2 * n := by
  have l : u.length = 2 * n - 1 := by rw [p.length_eq]; simp
  have l2 : (0 :: u).length = 2 * n := by rw [List.length_cons]; omega
  refine ⟨⟨?_, by omega, by omega, by omega⟩, l2⟩
  have e : upTo (0 :: u).length = 0 :: ((List.range (2 * n - 1)).map fun i => (1 : Int) + (i : Nat)) := by
    rw [l2]
    have e2 : 2 * n = (2 * n - 1) + 1 := by omega
    unfold upTo
    rw [e2, List.range_succ_eq_map, List.map_cons, List.map_map]
    congr 1
    refine List.map_congr_left fun i _ => ?_
    show ((i + 1 : Nat) : Int) = 1 + (i : Nat)
    omega
  rw [e]
  exact List.Perm.cons 0 p
theorem mulC0 {j : Int} : cMulB 2 j = true := by
  unfold cMulB
  simp
theorem sI1 : smallI 1 = true := by
  rw [show (1 : Int) = ((1 : Nat) : Int) from rfl]
  exact smallN (by omega)
theorem rg_ok {n : Nat} (hn2 : n ≤ 6) : rgOkB 1 (2 * (n : Int)) = true := by
  have LM := LM40
  unfold rgOkB
  have e2 : smallI (2 * (n : Int)) = true := by
    rw [show 2 * (n : Int) = ((2 * n : Nat) : Int) by omega]
    exact smallN (by omega)
  rw [sI1, e2, Bool.true_and, Bool.true_and]
  exact Nat.ble_eq_true_of_le (by omega)
theorem rgP_is {n : Nat} : rgP 1 (2 * (n : Int)) = iw ((List.range (2 * n - 1)).map fun i => (1 : Int) + (i : Nat)) := by
  unfold rgP iw
  rw [List.map_map, show (2 * (n : Int) - 1).toNat = 2 * n - 1 by omega] <;> rfl
theorem o_mul2 {n : Nat} {a : AH} {P : PV × AH → Prop} : wO (bMul (.int 2) (.int n) a) P = P (.int (2 * (n : Int)), a) := by
  rw [o_mul, mulC0]
  simp
section
theorem rw_ok {a : AH} (h : Dw a) {n : Nat} (hn : 1 ≤ n) (hn2 : n ≤ 6) {Q : PV → AH → Prop} {X : EX} (k : ∀ u a', RP (0 :: u) → (0 :: u).length = 2 * n → Fr a a' → Dw a' → Q (.tup (iw (0 :: u))) a') : wR (F__law_row [.ref 1, .int n] a) Q X := by
  have LM := LM40
  have n3 := h.n
  unfold F__law_row
  refine Eq.mpr w_F ?_
  rw [if_pos (by rfl)]
  simp only [startE, List.map_cons, List.map_nil, List.length_cons, List.length_nil, Nat.reduceAdd, Nat.reduceSub, List.reduceReplicate, List.cons_append, List.nil_append]
  unfold g__law_row
  have rg := rg_ok hn2
  push_cast [mulC0, rg]
  rw [rgP_is]
  refine sh_ok (w := (List.range (2 * n - 1)).map fun i => (1 : Int) + (i : Nat)) (h.new _) n3 (Nat.lt_succ_self _) get_new_eq (by rw [List.length_map, List.length_range]; omega) fun f u a2 p F2 H2 hf1 hf2 g2 => ?_
  push_cast [↓o_tupL g2]
  obtain ⟨R, l⟩ := rp_of hn hn2 p
  have lu : u.length = 2 * n - 1 := by rw [List.length_cons] at l; omega
  refine ⟨by omega, ?_⟩
  exact k u a2 R l ((Xt.new _ _).fr.trans F2) H2
end
end VI
end
section
set_option maxRecDepth 100000
/-! Skins made. -/
namespace VI
open PySem PySem.W PyProof.Rows

def leI (i j : Int) : Bool := dataLe false Prod.fst (iP i) (iP j)
theorem leI_is (i j : Int) : leI i j = decide (i ≤ j) := by
  have e : leI i j = dataLe false (fun k : Int => PyData.int k) i j := rfl
  rw [e, dataLe_int]
theorem ins1_pw (x : Int) : ∀ l : List Int, l.Pairwise (· ≤ ·) → (ins1 leI x l).Pairwise (· ≤ ·)
  | [], _ => by simp [ins1]
  | y :: l, h => by
    have q := List.pairwise_cons.mp h
    show (match leI x y with | true => x :: y :: l | false => y :: ins1 leI x l).Pairwise (· ≤ ·)
    rw [leI_is]
    by_cases z : x ≤ y
    · rw [decide_eq_true z]
      refine List.pairwise_cons.mpr ⟨fun w hw => ?_, h⟩
      rcases List.mem_cons.mp hw with rfl | hw
      · exact z
      · exact Int.le_trans z (q.1 w hw)
    · rw [decide_eq_false z]
      refine List.pairwise_cons.mpr ⟨fun w hw => ?_, ins1_pw x l q.2⟩
      have m := (ins1_perm leI x l).mem_iff.mp hw
      rcases List.mem_cons.mp m with rfl | m
      · omega
      · exact q.1 w m
theorem isort_pw : ∀ l : List Int, (isort leI l).Pairwise (· ≤ ·)
  | [] => List.Pairwise.nil
  | x :: l => ins1_pw x _ (isort_pw l)
theorem upTo_pw (n : Nat) : (upTo n).Pairwise (· ≤ ·) := by
  unfold upTo
  rw [List.pairwise_map]
  refine (List.pairwise_lt_range (n := n)).imp fun {a b} h => ?_
  omega
theorem srtI_up {row : List Int} {n : Nat} (h : row.Perm (upTo n)) : srtI row = upTo n := by
  have p : (srtI row).Perm (upTo n) := (isort_perm _ row).trans h
  refine List.Perm.eq_of_pairwise (le := (· ≤ ·)) (fun a b _ _ h1 h2 => by omega) (isort_pw row) (upTo_pw n) p
theorem cEq_lst {a : AH} {i j : Nat} {w u : List Int} (h : a.get i = some (.lst (iw w))) (g : a.get j = some (.lst (iw u))) : cEq (.ref i) (.ref j) a = some (.bl (decide (w = u)), a) := by
  unfold cEq
  rw [show DEP = 18 + 2 from rfl, toD_lst 18 h, toD_lst 18 g]
  show some (PV.bl (PyData.eqv (.list (w.map PyData.int)) (.list (u.map PyData.int))), a) = _
  rw [PyData.eqv, eqvAll_ints]
theorem rg0_ok {n : Nat} (h : n ≤ 1000) : rgOkB 0 (n : Int) = true := by
  have LM := LM40
  unfold rgOkB
  have e1 : smallI 0 = true := by
    rw [show (0 : Int) = ((0 : Nat) : Int) from rfl]
    exact smallN (by omega)
  rw [e1, smallN h, Bool.true_and, Bool.true_and]
  exact Nat.ble_eq_true_of_le (by omega)
theorem rgP0_is {n : Nat} : rgP 0 (n : Int) = iw (upTo n) := by
  unfold rgP iw upTo
  rw [List.map_map, show ((n : Int) - 0).toNat = n by omega]
  refine List.map_congr_left fun i _ => ?_
  show PV.int (0 + (i : Nat)) = .int (i : Nat)
  rw [Int.zero_add]
section
variable {a : AH} {Q : PV → AH → Prop} {X : EX}
theorem sil_ok {l : List PV} : wR (F_is_list [.tup l] a) Q X = Q (.bl true) a := by
  apply propext
  unfold F_is_list
  rw [w_F' (by rfl)]
  simp only [startE, List.map_cons, List.map_nil, List.length_cons, List.length_nil, Nat.reduceAdd, Nat.reduceSub, List.reduceReplicate, List.cons_append, List.nil_append]
  unfold g_is_list
  have e : isV fIsSeq [] [] a (.tup l) = some true := rfl
  push_cast [e]
theorem sq_ok {row : List Int} (h : RP row) (k : ∀ a', Xt a a' → Q (.bl true) a') : wR (F_is_sequence [.tup (iw row), .int row.length] a) Q X := by
  have LM := LM40
  have hi := h.hi
  unfold F_is_sequence
  refine Eq.mpr w_F ?_
  rw [if_pos (by rfl)]
  simp only [startE, List.map_cons, List.map_nil, List.length_cons, List.length_nil, Nat.reduceAdd, Nat.reduceSub, List.reduceReplicate, List.cons_append, List.nil_append]
  unfold g_is_sequence
  push_cast [↓sil_ok]
  refine lc_use (fun _ => true) (fun v => .bl (inr row v)) (iw row) (yl_seq _) rfl (by rw [iw_len]; omega) (fun v hv a1 x1 => ⟨_, rfl, ?_⟩) fun a1 x1 n1 g1 => ?_
  · have nv := nr_iw v hv
    push_cast
    refine ⟨Xt.refl _, fun _ => ?_⟩
    push_cast [↓bt_ok nv]
    exact Xt.refl _
  · rw [pick2_T] at g1
    have g2 : a1.get a.n = some (.lst (((iw row).map (inr row)).map .bl)) := by
      rw [g1, List.map_map] <;> rfl
    push_cast [↓o_all g2]
    have lw : LW row row := fun c hc => by
      have := (h.pm.mem_iff.mp hc)
      exact ints_mem.mp this
    have e2 : ((iw row).map (inr row)).all id = true := by
      rw [List.all_map]
      exact all_iw lw
    rw [e2]
    have rg := rg0_ok (n := row.length) (by omega)
    push_cast [↓o_sortT, rg]
    rw [rgP0_is]
    have e3 := cEq_lst (a := (a1.new (.lst (iw (srtI row)))).new (.lst (iw (upTo row.length)))) (i := a1.n) (j := (a1.new (.lst (iw (srtI row)))).n) (w := srtI row) (u := upTo row.length) (by rw [get_new_lt (Nat.lt_succ_self _), get_new_eq]) get_new_eq
    rw [e3, wO_some, srtI_up h.pm, decide_eq_true rfl]
    exact k _ ((x1.trans (Xt.new _ _)).trans (Xt.new _ _))
theorem irw_ok {row : List Int} (h : RP row) (k : ∀ a', Xt a a' → Q (.bl true) a') : wR (F_is_row [.tup (iw row)] a) Q X := by
  have hi := h.hi
  have lo := h.lo
  have ev := h.ev
  unfold F_is_row
  refine Eq.mpr w_F ?_
  rw [if_pos (by rfl)]
  simp only [startE, List.map_cons, List.map_nil, List.length_cons, List.length_nil, Nat.reduceAdd, Nat.reduceSub, List.reduceReplicate, List.cons_append, List.nil_append]
  unfold g_is_row
  push_cast [↓sil_ok]
  refine if_t (by rw [decide_eq_true_iff]; omega) ?_
  push_cast
  refine if_f (by rw [Bool.not_eq_false', decide_eq_true_iff]; omega) ?_
  push_cast
  refine ⟨by omega, if_f (by rw [decide_eq_false_iff_not]; omega) ?_⟩
  push_cast
  exact sq_ok h k
theorem o_idxL {i : Nat} {row : List Int} {j : Int} {P : PV × AH → Prop} (g : a.get i = some (.lst (iw row))) (h : j ∈ row) : wO (mIndexL (.ref i) [.int j] a) P = P (.int (row.idxOf j : Nat), a) := by
  have e : mIndexL (.ref i) [.int j] a = (match oneS [.ref i] a with
    | some l => (match allInt l with
      | some ns => (match ns.contains j with
        | true => some (.int (ns.idxOf j : Nat), a)
        | false => none)
      | none => none)
    | none => none) := rfl
  have e2 : oneS [.ref i] a = some (iw row) := by simp only [oneS, g]
  have hc : row.contains j = true := by simpa using h
  rw [e, e2]
  show wO (match allInt (iw row) with
      | some ns => (match ns.contains j with
        | true => some (.int (ns.idxOf j : Nat), a)
        | false => none)
      | none => none) P = _
  rw [allInt_iw]
  show wO (match row.contains j with | true => some (.int (row.idxOf j : Nat), a) | false => none) P = _
  rw [hc] <;> rfl
theorem o_setF {i : Nat} {f : Str} {v : PV} {fs : List (Str × PV)} {P : AH → Prop} (g : a.get i = some (.ins "Skin" fs)) (h : fs.length < 1000) : wO (setF ["Skin"] f (.ref i) v a) P = P (a.put i (.ins "Skin" (fput f v fs))) := by
  have e : setF ["Skin"] f (.ref i) v a = some (a.put i (.ins "Skin" (fput f v fs))) := by
    simp only [setF, g]
    have e1 : isIn "Skin" ["Skin"] = true := rfl
    rw [e1, show Nat.blt fs.length 1000 = true from Nat.ble_eq_true_of_le h] <;> rfl
  rw [e, wO_some]
theorem sk_ok {u : List Int} (h : RP (0 :: u)) (k : ∀ a', Xt a a' → SkH a' a.n (0 :: u) → Q (.ref a.n) a') : wR (F_Skin [.ref a.n, .tup (iw (0 :: u))] (a.new (.ins "Skin" []))) (mkW a.n Q) X := by
  have LM := LM40
  have hi := h.hi
  unfold F_Skin
  refine Eq.mpr w_F ?_
  rw [if_pos (by rfl)]
  simp only [startE, List.map_cons, List.map_nil, List.length_cons, List.length_nil, Nat.reduceAdd, Nat.reduceSub, List.reduceReplicate, List.cons_append, List.nil_append]
  unfold g_Skin
  push_cast
  refine irw_ok h fun a1 x1 => ?_
  have g0 : a1.get a.n = some (.ins "Skin" []) := by rw [x1.old _ (Nat.lt_succ_self _)]; exact get_new_eq
  have n1 := x1.le
  rw [new_n] at n1
  have gl : (a1.new (.lst (iw (0 :: u)))).get a1.n = some (.lst (iw (0 :: u))) := get_new_eq
  push_cast [t_lst gl, ↓o_idxL gl List.mem_cons_self]
  have ei : (List.idxOf 0 (0 :: u) : Nat) = 0 := by simp
  rw [ei]
  have c1 : cutP (iw (0 :: u)) (some ((0 : Nat) : Int)) none = iw (0 :: u) := cut_lo (k := 0) (by omega)
  have c2 : cutP (iw (0 :: u)) none (some ((0 : Nat) : Int)) = [] := by
    rw [cut_hi (k := 0) (by omega)] <;> rfl
  push_cast [c1, c2]
  have ga : (a1.new (.lst (iw (0 :: u)))).get a.n = some (.ins "Skin" []) := by rw [get_new_lt (by omega)]; exact g0
  refine ⟨by show u.length + 1 + 0 ≤ LIM; rw [List.length_cons] at hi; omega, ?_⟩
  rw [List.append_nil]
  push_cast [↓o_setF ga (show (0 : Nat) < 1000 by omega)]
  have gb : ((a1.new (.lst (iw (0 :: u)))).put a.n (.ins "Skin" [("row", .tup (iw (0 :: u)))])).get a.n = some (.ins "Skin" [("row", .tup (iw (0 :: u)))]) := get_put_eq
  have ef : fput "row" (.tup (iw (0 :: u))) [] = ([("row", .tup (iw (0 :: u)))] : List (Str × PV)) := rfl
  rw [ef]
  have d2 : (0 : Int) < 2 ∧ (2 : Int) < 1073741824 := by omega
  push_cast [d2, ↓o_setF gb (show (1 : Nat) < 1000 by omega)]
  have ef2 : ∀ v : PV, fput "bands" v ([("row", .tup (iw (0 :: u)))] : List (Str × PV)) = ([("row", .tup (iw (0 :: u))), ("bands", v)] : List (Str × PV)) := fun _ => rfl
  rw [ef2]
  refine k _ ?_ ⟨by rw [put_n, put_n, new_n]; omega, ?_⟩
  · have y : Xt a (a1.new (.lst (iw (0 :: u)))) := (Xt.new a _).trans (x1.trans (Xt.new _ _))
    exact (y.put (Nat.le_refl _) _).put (Nat.le_refl _) _
  · rw [get_put_eq]
    unfold skO
    have : ((List.length u + 1 : Nat) : Int) / 2 = (((0 :: u).length / 2 : Nat) : Int) := by
      rw [List.length_cons]
      omega
    rw [this]
end
end VI
end
section
set_option maxRecDepth 100000
/-! Walked about. -/
namespace VI
open PySem PySem.W PyProof.Rows

/-- a triple on a row -/
structure Tv (row : List Int) (t : Trp) : Prop where
  s : t.1 < row.length
  e : t.2.2 < row.length
  w : LW row t.2.1
theorem Tv.turn {row : List Int} (h : RW row) {t : Trp} (T : Tv row t) : Tv row (t.2.2, und t.2.1, t.1) := ⟨T.e, T.s, lw_und h T.w⟩
abbrev BT3 (row : List Int) (t : Trp) : Option Trp := BR row t.1 t.2.1 t.2.2
theorem wk_some {row : List Int} {g : Nat} {c : Int} (hg : g < row.length) (hc : c ∈ [row.getD g 0, row.getD (prv row.length g) 0]) : ∃ k, wk row g c = some k := by
  cases z : wk row g c with
  | some k => exact ⟨k, rfl⟩
  | none => exact absurd hc ((wk_none hg).mp z)
theorem lt_beside {row : List Int} (h : RW row) {g : Nat} {c : Int} (hg : g < row.length) (hc : c ∈ [row.getD g 0, row.getD (prv row.length g) 0]) : Lt row c := by
  rcases List.mem_cons.mp hc with rfl | hc
  · exact (at_lt h hg).1
  · rcases List.mem_cons.mp hc with rfl | hc
    · exact (at_lt h (h.prv_lt hg)).1
    · cases hc
section
theorem wkd_ok {row : List Int} (h : RW row) {a : AH} (H : Dw a) {t : Trp} (T : Tv row t) (hl : t.2.1.length ≤ 400) {M : Nat} (hM : M ≤ 400) {Q : PV → AH → Prop} {X : EX} (k : ∀ t' a', Tv row t' → BT3 row t' = BT3 row t → t'.2.1.length ≤ max t.2.1.length M → Fr a a' → Dw a' → Q (tri t') a') : wR (F__law_walked [.ref 1, .tup (iw row), tri t, .int M] a) Q X := by
  have LM := LM40
  have n3 := H.n
  unfold F__law_walked
  refine Eq.mpr w_F ?_
  rw [if_pos (by rfl)]
  simp only [startE, List.map_cons, List.map_nil, List.length_cons, List.length_nil, Nat.reduceAdd, Nat.reduceSub, List.reduceReplicate, List.cons_append, List.nil_append]
  unfold g__law_walked
  have et : tri t = .tup [.int t.1, .tup (iw t.2.1), .int t.2.2] := rfl
  rw [et]
  push_cast
  refine pk_ok (H.new _) n3 (Nat.lt_succ_self _) get_new_eq (by simp) (by simp) fun v a1 hv F1 H1 => ?_
  have F1 := (Xt.new a (.lst [.int 0, .int 1, .int 6, .int 20])).fr.trans F1
  have hv2 : ∃ n : Nat, v = .int n ∧ n ≤ 20 := by
    simp only [List.mem_cons, List.not_mem_nil, or_false] at hv
    rcases hv with rfl | rfl | rfl | rfl
    · exact ⟨0, rfl, by omega⟩
    · exact ⟨1, rfl, by omega⟩
    · exact ⟨6, rfl, by omega⟩
    · exact ⟨20, rfl, by omega⟩
  obtain ⟨n, rfl, hn⟩ := hv2
  have sn := smallN (n := n) (by omega)
  push_cast [sn]
  rw [Int.toNat_natCast]
  refine w_for (fun _ => True) (fun l ev a' => ∃ t' o7 o8 o9 o10, ev = [some (.ref 1), some (.tup (iw row)), some (.tup [.int t.1, .tup (iw t.2.1), .int t.2.2]), some (.int M), some (.int t'.1), some (.tup (iw t'.2.1)), some (.int t'.2.2), o7, o8, o9, o10] ∧ Fr a a' ∧ Dw a' ∧ Tv row t' ∧ BT3 row t' = BT3 row t ∧ t'.2.1.length ≤ max t.2.1.length M) (fun _ _ _ _ => trivial) ?_ ?_ _ _ _ _ _ (yl_rg n 0) (by simp [turns]) ⟨t, _, _, _, _, rfl, F1, H1, T, rfl, by omega⟩
  · rintro ev a' ⟨t', o7, o8, o9, o10, rfl, F, H', T', eB, bl⟩
    push_cast
    exact k t' a' T' eB bl F H'
  · rintro v l ev a' ⟨t', o7, o8, o9, o10, rfl, F, H', T', eB, bl⟩
    have n3' := H'.n
    rw [gw_nm, on_nx]
    push_cast [at_nat T'.s, at_pv T'.s]
    refine pk_ok (H'.new _) n3' (Nat.lt_succ_self _) get_new_eq (by simp) (by simp) fun v2 a2 hv F2 H2 => ?_
    have F2 := F.trans ((Xt.new a' (.lst [.int (row.getD t'.1 0), .int (row.getD (prv row.length t'.1) 0)])).fr.trans F2)
    have hv2 : ∃ c, v2 = .int c ∧ c ∈ [row.getD t'.1 0, row.getD (prv row.length t'.1) 0] := by
      simp only [List.mem_cons, List.not_mem_nil, or_false] at hv
      rcases hv with rfl | rfl
      · exact ⟨_, rfl, by simp⟩
      · exact ⟨_, rfl, by simp⟩
    obtain ⟨c, rfl, hc⟩ := hv2
    have lc := lt_beside h T'.s hc
    obtain ⟨g, hg⟩ := wk_some T'.s hc
    push_cast
    rw [wk_ok' T'.s (h.x1m lc), hg]
    push_cast
    refine ⟨by omega, ?_⟩
    have ew : ([.int (x1 c)] ++ iw t'.2.1 : List PV) = iw (x1 c :: t'.2.1) := rfl
    rw [ew]
    have lw2 : LW row (x1 c :: t'.2.1) := lw_cons.mpr ⟨h.x1_lt lc, T'.w⟩
    refine wR_of (frd_ok _ (by rw [List.length_cons]; omega) _) fun a3 x3 => ?_
    have F3 := F2.trans x3.fr
    have H3 := H2.xt x3
    push_cast
    have fl := frd_len (x1 c :: t'.2.1)
    rw [List.length_cons] at fl
    -- what comes of the choice
    have go : ∀ (D : En) (t2 : Trp) (o9 o10 : Option PV), Tv row t2 → BT3 row t2 = BT3 row t → t2.2.1.length ≤ max t.2.1.length M →
        (∀ (a' : AH) (t' : Trp) (o7 o8 o9 o10 : Option PV), Fr a a' → Dw a' → Tv row t' → BT3 row t' = BT3 row t → t'.2.1.length ≤ max t.2.1.length M → D.nx [some (.ref 1), some (.tup (iw row)), some (.tup [.int t.1, .tup (iw t.2.1), .int t.2.2]), some (.int M), some (.int t'.1), some (.tup (iw t'.2.1)), some (.int t'.2.2), o7, o8, o9, o10] a') →
        wS (sIf (eBin cEq (eCall F__law_take (aCons (eVar 0) (aCons (eC (.int 2)) aNil))) (eC (.int 0)))
          (sPar3 4 5 6 (aCons (eVar 6) (aCons (eCall F__law_undone (aCons (eVar 5) aNil)) (aCons (eVar 4) aNil)))) sNil
          [some (.ref 1), some (.tup (iw row)), some (.tup [.int t.1, .tup (iw t.2.1), .int t.2.2]), some (.int M), some (.int t2.1), some (.tup (iw t2.2.1)), some (.int t2.2.2), some v, some (.int c), o9, o10] a3) D := by
      intro D t2 o9 o10 T2 e2 b2 kD
      push_cast
      refine tk_ok (n := 2) H3 (by omega) (by omega) fun r a4 hr F4 H4 => ?_
      push_cast
      refine if_i (fun z => ?_) fun z => ?_
      · push_cast
        refine wR_of (und_ok _ (by omega) _) fun a5 x5 => ?_
        push_cast
        refine kD a5 (t2.2.2, und t2.2.1, t2.1) _ _ _ _ ((F3.trans F4).trans x5.fr) (H4.xt x5) (T2.turn h) ?_ (by rw [und_len]; exact b2)
        show BR row t2.2.2 (und t2.2.1) t2.1 = _
        rw [BR_turn h T2.w T2.s T2.e]
        exact e2
      · push_cast
        exact kD a4 t2 _ _ _ _ (F3.trans F4) H4 T2 e2 b2
    by_cases hb : (frd (x1 c :: t'.2.1)).length ≤ M
    · refine if_t (by rw [decide_eq_true_iff]; omega) ?_
      have q := fun D => go D (g, frd (x1 c :: t'.2.1), t'.2.2) (some (.int g)) (some (.tup (iw (frd (x1 c :: t'.2.1))))) ⟨h.wk_lt' T'.s lc hg, T'.e, lw_frd h lw2⟩ (by
        show BR row g (frd (x1 c :: t'.2.1)) t'.2.2 = _
        rw [BR_walk h T'.w T'.s lc hg]
        exact eB) (by show (frd (x1 c :: t'.2.1)).length ≤ _; omega)
      rw [s_par', w_cons, w_var, show slot _ 9 = some (PV.int g) from rfl, wO_some, w_cons, w_var, show slot _ 10 = some (PV.tup (iw (frd (x1 c :: t'.2.1)))) from rfl, wO_some, w_nil, par2W_i]
      exact q _ fun a' t' o7 o8 o9 o10 F H T e b => ⟨t', o7, o8, o9, o10, rfl, F, H, T, e, b⟩
    · refine if_f (by rw [decide_eq_false_iff_not]; omega) ?_
      exact go _ t' _ _ T' eB bl fun a' t' o7 o8 o9 o10 F H T e b => ⟨t', o7, o8, o9, o10, rfl, F, H, T, e, b⟩
end
end VI
end
section
set_option maxRecDepth 100000
/-! Words and triples drawn. -/
namespace VI
open PySem PySem.W PyProof.Rows

def notIn (B : List Int) : PV → Bool
  | .int i => !decide (i ∈ B)
  | _ => false
theorem pick_iw (B : List Int) : ∀ w : List Int, pick2 (notIn B) id (iw w) = iw (w.filter fun i => !decide (i ∈ B))
  | [] => rfl
  | c :: w => by
    have ih := pick_iw B w
    show (match !decide (c ∈ B) with | true => PV.int c :: pick2 (notIn B) id (iw w) | false => pick2 (notIn B) id (iw w)) = _
    rw [ih, List.filter_cons]
    cases !decide (c ∈ B) <;> rfl
theorem rg_iw (n : Nat) : ((List.range n).map fun i => PV.int (0 + (i : Nat))) = iw (upTo n) := by
  unfold iw upTo
  rw [List.map_map]
  refine List.map_congr_left fun i _ => ?_
  show PV.int (0 + (i : Nat)) = .int (i : Nat)
  rw [Int.zero_add]
theorem drop_rg {n k : Nat} {v : PV} {l : List PV} (h : v :: l = (iw (upTo n)).drop k) : k < n ∧ v = .int k ∧ l = (iw (upTo n)).drop (k + 1) := by
  have hk : k < (iw (upTo n)).length := by
    have := congrArg List.length h
    rw [List.length_cons, List.length_drop] at this
    omega
  have hn : k < n := by rw [iw_len, ints_len] at hk; exact hk
  rw [List.drop_eq_getElem_cons hk] at h
  obtain ⟨e1, e2⟩ := List.cons.inj h
  refine ⟨hn, ?_, e2⟩
  rw [e1]
  unfold iw upTo
  simp
theorem o_addL {a : AH} {i j : Nat} {l m : List PV} {P : PV × AH → Prop} (g : a.get i = some (.lst l)) (g2 : a.get j = some (.lst m)) (h : l.length + m.length ≤ LIM) : wO (bAdd (.ref i) (.ref j) a) P = P (.ref a.n, a.new (.lst (l ++ m))) := by
  have e : bAdd (.ref i) (.ref j) a = some (.ref a.n, a.new (.lst (l ++ m))) := by
    simp only [bAdd, g, g2, h, if_true]
  rw [e, wO_some]
def wdA : GS := (sSet 5 (eIf (eBin cGt (eVar 4) (eC (.int 0))) (eLst (aCons (eBin bXor (eBin ixO (eVar 3) (eBin bSub (eVar 4) (eC (.int 1)))) (eC (.int 1))) aNil)) (eLst aNil)))
def wdB : GS := (sIf (eAnd (eBin cEq (eVar 4) (eBin bSub (eVar 2) (eC (.int 1)))) (eBin cGt (eVar 4) (eC (.int 0)))) (sSet 5 (eBin bAdd (eVar 5) (eLst (aCons (eBin bXor (eBin ixO (eVar 3) (eC (.int 0))) (eC (.int 1))) aNil)))) sNil)
def wdR : GS := (sSeq (sSet 6 (eLc [7] (fRng1 (aCons (eBin bMul (eC (.int 2)) (eVar 1)) aNil)) (bNm 7) (eBin (cIn true) (eVar 7) (eVar 5)) (eVar 7)))
            (sSeq (sIf (eBin cEq (eVar 6) (eLst aNil)) (sRet (eCB bTuple (aCons (eVar 3) aNil))) sNil)
            (sDrop (eBM 0 mAppend (eVar 3) (aCons (eCall F__law_pick (aCons (eVar 0) (aCons (eVar 6) aNil))) aNil)))))
section
theorem wd_ok {row : List Int} (h : RW row) {a : AH} (H : Dw a) {n M : Nat} (hn : row.length = 2 * n) (hM : M ≤ 200) {Q : PV → AH → Prop} {X : EX} (k : ∀ w a', LW row w → w.length ≤ M → Fr a a' → Dw a' → Q (.tup (iw w)) a') : wR (F__law_word [.ref 1, .int n, .int M] a) Q X := by
  have LM := LM40
  have n3 := H.n
  have hi := h.hi
  unfold F__law_word
  refine Eq.mpr w_F ?_
  rw [if_pos (by rfl)]
  simp only [startE, List.map_cons, List.map_nil, List.length_cons, List.length_nil, Nat.reduceAdd, Nat.reduceSub, List.reduceReplicate, List.cons_append, List.nil_append]
  unfold g__law_word
  have sM := smallN (n := M) (by omega)
  push_cast [sM]
  rw [Int.toNat_natCast]
  have x0 := Xt.new a (.lst [])
  have g0 : (a.new (.lst [])).get a.n = some (.lst (iw [])) := get_new_eq
  have n0 : a.n < (a.new (.lst [])).n := Nat.lt_succ_self _
  have H0 := H.new (.lst [])
  generalize a.new (.lst []) = a1 at *
  have yl := yl_rg (P := fun _ => True) M 0
  rw [rg_iw] at yl
  refine w_for (fun _ => True) (fun l ev a' => ∃ w o4 o5 o6 o7, l = (iw (upTo M)).drop w.length ∧ w.length ≤ M ∧ ev = [some (.ref 1), some (.int n), some (.int M), some (.ref a.n), o4, o5, o6, o7] ∧ Fr a a' ∧ Dw a' ∧ a.n < a'.n ∧ a'.get a.n = some (.lst (iw w)) ∧ LW row w) (fun _ _ _ _ => trivial) ?_ ?_ _ _ _ _ _ yl (by rw [iw_len, ints_len]; exact Nat.lt_succ_self _) ⟨[], _, _, _, _, rfl, Nat.zero_le _, rfl, x0.fr, H0, n0, g0, fun _ z => by cases z⟩
  · rintro ev a' ⟨w, o4, o5, o6, o7, hl, hw, rfl, F, H', na, g, lw⟩
    push_cast [↓o_tupL g]
    exact k w a' lw hw F H'
  · rintro v l ev a' ⟨w, o4, o5, o6, o7, hl, hw, rfl, F, H', na, g, lw⟩
    obtain ⟨hk, rfl, rfl⟩ := drop_rg hl
    rw [gw_nm, on_nx]
    dsimp only
    -- behind the bars
    have go : ∀ (D : En) (b : Nat) (B : List Int) (a2 : AH) (o6 o7 : Option PV), Fr a a2 → Dw a2 → b < a2.n → a.n < a2.n → a2.get a.n = some (.lst (iw w)) → a2.get b = some (.lst (iw B)) →
        (∀ (a3 : AH) (w' : List Int) (o6 o7 : Option PV), Fr a a3 → Dw a3 → a.n < a3.n → a3.get a.n = some (.lst (iw w')) → LW row w' → w'.length = w.length + 1 → D.nx [some (.ref 1), some (.int n), some (.int M), some (.ref a.n), some (.int w.length), some (.ref b), o6, o7] a3) →
        (∀ a3, Fr a a3 → Dw a3 → D.rt (.tup (iw w)) a3) →
        wS (wdR
          [some (.ref 1), some (.int n), some (.int M), some (.ref a.n), some (.int w.length), some (.ref b), o6, o7] a2) D := by
      intro D b B a2 o6 o7 F2 H2 hb1 na2 gw gb kn kr
      unfold wdR
      have s2 : smallI (2 * (n : Int)) = true := by
        rw [show 2 * (n : Int) = ((2 * n : Nat) : Int) by omega]
        exact smallN (by omega)
      push_cast [mulC0, s2]
      rw [show (2 * (n : Int)).toNat = 2 * n by omega]
      have yl2 := yl_rg (P := Xt a2) (2 * n) 0
      rw [rg_iw] at yl2
      refine lc_use (notIn B) id (iw (upTo (2 * n))) yl2 (by show 2 * n + 1 = _; rw [iw_len, ints_len]) (by rw [iw_len, ints_len]; omega) (fun v hv a3 x3 => ⟨_, rfl, ?_⟩) fun a3 x3 n3' g3 => ?_
      · obtain ⟨c, hc, rfl⟩ := iw_mem hv
        have gb3 : a3.get b = some (.lst (iw B)) := by rw [x3.old _ hb1]; exact gb
        push_cast [↓o_inL gb3]
        exact ⟨rfl, Xt.refl _, fun _ => ⟨rfl, Xt.refl _⟩⟩
      · rw [pick_iw] at g3
        have lS : LW row ((upTo (2 * n)).filter fun i => !decide (i ∈ B)) := by
          intro c hc
          have := ints_mem.mp (List.mem_filter.mp hc).1
          unfold Lt
          omega
        have lS2 : ((upTo (2 * n)).filter fun i => !decide (i ∈ B)).length ≤ 12 := by
          have := List.length_filter_le (fun i => !decide (i ∈ B)) (upTo (2 * n))
          rw [ints_len] at this
          omega
        generalize (upTo (2 * n)).filter (fun i => !decide (i ∈ B)) = S at *
        have F3 := F2.trans x3.fr
        have H3 := H2.xt x3
        have g3' : (a3.new (.lst [])).get a2.n = some (.lst (iw S)) := by rw [get_new_lt n3']; exact g3
        have na3 : a.n < a3.n := Nat.lt_of_lt_of_le na2 x3.le
        have gw3 : (a3.new (.lst [])).get a.n = some (.lst (iw w)) := by rw [get_new_lt na3, x3.old _ na2]; exact gw
        have ce := cEq_lst g3' (show (a3.new (.lst [])).get a3.n = some (.lst (iw [])) from get_new_eq)
        have oe : ∀ P : PV × AH → Prop, wO (cEq (.ref a2.n) (.ref a3.n) (a3.new (.lst []))) P = P (.bl (decide (S = [])), a3.new (.lst [])) := fun P => by rw [ce, wO_some]
        have F4 := F3.trans (Xt.new a3 (.lst [])).fr
        have H4 := H3.new (.lst [])
        have na4 : a.n < (a3.new (.lst [])).n := by rw [new_n]; omega
        have nb4 : a2.n < (a3.new (.lst [])).n := by rw [new_n]; omega
        have nb3 := H2.n
        push_cast [↓oe]
        generalize a3.new (.lst []) = a4 at *
        by_cases zS : S = []
        · refine if_t (by simp [zS]) ?_
          push_cast [↓o_tupL gw3]
          exact kr _ F4 H4
        · refine if_f (by simp [zS]) ?_
          push_cast [t_lst gw3]
          refine pk_ok H4 nb3 nb4 g3' (fun z => zS (List.map_eq_nil_iff.mp z)) (by rw [iw_len]; omega) fun v a5 hv F5 H5 => ?_
          obtain ⟨c, hc, rfl⟩ := iw_mem hv
          have gw5 : a5.get a.n = some (.lst (iw w)) := by rw [F5.old _ n3 na4]; exact gw3
          push_cast [↓o_app gw5 (show (iw w).length < LIM by rw [iw_len]; omega)]
          have F6 := F4.trans F5
          have le5 := F5.le
          exact kn _ (w ++ [c]) _ _ ⟨F6.le, fun i h3 hi => by rw [get_put_ne (by omega)]; exact F6.old i h3 hi⟩ (H5.put n3 _) (by rw [put_n]; omega) (by rw [get_put_eq, iw_one]) (lw_app.mpr ⟨lw, lw_one.mpr (lS c hc)⟩) (by simp)
    show wS (sSeq wdA (sSeq wdB wdR) _ a') _
    have kN : ∀ (a3 : AH) (w' : List Int) (o4 o5 o6 o7 : Option PV), Fr a a3 → Dw a3 → a.n < a3.n → a3.get a.n = some (.lst (iw w')) → LW row w' → w'.length = w.length + 1 → ∃ w_1 o4' o5' o6' o7', (iw (upTo M)).drop (w.length + 1) = (iw (upTo M)).drop w_1.length ∧ w_1.length ≤ M ∧ ([some (.ref 1), some (.int n), some (.int M), some (.ref a.n), o4, o5, o6, o7] : Env) = [some (.ref 1), some (.int n), some (.int M), some (.ref a.n), o4', o5', o6', o7'] ∧ Fr a a3 ∧ Dw a3 ∧ a.n < a3.n ∧ a3.get a.n = some (.lst (iw w_1)) ∧ LW row w_1 :=
      fun a3 w' o4 o5 o6 o7 F3 H3 na3 g3 lw3 e3 => ⟨w', _, _, _, _, by rw [e3], by omega, rfl, F3, H3, na3, g3, lw3⟩
    have kR := fun (a3 : AH) (F3 : Fr a a3) (H3 : Dw a3) => k w a3 lw hw F3 H3
    generalize hD : ({ nx := _, rt := _, bk := _, ct := _, er := _ } : En) = D
    have kN' : ∀ (a3 : AH) (w' : List Int) (o4 o5 o6 o7 : Option PV), Fr a a3 → Dw a3 → a.n < a3.n → a3.get a.n = some (.lst (iw w')) → LW row w' → w'.length = w.length + 1 → D.nx [some (.ref 1), some (.int n), some (.int M), some (.ref a.n), o4, o5, o6, o7] a3 := by
      rw [← hD]
      exact kN
    have kR' : ∀ a3, Fr a a3 → Dw a3 → D.rt (.tup (iw w)) a3 := by
      rw [← hD]
      exact kR
    clear hD kN kR
    unfold wdA wdB
    have n3' := H'.n
    by_cases hw0 : w.length = 0
    · push_cast
      refine if_f (by rw [decide_eq_false_iff_not]; omega) ?_
      push_cast
      have q := fun o6 o7 => go D a'.n [] (a'.new (.lst [])) o6 o7 (F.trans (Xt.new _ _).fr) (H'.new _) (Nat.lt_succ_self _) (by rw [new_n]; omega) (by rw [get_new_lt na]; exact g) get_new_eq (fun a3 w' o6 o7 F3 H3 na3 g3 lw3 e3 => kN' a3 w' _ _ o6 o7 F3 H3 na3 g3 lw3 e3) kR'
      refine if_i (fun z => ?_) fun z => ?_
      · push_cast
        refine if_f (by rw [decide_eq_false_iff_not]; omega) ?_
        push_cast
        exact q _ _
      · push_cast
        exact q _ _
    · have l1 : w.length - 1 < w.length := by omega
      have cw1 : L2.atI (iw w) ((w.length : Int) - 1) = some (.int w[w.length - 1]) := by
        rw [show ((w.length : Int) - 1) = ((w.length - 1 : Nat) : Int) by omega]
        exact at_iw (List.getElem?_eq_getElem l1)
      have c0 : 0 < w.length := by omega
      have cw0 : L2.atI (iw w) 0 = some (.int w[0]) := at_iw (k := 0) (List.getElem?_eq_getElem c0)
      push_cast
      refine if_t (by rw [decide_eq_true_iff]; omega) ?_
      push_cast [↓o_ixL g, cw1]
      have g1 : (a'.new (.lst [.int (x1 w[w.length - 1])])).get a'.n = some (.lst (iw [x1 w[w.length - 1]])) := get_new_eq
      have gw1 : (a'.new (.lst [.int (x1 w[w.length - 1])])).get a.n = some (.lst (iw w)) := by rw [get_new_lt na]; exact g
      have F1 := F.trans (Xt.new a' (.lst [.int (x1 w[w.length - 1])])).fr
      have H1 := H'.new (.lst [.int (x1 w[w.length - 1])])
      have n1 : (a'.new (.lst [.int (x1 w[w.length - 1])])).n = a'.n + 1 := rfl
      generalize a'.new (.lst [.int (x1 w[w.length - 1])]) = a2 at *
      have q := fun o6 o7 => go D a'.n _ a2 o6 o7 F1 H1 (by omega) (by omega) gw1 g1 (fun a3 w' o6 o7 F3 H3 na3 g3 lw3 e3 => kN' a3 w' _ _ o6 o7 F3 H3 na3 g3 lw3 e3) kR'
      refine if_i (fun z => ?_) fun z => ?_
      · push_cast
        refine if_t (by rw [decide_eq_true_iff]; omega) ?_
        push_cast [↓o_ixL gw1, cw0]
        have g2 : (a2.new (.lst [.int (x1 w[0])])).get a'.n = some (.lst (iw [x1 w[w.length - 1]])) := by rw [get_new_lt (by omega)]; exact g1
        have g3 : (a2.new (.lst [.int (x1 w[0])])).get a2.n = some (.lst [.int (x1 w[0])]) := get_new_eq
        have gw2 : (a2.new (.lst [.int (x1 w[0])])).get a.n = some (.lst (iw w)) := by rw [get_new_lt (by omega)]; exact gw1
        have F2 := F1.trans (Xt.new a2 (.lst [.int (x1 w[0])])).fr
        have H2 := H1.new (.lst [.int (x1 w[0])])
        have n2 : (a2.new (.lst [.int (x1 w[0])])).n = a2.n + 1 := rfl
        generalize a2.new (.lst [.int (x1 w[0])]) = a3 at *
        push_cast [↓o_addL g2 g3 (by show 1 + 1 ≤ LIM; omega)]
        generalize hx : x1 w[w.length - 1] = x at *
        generalize hy : x1 w[0] = y at *
        have gB : (a3.new (.lst (iw [x] ++ [.int y]))).get a3.n = some (.lst (iw [x, y])) := get_new_eq
        have gA : (a3.new (.lst (iw [x] ++ [.int y]))).get a.n = some (.lst (iw w)) := by rw [get_new_lt (by omega)]; exact gw2
        have F3' := F2.trans (Xt.new a3 (.lst (iw [x] ++ [.int y]))).fr
        have H3' := H2.new (.lst (iw [x] ++ [.int y]))
        have n3'' : (a3.new (.lst (iw [x] ++ [.int y]))).n = a3.n + 1 := rfl
        generalize a3.new (.lst (iw [x] ++ [.int y])) = a4 at *
        exact go D a3.n [x, y] a4 _ _ F3' H3' (by omega) (by omega) gA gB (fun a3 w' o6 o7 F3 H3 na3 g3 lw3 e3 => kN' a3 w' _ _ o6 o7 F3 H3 na3 g3 lw3 e3) kR'
      · push_cast
        exact q _ _
theorem tr_ok {row : List Int} (h : RW row) {a : AH} (H : Dw a) {n : Nat} (hn : row.length = 2 * n) {Q : PV → AH → Prop} {X : EX} (k : ∀ t a', Tv row t → t.2.1.length ≤ 150 → Fr a a' → Dw a' → Q (tri t) a') : wR (F__law_triple [.ref 1, .tup (iw row), .int n] a) Q X := by
  have LM := LM40
  have n3 := H.n
  have hi := h.hi
  have lo := h.lo
  unfold F__law_triple
  refine Eq.mpr w_F ?_
  rw [if_pos (by rfl)]
  simp only [startE, List.map_cons, List.map_nil, List.length_cons, List.length_nil, Nat.reduceAdd, Nat.reduceSub, List.reduceReplicate, List.cons_append, List.nil_append]
  unfold g__law_triple
  push_cast
  refine tk_ok (n := 6) H (by omega) (by omega) fun y a1 hy F1 H1 => ?_
  push_cast
  refine tk_ok H1 (n := row.length) (by omega) (by omega) fun s a2 hs F2 H2 => ?_
  push_cast
  refine tk_ok H2 (n := row.length) (by omega) (by omega) fun e a3 he F3 H3 => ?_
  have F := (F1.trans F2).trans F3
  push_cast
  refine if_i (fun z => ?_) fun z => ?_
  · push_cast
    exact k (s, [], e) a3 ⟨hs, he, fun _ z => by cases z⟩ (Nat.zero_le _) F H3
  · push_cast
    refine if_i (fun z1 => ?_) fun z1 => ?_
    · push_cast
      refine wkd_ok (t := (s, [], s)) (M := 60) h H3 ⟨hs, hs, fun _ z => by cases z⟩ (Nat.zero_le _) (by omega) fun t' a4 T' eB bl F4 H4 => ?_
      refine k t' a4 T' ?_ (F.trans F4) H4
      have bl : t'.2.1.length ≤ max 0 60 := bl
      omega
    · push_cast
      refine pk_ok (H3.new _) H3.n (Nat.lt_succ_self _) get_new_eq (by simp) (by simp) fun v a4 hv F4 H4 => ?_
      have hv2 : ∃ m : Nat, v = .int m ∧ m ≤ 150 := by
        simp only [List.mem_cons, List.not_mem_nil, or_false] at hv
        rcases hv with rfl | rfl | rfl | rfl | rfl | rfl | rfl | rfl | rfl
        · exact ⟨1, rfl, by omega⟩
        · exact ⟨3, rfl, by omega⟩
        · exact ⟨8, rfl, by omega⟩
        · exact ⟨20, rfl, by omega⟩
        · exact ⟨39, rfl, by omega⟩
        · exact ⟨40, rfl, by omega⟩
        · exact ⟨41, rfl, by omega⟩
        · exact ⟨42, rfl, by omega⟩
        · exact ⟨150, rfl, by omega⟩
      obtain ⟨m, rfl, hm⟩ := hv2
      push_cast
      refine wd_ok h H4 hn (by omega) fun w a5 lw wl F5 H5 => ?_
      push_cast
      exact k (s, w, e) a5 ⟨hs, he, lw⟩ (Nat.le_trans wl hm) (F.trans ((Xt.new _ _).fr.trans (F4.trans F5))) H5
end
end VI
end
section
set_option maxRecDepth 100000
/-! repr. -/
namespace VI
open PySem PySem.W PyProof.Rows

theorem sh_int : ∀ n : Nat, n < 12 → (PyData.shown (.int (n : Int))).length ≤ 2 := by decide
theorem sb_int : ∀ n : Nat, n < 12 → PyData.showable (.int (n : Int)) = true := by decide
/-- a datum that repr takes -/
structure Rp (d : PyData) (n : Nat) : Prop where
  sh : PyData.showable d = true
  ln : (PyData.shown d).length ≤ n
  nd : PyData.hasDict d = false
theorem rp_int {n : Nat} (h : n < 12) : Rp (.int (n : Int)) 2 := ⟨sb_int n h, sh_int n h, by rw [PyData.hasDict]⟩
theorem rp_none : Rp .none 4 := ⟨by decide, by decide, by decide⟩
theorem rp_bool (b : Bool) : Rp (.bool b) 5 := ⟨by cases b <;> decide, by cases b <;> decide, by cases b <;> decide⟩
def RpL (ds : List PyData) (n : Nat) : Prop := PyData.showableAll ds = true ∧ piled (PyData.shownAll ds) ≤ n ∧ PyData.hasDictAll ds = false
theorem rpL_nil : RpL [] 0 := ⟨by rw [PyData.showableAll], by rw [PyData.shownAll]; exact Nat.le_refl _, by rw [PyData.hasDictAll]⟩
theorem rpL_cons {d : PyData} {ds : List PyData} {m n : Nat} (h : Rp d m) (t : RpL ds n) : RpL (d :: ds) (m + 2 + n) := by
  refine ⟨by rw [PyData.showableAll, h.sh, t.1] <;> rfl, ?_, by rw [PyData.hasDictAll, h.nd, t.2.2] <;> rfl⟩
  rw [PyData.shownAll, piled_cons]
  have := h.ln
  have := t.2.1
  omega
theorem rp_tup {ds : List PyData} {n : Nat} (h : RpL ds n) : Rp (.tuple ds) (n + 3) := by
  refine ⟨by rw [PyData.showable]; exact h.1, ?_, by rw [PyData.hasDict]; exact h.2.2⟩
  rw [PyData.shown]
  unfold tupleText
  rw [strLen_append, strLen_append]
  have e1 : ((("(" : String) : Str)).length = 1 := rfl
  have e3 : (((if (PyData.shownAll ds).length == 1 then ",)" else ")" : String) : Str)).length ≤ 2 := by split <;> decide
  rw [e1]
  have e2 : (Str.join ", " (PyData.shownAll ds)).length ≤ piled (PyData.shownAll ds) := by
    cases q : PyData.shownAll ds with
    | nil => exact Nat.zero_le _
    | cons x r =>
      have := join_length_add (x :: r) (by simp)
      omega
  have := h.2.1
  omega
theorem rpL_iw {row : List Int} (hi : row.length ≤ 12) : ∀ w : List Int, LW row w → RpL (w.map .int) (4 * w.length)
  | [], _ => rpL_nil
  | c :: w, l => by
    have q := lw_cons.mp l
    have t := rpL_iw hi w q.2
    have lc := q.1
    unfold Lt at lc
    have e : c = ((c.toNat : Nat) : Int) := by omega
    have r : Rp (.int c) 2 := by
      rw [e]
      exact rp_int (by omega)
    have := rpL_cons r t
    rw [List.length_cons]
    rw [show 4 * (w.length + 1) = 2 + 2 + 4 * w.length by omega]
    exact this
theorem rp_tri {row : List Int} (hi : row.length ≤ 12) {t : Trp} (T : Tv row t) : Rp (trd t) (4 * t.2.1.length + 20) := by
  have s := T.s
  have e := T.e
  have a := rp_tup (rpL_iw hi t.2.1 T.w)
  have := rp_tup (rpL_cons (rp_int (n := t.1) (by omega)) (rpL_cons a (rpL_cons (rp_int (n := t.2.2) (by omega)) rpL_nil)))
  exact ⟨this.sh, Nat.le_trans this.ln (by omega), this.nd⟩
theorem o_repr {a : AH} {v : PV} {d : PyData} {n : Nat} {P : PV × AH → Prop} (e : toD a DEP v = some d) (h : Rp d n) (hn : n ≤ LIM) : wO (bRepr [v] a) P = P (.str d.shown, a) := by
  have e1 : bRepr [v] a = (match toD a DEP v with
    | some d => (match PyData.showable d && Nat.ble d.shown.length LIM && !d.hasDict with
      | true => some (.str d.shown, a)
      | false => none)
    | none => none) := rfl
  rw [e1, e]
  show wO (match PyData.showable d && Nat.ble d.shown.length LIM && !d.hasDict with
      | true => some (.str d.shown, a)
      | false => none) P = _
  rw [h.sh, h.nd, show Nat.ble d.shown.length LIM = true from Nat.ble_eq_true_of_le (Nat.le_trans h.ln hn)] <;> rfl
theorem toD_str (a : AH) (x : Str) : toD a DEP (.str x) = some (.str x) := by
  rw [show DEP = 19 + 1 from rfl]
  unfold toD
  rfl
theorem toD_bl (a : AH) (b : Bool) : toD a DEP (.bl b) = some (.bool b) := by
  rw [show DEP = 19 + 1 from rfl]
  unfold toD
  rfl
theorem o_neSS {a : AH} {x : Str} {P : PV × AH → Prop} : wO (cNe (.str x) (.str x) a) P = P (.bl false, a) := by
  unfold cNe
  rw [toD_str]
  show P (PV.bl (!PyData.eqv (.str x) (.str x)), a) = _
  have : PyData.eqv (.str x) (.str x) = true := by
    rw [PyData.eqv]
    simp
  rw [this] <;> rfl
def oD : Option Trp → PyData
  | none => .none
  | some t => trd t
theorem toD_ofT (a : AH) (o : Option Trp) : toD a DEP (ofT o) = some (oD o) := by
  cases o with
  | none => exact toD_non a
  | some t => exact toD_tri a t
theorem rp_ofT {row : List Int} (hi : row.length ≤ 12) {o : Option Trp} (T : ∀ t, o = some t → Tv row t ∧ t.2.1.length ≤ 400) : Rp (oD o) 2000 := by
  cases o with
  | none => exact ⟨rp_none.sh, Nat.le_trans rp_none.ln (by omega), rp_none.nd⟩
  | some t =>
    obtain ⟨a, b⟩ := T t rfl
    have := rp_tri hi a
    exact ⟨this.sh, Nat.le_trans this.ln (by omega), this.nd⟩
end VI
end
section
set_option maxRecDepth 100000
/-! bridge_of: told, refused. -/
namespace VI
open PySem PySem.W PyProof.Rows

section
variable {a : AH} {Q : PV → AH → Prop} {X : EX}
theorem bo_ok {row : List Int} (h : RW row) {sk : Nat} (S : SkH a sk row) {t : Trp} (T : Tv row t) (hl : t.2.1.length ≤ 200) (k : ∀ a', Xt a a' → Q (ofT (BT3 row t)) a') : wR (F_bridge_of [.ref sk, .int t.1, .tup (iw t.2.1), .int t.2.2] a) Q X := by
  have LM := LM40
  unfold F_bridge_of
  refine Eq.mpr w_F ?_
  rw [if_pos (by rfl)]
  simp only [startE, List.map_cons, List.map_nil, List.length_cons, List.length_nil, Nat.reduceAdd, Nat.reduceSub, List.reduceReplicate, List.cons_append, List.nil_append]
  unfold g_bridge_of
  push_cast [↓nb_ok S.at_ h.lo, ↓sk_row S.at_, ↓nbt_ok (show nr (.int t.1) = true from rfl)]
  rw [if_pos (iv_nat T.s)]
  refine nw_ok S (by rw [iw_len]; omega) nr_iw fun a1 x1 => ?_
  have S1 := S.xt x1
  rw [all_iw T.w, iw_len, decide_eq_true hl, if_pos (by rfl)]
  push_cast [↓sk_row S1.at_, ↓nbt_ok (show nr (.int t.2.2) = true from rfl)]
  rw [if_pos (iv_nat T.e)]
  refine wR_of (pb_ok h T.s T.e T.w (by omega) _) fun a2 x2 => ?_
  exact k _ (x1.trans x2)
theorem bo_start {row : List Int} (h : RW row) {sk : Nat} (S : SkH a sk row) {v w e : PV} (hv : nr v = true) (iv : inr row v = false) (k : X "BadNumber" [("part", .str "start")] a) : wR (F_bridge_of [.ref sk, v, w, e] a) Q X := by
  unfold F_bridge_of
  refine Eq.mpr w_F ?_
  rw [if_pos (by rfl)]
  simp only [startE, List.map_cons, List.map_nil, List.length_cons, List.length_nil, Nat.reduceAdd, Nat.reduceSub, List.reduceReplicate, List.cons_append, List.nil_append]
  unfold g_bridge_of
  push_cast [↓nb_ok S.at_ h.lo, ↓sk_row S.at_, ↓nbt_ok hv]
  rw [if_neg (by rw [show VI.iv 0 ((row.length : Int) - 1) v = inr row v from rfl, iv]; simp)]
  exact k
theorem bo_word {row : List Int} (h : RW row) {sk : Nat} (S : SkH a sk row) {w e : PV} (hw : (NoT a w) ∨ ∃ l, w = .tup l ∧ l.length ≤ LIM ∧ (∀ v ∈ l, nr v = true) ∧ (l.all (inr row) && decide (l.length ≤ 200)) = false) (k : ∀ a', Xt a a' → X "BadWord" [] a') : wR (F_bridge_of [.ref sk, .int 0, w, e] a) Q X := by
  have lo := h.lo
  have i0 : iv 0 ((row.length : Int) - 1) (.int 0) = true := iv_nat (row := row) (i := 0) (by omega)
  unfold F_bridge_of
  refine Eq.mpr w_F ?_
  rw [if_pos (by rfl)]
  simp only [startE, List.map_cons, List.map_nil, List.length_cons, List.length_nil, Nat.reduceAdd, Nat.reduceSub, List.reduceReplicate, List.cons_append, List.nil_append]
  unfold g_bridge_of
  push_cast [↓nb_ok S.at_ h.lo, ↓sk_row S.at_, ↓nbt_ok (show nr (.int 0) = true from rfl)]
  rw [if_pos i0]
  rcases hw with hw | ⟨l, rfl, hl, hn, hb⟩
  · push_cast [↓nw_no S hw.is]
    exact k _ (.refl _)
  · refine nw_ok S hl hn fun a1 x1 => ?_
    rw [show (l.all (iv 0 ((row.length : Int) - 1)) && decide (l.length ≤ 200)) = false from hb, if_neg (by simp)]
    exact k _ x1
theorem bo_end {row : List Int} (h : RW row) {sk : Nat} (S : SkH a sk row) {e : PV} (he : nr e = true) (ie : inr row e = false) (k : ∀ a', Xt a a' → X "BadNumber" [("part", .str "end")] a') : wR (F_bridge_of [.ref sk, .int 0, .tup [], e] a) Q X := by
  have lo := h.lo
  have i0 : iv 0 ((row.length : Int) - 1) (.int 0) = true := iv_nat (row := row) (i := 0) (by omega)
  unfold F_bridge_of
  refine Eq.mpr w_F ?_
  rw [if_pos (by rfl)]
  simp only [startE, List.map_cons, List.map_nil, List.length_cons, List.length_nil, Nat.reduceAdd, Nat.reduceSub, List.reduceReplicate, List.cons_append, List.nil_append]
  unfold g_bridge_of
  push_cast [↓nb_ok S.at_ h.lo, ↓sk_row S.at_, ↓nbt_ok (show nr (.int 0) = true from rfl)]
  rw [if_pos i0]
  refine nw_ok S (by decide) (fun v z => by cases z) fun a1 x1 => ?_
  have S1 := S.xt x1
  rw [if_pos (by rfl)]
  push_cast [↓sk_row S1.at_, ↓nbt_ok he]
  rw [if_neg (by rw [show VI.iv 0 ((row.length : Int) - 1) e = inr row e from rfl, ie]; simp)]
  exact k _ x1
/-- skins that are none -/
theorem bo_noskin {s v w e : PV} (hs : nr s = true) : wR (F_bridge_of [s, v, w, e] a) Q X = X "BadSkin" [("part", .non)] a := by
  apply propext
  unfold F_bridge_of
  rw [w_F' (by rfl)]
  simp only [startE, List.map_cons, List.map_nil, List.length_cons, List.length_nil, Nat.reduceAdd, Nat.reduceSub, List.reduceReplicate, List.cons_append, List.nil_append]
  unfold g_bridge_of
  push_cast [↓nb_bad hs]
theorem bo_ring {sk : Nat} {row : List Int} (g : a.get sk = some (skO row)) (hr : row.length < 4) {v w e : PV} : wR (F_bridge_of [.ref sk, v, w, e] a) Q X = X "BadSkin" [("part", .str "bands")] a := by
  apply propext
  unfold F_bridge_of
  rw [w_F' (by rfl)]
  simp only [startE, List.map_cons, List.map_nil, List.length_cons, List.length_nil, Nat.reduceAdd, Nat.reduceSub, List.reduceReplicate, List.cons_append, List.nil_append]
  unfold g_bridge_of
  push_cast [↓nb_ring g hr]
theorem ib_noskin {s v : PV} (hs : nr s = true) : wR (F_is_bridge [s, v] a) Q X = X "BadSkin" [("part", .non)] a := by
  apply propext
  unfold F_is_bridge
  rw [w_F' (by rfl)]
  simp only [startE, List.map_cons, List.map_nil, List.length_cons, List.length_nil, Nat.reduceAdd, Nat.reduceSub, List.reduceReplicate, List.cons_append, List.nil_append]
  unfold g_is_bridge
  push_cast [↓nb_bad hs]
theorem ib_ring {sk : Nat} {row : List Int} (g : a.get sk = some (skO row)) (hr : row.length < 4) {v : PV} : wR (F_is_bridge [.ref sk, v] a) Q X = X "BadSkin" [("part", .str "bands")] a := by
  apply propext
  unfold F_is_bridge
  rw [w_F' (by rfl)]
  simp only [startE, List.map_cons, List.map_nil, List.length_cons, List.length_nil, Nat.reduceAdd, Nat.reduceSub, List.reduceReplicate, List.cons_append, List.nil_append]
  unfold g_is_bridge
  push_cast [↓nb_ring g hr]
theorem ra_noskin {s v : PV} (hs : nr s = true) : wR (F_rims_at [s, v] a) Q X = X "BadSkin" [("part", .non)] a := by
  apply propext
  unfold F_rims_at
  rw [w_F' (by rfl)]
  simp only [startE, List.map_cons, List.map_nil, List.length_cons, List.length_nil, Nat.reduceAdd, Nat.reduceSub, List.reduceReplicate, List.cons_append, List.nil_append]
  unfold g_rims_at
  push_cast [↓nb_bad hs]
theorem ra_ring {sk : Nat} {row : List Int} (g : a.get sk = some (skO row)) (hr : row.length < 4) {v : PV} : wR (F_rims_at [.ref sk, v] a) Q X = X "BadSkin" [("part", .str "bands")] a := by
  apply propext
  unfold F_rims_at
  rw [w_F' (by rfl)]
  simp only [startE, List.map_cons, List.map_nil, List.length_cons, List.length_nil, Nat.reduceAdd, Nat.reduceSub, List.reduceReplicate, List.cons_append, List.nil_append]
  unfold g_rims_at
  push_cast [↓nb_ring g hr]
theorem ra_no {row : List Int} (h : RW row) {sk : Nat} (S : SkH a sk row) {v : PV} (hv : No row a v) (k : ∀ a', Xt a a' → X "BadBridge" [] a') : wR (F_rims_at [.ref sk, v] a) Q X := by
  unfold F_rims_at
  refine Eq.mpr w_F ?_
  rw [if_pos (by rfl)]
  simp only [startE, List.map_cons, List.map_nil, List.length_cons, List.length_nil, Nat.reduceAdd, Nat.reduceSub, List.reduceReplicate, List.cons_append, List.nil_append]
  unfold g_rims_at
  push_cast [↓nb_ok S.at_ h.lo]
  exact nbr_no h S hv k
theorem ra_long {row : List Int} (h : RW row) {sk : Nat} (S : SkH a sk row) {t : Trp} (T : Tv row t) (hl : t.2.1.length ≤ 400) (hb : (decide (t.2.1.length ≤ 40) && decide (BT3 row t = some t)) = false) (k : ∀ a', Xt a a' → X "BadBridge" [] a') : wR (F_rims_at [.ref sk, tri t] a) Q X := by
  unfold F_rims_at
  refine Eq.mpr w_F ?_
  rw [if_pos (by rfl)]
  simp only [startE, List.map_cons, List.map_nil, List.length_cons, List.length_nil, Nat.reduceAdd, Nat.reduceSub, List.reduceReplicate, List.cons_append, List.nil_append]
  unfold g_rims_at
  push_cast [↓nb_ok S.at_ h.lo]
  refine nbr_ok h S T.s T.e T.w (by omega) fun a1 x1 => ?_
  rw [if_neg (by rw [hb]; simp)]
  exact k _ x1
end
end VI
end
section
set_option maxRecDepth 100000
/-! Values near to a bridge are judged. -/
namespace VI
open PySem PySem.W PyProof.Rows

theorem NoT.fr {a b : AH} {v : PV} (h : NoT a v) (x : Fr a b) : NoT b v := by
  cases h with
  | lst h3 h g => exact .lst h3 (Nat.lt_of_lt_of_le h x.le) (by rw [x.old _ h3 h]; exact g)
  | _ => constructor
theorem No.fr {row : List Int} {a b : AH} {v : PV} (h : No row a v) (x : Fr a b) : No row b v := by
  cases h with
  | a h => exact .a (h.fr x)
  | b h => exact .b h
  | c h => exact .c (h.fr x)
  | d hl hx hz hn h => exact .d hl hx hz hn h
/-- a value that is judged -/
def Jd (row : List Int) (a : AH) (v : PV) : Prop := (∃ t, v = tri t ∧ Tv row t ∧ t.2.1.length ≤ 400) ∨ No row a v
theorem Jd.fr {row : List Int} {a b : AH} {v : PV} (h : Jd row a v) (x : Fr a b) : Jd row b v := by
  rcases h with h | h
  · exact .inl h
  · exact .inr (h.fr x)
theorem SkH.fr {a b : AH} {sk : Nat} {row : List Int} (h : SkH a sk row) (h3 : 3 ≤ sk) (x : Fr a b) : SkH b sk row := ⟨Nat.lt_of_lt_of_le h.lt x.le, by rw [x.old _ h3 h.lt]; exact h.at_⟩
theorem o_eqSS {a : AH} {x : Str} {P : PV × AH → Prop} : wO (cEq (.str x) (.str x) a) P = P (.bl true, a) := by
  unfold cEq
  rw [toD_str]
  show P (PV.bl (PyData.eqv (.str x) (.str x)), a) = _
  have : PyData.eqv (.str x) (.str x) = true := by
    rw [PyData.eqv]
    simp
  rw [this]
abbrev jdB : GS := (sIf (eBin cNe (eCB bRepr (aCons (eCall F_is_bridge (aCons (eVar 1) (aCons (eVar 9) aNil))) aNil)) (eCB bRepr (aCons (eCall F__law_is_plain (aCons (eVar 2) (aCons (eVar 9) aNil))) aNil)))
    (sRet (eC (.bl false)))
    sNil)
section
variable {a : AH} {Q : PV → AH → Prop} {X : EX}
theorem jd_body {row : List Int} (h : RW row) {sk : Nat} (S : SkH a sk row) {v : PV} (J : Jd row a v) {w0 w3 w4 w5 w6 w7 w8 : Option PV} {D : En}
    (k : ∀ a', Xt a a' → D.nx [w0, some (.ref sk), some (.tup (iw row)), w3, w4, w5, w6, w7, w8, some v] a') :
    wS (jdB [w0, some (.ref sk), some (.tup (iw row)), w3, w4, w5, w6, w7, w8, some v] a) D := by
  have LM := LM40
  unfold jdB
  push_cast
  rcases J with ⟨t, rfl, T, hl⟩ | N
  · refine ib_ok h S T.s T.e T.w (by omega) fun a1 x1 => ?_
    push_cast [↓o_repr (toD_bl a1 _) (rp_bool _) (show 5 ≤ LIM by omega)]
    refine ip_ok h T.s T.e T.w (by omega) fun a2 x2 => ?_
    push_cast [↓o_repr (toD_bl a2 _) (rp_bool _) (show 5 ≤ LIM by omega), ↓o_neSS]
    exact k _ (x1.trans x2)
  · refine ib_no h S N fun a1 x1 => ?_
    push_cast [↓o_repr (toD_bl a1 _) (rp_bool _) (show 5 ≤ LIM by omega)]
    refine ip_no (N.xt x1) fun a2 x2 => ?_
    push_cast [↓o_repr (toD_bl a2 _) (rp_bool _) (show 5 ≤ LIM by omega), ↓o_neSS]
    exact k _ (x1.trans x2)
end
end VI
end
section
set_option maxRecDepth 100000
/-! judged. -/
namespace VI
open PySem PySem.W PyProof.Rows

theorem inr_m (row : List Int) : inr row (.int row.length) = false := by
  show (decide ((0 : Int) ≤ row.length) && decide ((row.length : Int) ≤ (row.length : Int) - 1)) = false
  rw [decide_eq_false (show ¬ ((row.length : Int) ≤ (row.length : Int) - 1) by omega), Bool.and_false]
theorem inr_neg (row : List Int) : inr row (.int (-1)) = false := by
  show (decide ((0 : Int) ≤ -1) && decide ((-1 : Int) ≤ (row.length : Int) - 1)) = false
  rw [decide_eq_false (show ¬ ((0 : Int) ≤ -1) by omega), Bool.false_and]
section
variable {a : AH} {Q : PV → AH → Prop} {X : EX}
theorem jg_ok {row : List Int} (h : RW row) {sk : Nat} (hs3 : 3 ≤ sk) (S : SkH a sk row) (H : Dw a) {t : Trp} (T : Tv row t) (hl : t.2.1.length ≤ 40) (hB : BT3 row t = some t) (k : ∀ a', Fr a a' → Dw a' → Q (.bl true) a') : wR (F__law_judged [.ref 1, .ref sk, .tup (iw row), tri t] a) Q X := by
  have LM := LM40
  have lo := h.lo
  have hi := h.hi
  have n3 := H.n
  have hm : (0 : Int) < row.length := by omega
  unfold F__law_judged
  refine Eq.mpr w_F ?_
  rw [if_pos (by rfl)]
  simp only [startE, List.map_cons, List.map_nil, List.length_cons, List.length_nil, Nat.reduceAdd, Nat.reduceSub, List.reduceReplicate, List.cons_append, List.nil_append]
  unfold g__law_judged
  have et : tri t = .tup [.int t.1, .tup (iw t.2.1), .int t.2.2] := rfl
  rw [et]
  push_cast
  refine wR_of (und_ok t.2.1 (by omega) _) fun a1 x1 => ?_
  have H1 := H.xt x1
  have n1 := H1.n
  push_cast [hm, mod_nx]
  -- the two lists
  have ga : (a1.new (.lst [.int t.1, .tup (iw t.2.1), .int t.2.2])).get a1.n = some (.lst [.int t.1, .tup (iw t.2.1), .int t.2.2]) := get_new_eq
  have x2 := Xt.new a1 (.lst [.int t.1, .tup (iw t.2.1), .int t.2.2])
  have e2 : (a1.new (.lst [.int t.1, .tup (iw t.2.1), .int t.2.2])).n = a1.n + 1 := rfl
  rw [e2]
  generalize a1.new (.lst [.int t.1, .tup (iw t.2.1), .int t.2.2]) = a2 at *
  have gb : (a2.new (.lst (iw t.2.1))).get (a1.n + 1) = some (.lst (iw t.2.1)) := by rw [← e2]; exact get_new_eq
  have x3 := Xt.new a2 (.lst (iw t.2.1))
  have e3 : (a2.new (.lst (iw t.2.1))).n = a1.n + 2 := by rw [new_n, e2]
  generalize a2.new (.lst (iw t.2.1)) = a3 at *
  have J1 : NoT a3 (.ref a1.n) := .lst n1 (by omega) (by rw [x3.old _ (by omega)]; exact ga)
  have J2 : NoT a3 (.ref (a1.n + 1)) := .lst (by omega) (by omega) gb
  have H3 := (H1.xt x2).xt x3
  have F3 := ((x1.trans x2).trans x3).fr
  have jx : ∀ {x z : PV} {l : List PV}, l.length ≤ LIM → nr x = true → nr z = true → (∀ v ∈ l, nr v = true) → (inr row x && inr row z && l.all (inr row)) = false → ∀ a', Jd row a' (.tup [x, .tup l, z]) := fun hl hx hz hn hf a' => .inr (.d hl hx hz hn hf)
  have jt : ∀ (u : Trp), Tv row u → u.2.1.length ≤ 400 → ∀ a', Jd row a' (tri u) := fun u T hl a' => .inl ⟨u, rfl, T, hl⟩
  have lW : (iw t.2.1).length ≤ LIM := by rw [iw_len]; omega
  have A1 : ∀ v ∈ ([.tup [.int t.1, .tup (iw t.2.1), .int t.2.2], .tup [.int t.2.2, .tup (iw (und t.2.1)), .int t.1], .tup [.int t.1, .tup (iw t.2.1), .int (nx row t.2.2 : Nat)], .ref a1.n, .tup [.int t.1, .ref (a1.n + 1), .int t.2.2]] : List PV), Jd row a3 v := by
    intro v hv
    simp only [List.mem_cons, List.not_mem_nil, or_false] at hv
    rcases hv with rfl | rfl | rfl | rfl | rfl
    · exact jt t T (by omega) _
    · exact jt (t.2.2, und t.2.1, t.1) (T.turn h) (by show (und t.2.1).length ≤ _; rw [und_len]; omega) _
    · exact jt (t.1, t.2.1, nx row t.2.2) ⟨T.s, h.nx_lt, T.w⟩ (show t.2.1.length ≤ 400 by omega) _
    · exact .inr (.a J1)
    · exact .inr (.c J2)
  have A2 : ∀ a', ∀ v ∈ ([.tup [.int t.1, .tup (iw t.2.1)], .tup [.int t.1, .tup (iw t.2.1), .int t.2.2, .int 0], .tup [.int row.length, .tup (iw t.2.1), .int t.2.2], .tup [.int t.1, .tup (iw t.2.1 ++ [.int 0, .int 1]), .int t.2.2], .tup [.bl true, .tup (iw t.2.1), .int t.2.2], .tup [.int t.1, .tup (iw t.2.1), .non]] : List PV), Jd row a' v := by
    intro a' v hv
    simp only [List.mem_cons, List.not_mem_nil, or_false] at hv
    rcases hv with rfl | rfl | rfl | rfl | rfl | rfl
    · exact .inr (.b (by simp))
    · exact .inr (.b (by simp))
    · exact jx lW rfl rfl nr_iw (by rw [inr_m, Bool.false_and, Bool.false_and]) _
    · have e : iw t.2.1 ++ [PV.int 0, .int 1] = iw (t.2.1 ++ [0, 1]) := by rw [iw_app] <;> rfl
      rw [e]
      exact jt (t.1, t.2.1 ++ [0, 1], t.2.2) ⟨T.s, T.e, lw_app.mpr ⟨T.w, fun c hc => by
        simp only [List.mem_cons, List.not_mem_nil, or_false] at hc
        unfold Lt
        rcases hc with rfl | rfl <;> omega⟩⟩ (by show (t.2.1 ++ [0, 1]).length ≤ 400; rw [List.length_append]; show t.2.1.length + 2 ≤ 400; omega) _
    · exact jx lW rfl rfl nr_iw rfl _
    · exact jx lW rfl rfl nr_iw (by rw [show inr row .non = false from rfl, Bool.and_false, Bool.false_and]) _
  generalize hL1 : ([.tup [.int t.1, .tup (iw t.2.1), .int t.2.2], .tup [.int t.2.2, .tup (iw (und t.2.1)), .int t.1], .tup [.int t.1, .tup (iw t.2.1), .int (nx row t.2.2 : Nat)], .ref a1.n, .tup [.int t.1, .ref (a1.n + 1), .int t.2.2]] : List PV) = L1 at *
  have l1 : L1.length = 5 := by rw [← hL1]; rfl
  clear hL1
  have gc : (a3.new (.lst L1)).get a3.n = some (.lst L1) := get_new_eq
  have H4 := H3.new (.lst L1)
  have F4 := F3.trans (Xt.new a3 (.lst L1)).fr
  have G4 := (Xt.new a3 (.lst L1)).fr
  have e4 : (a3.new (.lst L1)).n = a3.n + 1 := rfl
  generalize a3.new (.lst L1) = a4 at *
  refine ⟨by omega, ?_⟩
  generalize hL2 : ([.tup [.int t.1, .tup (iw t.2.1)], .tup [.int t.1, .tup (iw t.2.1), .int t.2.2, .int 0], .tup [.int row.length, .tup (iw t.2.1), .int t.2.2], .tup [.int t.1, .tup (iw t.2.1 ++ [.int 0, .int 1]), .int t.2.2], .tup [.bl true, .tup (iw t.2.1), .int t.2.2], .tup [.int t.1, .tup (iw t.2.1), .non]] : List PV) = L2 at *
  have l2 : L2.length = 6 := by rw [← hL2]; rfl
  clear hL2
  have gd : (a4.new (.lst L2)).get a4.n = some (.lst L2) := get_new_eq
  have gc2 : (a4.new (.lst L2)).get a3.n = some (.lst L1) := by rw [get_new_lt (by omega)]; exact gc
  have H5 := H4.new (.lst L2)
  have F5 := F4.trans (Xt.new a4 (.lst L2)).fr
  have G5 := G4.trans (Xt.new a4 (.lst L2)).fr
  generalize a4.new (.lst L2) = a5 at *
  push_cast [↓o_addL gc2 gd (by omega)]
  have ge : (a5.new (.lst (L1 ++ L2))).get a5.n = some (.lst (L1 ++ L2)) := get_new_eq
  have H6 := H5.new (.lst (L1 ++ L2))
  have F6 := F5.trans (Xt.new a5 (.lst (L1 ++ L2))).fr
  have G6 := G5.trans (Xt.new a5 (.lst (L1 ++ L2))).fr
  have n5 := H5.n
  have e6 : (a5.new (.lst (L1 ++ L2))).n = a5.n + 1 := rfl
  generalize a5.new (.lst (L1 ++ L2)) = a6 at *
  rw [← et]
  refine wkd_ok (M := 60) h H6 T (by omega) (by omega) fun t' a7 T' eB' bl' F7 H7 => ?_
  have G7 := G6.trans F7
  have F8 := F6.trans F7
  have gf : a7.get a5.n = some (.lst (L1 ++ L2)) := by rw [F7.old _ n5 (by omega)]; exact ge
  have n57 : a5.n < a7.n := Nat.lt_of_lt_of_le (by omega) F7.le
  rw [et]
  push_cast
  have A3 : ∀ a', ∀ v ∈ ([tri t', .non, .int 5, .tup [], .str "bridge", .tup [.int t.1, .tup (iw t.2.1), .bl true], .tup [.int (-1), .tup (iw t.2.1), .int t.2.2], .tup [.int t.1, .tup [.int row.length], .int t.2.2]] : List PV), Jd row a' v := by
    intro a' v hv
    simp only [List.mem_cons, List.not_mem_nil, or_false] at hv
    rcases hv with rfl | rfl | rfl | rfl | rfl | rfl | rfl | rfl
    · exact jt t' T' (by omega) _
    · exact .inr (.a .non)
    · exact .inr (.a (.int 5))
    · exact .inr (.b (by simp))
    · exact .inr (.a (.str _))
    · exact jx lW rfl rfl nr_iw (by rw [show inr row (.bl true) = false from rfl, Bool.and_false, Bool.false_and]) _
    · exact jx lW rfl rfl nr_iw (by rw [inr_neg, Bool.false_and, Bool.false_and]) _
    · exact jx (by simp [LIM]) rfl rfl (fun v hv => by
        simp only [List.mem_cons, List.not_mem_nil, or_false] at hv
        rw [hv] <;> rfl) (by rw [List.all_cons, inr_m, Bool.false_and, Bool.and_false]) _
  generalize hL3 : ([tri t', .non, .int 5, .tup [], .str "bridge", .tup [.int t.1, .tup (iw t.2.1), .bl true], .tup [.int (-1), .tup (iw t.2.1), .int t.2.2], .tup [.int t.1, .tup [.int row.length], .int t.2.2]] : List PV) = L3 at *
  have l3 : L3.length = 8 := by rw [← hL3]; rfl
  clear hL3
  have gg : (a7.new (.lst L3)).get a7.n = some (.lst L3) := get_new_eq
  have gf2 : (a7.new (.lst L3)).get a5.n = some (.lst (L1 ++ L2)) := by rw [get_new_lt n57]; exact gf
  have H8 := H7.new (.lst L3)
  have F9 := F8.trans (Xt.new a7 (.lst L3)).fr
  have G8 := G7.trans (Xt.new a7 (.lst L3)).fr
  generalize a7.new (.lst L3) = a8 at *
  push_cast [↓o_addL gf2 gg (by rw [List.length_append]; omega)]
  have AL : ∀ v ∈ L1 ++ L2 ++ L3, Jd row (a8.new (.lst (L1 ++ L2 ++ L3))) v := by
    intro v hv
    have G9 := G8.trans (Xt.new a8 (.lst (L1 ++ L2 ++ L3))).fr
    rcases List.mem_append.mp hv with hv | hv
    · rcases List.mem_append.mp hv with hv | hv
      · exact (A1 v hv).fr G9
      · exact A2 _ v hv
    · exact A3 _ v hv
  have gh : (a8.new (.lst (L1 ++ L2 ++ L3))).get a8.n = some (.lst (L1 ++ L2 ++ L3)) := get_new_eq
  have H9 := H8.new (.lst (L1 ++ L2 ++ L3))
  have F10 := F9.trans (Xt.new a8 (.lst (L1 ++ L2 ++ L3))).fr
  have n8 := H8.n
  have n9 : a8.n < (a8.new (.lst (L1 ++ L2 ++ L3))).n := Nat.lt_succ_self _
  generalize hL : L1 ++ L2 ++ L3 = L at *
  generalize a8.new (.lst L) = a9 at *
  rw [it_ref gh]
  have tn : turns a9 (.hl a8.n 0) = L.length + 1 := by
    show lenO (a9.get a8.n) + 1 = _
    rw [gh] <;> rfl
  rw [tn]
  have S9 := S.fr hs3 F10
  refine w_for (fun a' => a'.get a8.n = some (.lst L)) (fun l ev a' => ∃ o9, ev = [some (.ref 1), some (.ref sk), some (.tup (iw row)), some (.tup [.int t.1, .tup (iw t.2.1), .int t.2.2]), some (.int t.1), some (.tup (iw t.2.1)), some (.int t.2.2), some (.int row.length), some (.ref a8.n), o9] ∧ Xt a9 a' ∧ (∀ v ∈ l, v ∈ L)) (fun l ev a' z => by
      obtain ⟨_, _, x, _⟩ := z
      rw [x.old _ n9]
      exact gh) ?_ ?_ L _ _ _ _ (yl_hl fun _ z => z) (Nat.lt_succ_self _) ⟨none, by rw [iw_len] <;> rfl, Xt.refl _, fun v hv => hv⟩
  · rintro ev a' ⟨o9, rfl, xa, _⟩
    rw [← et]
    push_cast
    show wR (F_is_bridge [.ref sk, tri t] a') _ _
    refine ib_ok h (S9.xt xa) T.s T.e T.w (by omega) fun a10 x10 => ?_
    rw [show BR row t.1 t.2.1 t.2.2 = some t from hB, decide_eq_true hl, decide_eq_true rfl]
    push_cast [↓o_repr (toD_bl a10 _) (rp_bool _) (show 5 ≤ LIM by omega)]
    rw [show decide ((t.2.1.length : Int) ≤ 40) = (true && true) by rw [decide_eq_true (by omega)] <;> rfl, o_eqSS]
    exact k a10 ((F10.trans xa.fr).trans x10.fr) ((H9.xt xa).xt x10)
  · rintro v l ev a' ⟨o9, rfl, xa, hl'⟩
    rw [gw_nm, on_nx]
    dsimp only
    refine jd_body h (S9.xt xa) ((AL v (hl' v List.mem_cons_self)).fr xa.fr) fun a10 x10 => ?_
    exact ⟨_, rfl, xa.trans x10, fun w hw => hl' w (List.mem_cons_of_mem _ hw)⟩
end
end VI
end
section
set_option maxRecDepth 100000
/-! Refusals: caught errors. -/
namespace VI
open PySem PySem.W PyProof.Rows

section
variable {e : Env} {a : AH} {Q : PV → AH → Prop} {X : EX} {D : En}
theorem w_cauR {cs : List (Str × Bool)} {r : R PV} : wR (cau cs r) Q X = wR r (fun _ a1 => Q .non a1) (fun c fs a1 => asc cs c = some true ∧ Q (.exc c (fs.map (·.1)) (fs.map (·.2))) a1) := by
  cases r with
  | ok v a => rfl
  | no => rfl
  | er c fs a =>
    show wR (match asc cs c with | some true => R.ok (PV.exc c (fs.map (·.1)) (fs.map (·.2))) a | _ => .no) Q X = (asc cs c = some true ∧ Q (.exc c (fs.map (·.1)) (fs.map (·.2))) a)
    cases asc cs c with
    | none => simp [wR]
    | some b => cases b <;> simp [wR]
theorem w_cau {cs : List (Str × Bool)} {fb : FE} : wR (eCau cs fb e a) Q X = wR (fb e a) (fun _ a1 => Q .non a1) (fun c fs a1 => asc cs c = some true ∧ Q (.exc c (fs.map (·.1)) (fs.map (·.2))) a1) := w_cauR
theorem s_lam0 {i j : Nat} {cs : List (Str × Bool)} {g : GS} : wS (sLams i j cs g [] e a) D = D.nx e a := propext ⟨fun h => h, fun h => h⟩
theorem s_lam1 {i j : Nat} {cs : List (Str × Bool)} {g : GS} {fb : FE} {l : List FE} (h : Nat.blt i e.length = true) : wS (sLams i j cs g (fb :: l) e a) D = wR (fb (unp e i) a) (fun _ a1 => wS (g (put (unp e i) j .non) a1) { D with nx := fun e2 a2 => wS (sLams i j cs g l e2 a2) D, ct := fun e2 a2 => wS (sLams i j cs g l e2 a2) D, bk := D.nx })
    (fun c fs a1 => asc cs c = some true ∧ wS (g (put (unp e i) j (.exc c (fs.map (·.1)) (fs.map (·.2)))) a1) { D with nx := fun e2 a2 => wS (sLams i j cs g l e2 a2) D, ct := fun e2 a2 => wS (sLams i j cs g l e2 a2) D, bk := D.nx }) := by
  have e1 : sLams i j cs g (fb :: l) e a = (match Nat.blt i e.length with
    | true => xB (unp e i) (cau cs (fb (unp e i) a)) fun v a1 => match g (put (unp e i) j v) a1 with
      | .nx e2 a2 => sLams i j cs g l e2 a2
      | .ct e2 a2 => sLams i j cs g l e2 a2
      | .bk e2 a2 => .nx e2 a2
      | o => o
    | false => .no) := rfl
  rw [e1, h]
  show wS (xB (unp e i) (cau cs (fb (unp e i) a)) fun v a1 => match g (put (unp e i) j v) a1 with
      | .nx e2 a2 => sLams i j cs g l e2 a2
      | .ct e2 a2 => sLams i j cs g l e2 a2
      | .bk e2 a2 => .nx e2 a2
      | o => o) D = _
  have inn : ∀ v a1, wS (match g (put (unp e i) j v) a1 with
      | .nx e2 a2 => sLams i j cs g l e2 a2
      | .ct e2 a2 => sLams i j cs g l e2 a2
      | .bk e2 a2 => .nx e2 a2
      | o => o) D = wS (g (put (unp e i) j v) a1) { D with nx := fun e2 a2 => wS (sLams i j cs g l e2 a2) D, ct := fun e2 a2 => wS (sLams i j cs g l e2 a2) D, bk := D.nx } := by
    intro v a1
    cases g (put (unp e i) j v) a1 <;> rfl
  rw [w_xB, w_cauR]
  cases fb (unp e i) a with
  | ok v a1 => exact inn .non a1
  | er c fs a1 => exact congrArg (fun p : Prop => asc cs c = some true ∧ p) (inn _ a1)
  | no => rfl
theorem s_chunk {k i j : Nat} {cs : List (Str × Bool)} {g : GS} {l : List FE} : wS (sChunk k i j cs g l e a) D = wS (sLams i j cs g l (unp e k) a) D := propext ⟨fun h => h, fun h => h⟩
def xfW (cs : List Str) (f : Str) (v : PV) (P : PV → Prop) (_ : DP P := ()) : Prop := match v with
  | .exc c ns l => memS cs c = true ∧ wO (exl ns l f) P
  | _ => False
theorem w_xf {cs : List Str} {f : Str} {fe : FE} : wR (eXf cs f fe e a) Q X = wR (fe e a) (fun v a1 => xfW cs f v fun u => Q u a1) X := by
  unfold eXf
  rw [wR_b]
  refine wR_q fun v a1 => ?_
  cases v with
  | exc c ns l =>
    show wR (match memS cs c with | true => (match exl ns l f with | some u => R.ok u a1 | none => .no) | false => .no) Q X = (memS cs c = true ∧ wO (exl ns l f) fun u => Q u a1)
    cases memS cs c with
    | true =>
      cases exl ns l f with
      | some u => simp [wR, wO]
      | none => simp [wR, wO]
    | false => simp [wR]
  | _ => rfl
theorem xfW_s {v : PV} {P : PV → Prop} : xfW ["BadNumber", "BadSkin"] "part" (.exc "BadSkin" ["part"] [v]) P = P v := by
  have e1 : memS (["BadNumber", "BadSkin"] : List Str) "BadSkin" = true := rfl
  have e2 : exl (["part"] : List Str) [v] "part" = some v := rfl
  unfold xfW
  simp only [e1, e2, wO_some, true_and]
theorem xfW_n {v : PV} {P : PV → Prop} : xfW ["BadNumber", "BadSkin"] "part" (.exc "BadNumber" ["part"] [v]) P = P v := by
  have e1 : memS (["BadNumber", "BadSkin"] : List Str) "BadNumber" = true := rfl
  have e2 : exl (["part"] : List Str) [v] "part" = some v := rfl
  unfold xfW
  simp only [e1, e2, wO_some, true_and]
theorem asc_s : asc cauCs "BadSkin" = some true := rfl
theorem asc_n : asc cauCs "BadNumber" = some true := rfl
theorem asc_w : asc cauCs "BadWord" = some true := rfl
theorem asc_b : asc cauCs "BadBridge" = some true := rfl
theorem isx_s {ns : List Str} {l : List PV} : isV (fun _ => false) [] [("BadWord", false), ("BadNumber", false), ("BadSkin", true), ("BadBridge", false)] a (.exc "BadSkin" ns l) = some true := rfl
theorem isx_n {ns : List Str} {l : List PV} : isV (fun _ => false) [] [("BadWord", false), ("BadNumber", true), ("BadSkin", false), ("BadBridge", false)] a (.exc "BadNumber" ns l) = some true := rfl
theorem isx_w {ns : List Str} {l : List PV} : isV (fun _ => false) [] [("BadWord", true), ("BadNumber", false), ("BadSkin", false), ("BadBridge", false)] a (.exc "BadWord" ns l) = some true := rfl
theorem isx_b {ns : List Str} {l : List PV} : isV (fun _ => false) [] [("BadWord", false), ("BadNumber", false), ("BadSkin", false), ("BadBridge", true)] a (.exc "BadBridge" ns l) = some true := rfl
end
theorem rp_bands : Rp (.str "bands") 7 := ⟨by decide, by decide +kernel, by decide⟩
/-- one value that is no skin, asked three times -/
def rfB : GS := (sIf (eOr (eNot (eIsi (fun _ => false) [] [("BadWord", false), ("BadNumber", false), ("BadSkin", true), ("BadBridge", false)] (eVar 9))) (eBin cNe (eCB bRepr (aCons (eXf ["BadNumber", "BadSkin"] "part" (eVar 9)) aNil)) (eCB bRepr (aCons (eVar 6) aNil))))
    (sRet (eC (.bl false)))
    sNil)
section
theorem rf_body {p : PV} {dp : PyData} {n : Nat} (hp : ∀ a, toD a DEP p = some dp) (rp : Rp dp n) (hn : n ≤ LIM) {w0 w1 w2 w3 w4 w5 w7 w8 w10 w11 w12 w13 : Option PV} {a : AH} {D : En}
    (k : D.nx [w0, w1, w2, w3, w4, w5, some p, w7, w8, some (.exc "BadSkin" ["part"] [p]), w10, w11, w12, w13] a) :
    wS (rfB [w0, w1, w2, w3, w4, w5, some p, w7, w8, some (.exc "BadSkin" ["part"] [p]), w10, w11, w12, w13] a) D := by
  unfold rfB
  push_cast [isx_s, ↓w_xf, ↓xfW_s, ↓o_repr (hp a) rp hn, ↓o_neSS]
  exact k
theorem rf_chunk {th odd bad other p : PV} {dp : PyData} {n : Nat} (hp : ∀ a, toD a DEP p = some dp) (rp : Rp dp n) (hn : n ≤ LIM) {a : AH}
    (c1 : ∀ (Q : PV → AH → Prop) (X : EX), wR (F_bridge_of [th, odd, bad, odd] a) Q X = X "BadSkin" [("part", p)] a)
    (c2 : ∀ (Q : PV → AH → Prop) (X : EX), wR (F_is_bridge [th, other] a) Q X = X "BadSkin" [("part", p)] a)
    (c3 : ∀ (Q : PV → AH → Prop) (X : EX), wR (F_rims_at [th, other] a) Q X = X "BadSkin" [("part", p)] a)
    {w0 w1 w2 w3 w4 w5 w7 w8 w9 : Option PV} {D : En}
    (k : ∀ w8 w9, D.nx [w0, w1, w2, w3, w4, w5, some p, none, w8, w9, some bad, some odd, some other, some th] a) :
    wS (sChunk 7 8 9 cauCs rfB [(eCall F_bridge_of (aCons (eVar 13) (aCons (eVar 11) (aCons (eVar 10) (aCons (eVar 11) aNil))))), (eCall F_is_bridge (aCons (eVar 13) (aCons (eVar 12) aNil))), (eCall F_rims_at (aCons (eVar 13) (aCons (eVar 12) aNil)))]
      [w0, w1, w2, w3, w4, w5, some p, w7, w8, w9, some bad, some odd, some other, some th] a) D := by
  rw [s_chunk]
  show wS (sLams 8 9 cauCs rfB _ [w0, w1, w2, w3, w4, w5, some p, none, w8, w9, some bad, some odd, some other, some th] a) D
  rw [s_lam1 rfl]
  show wR (eCall F_bridge_of _ [w0, w1, w2, w3, w4, w5, some p, none, none, w9, some bad, some odd, some other, some th] a) _ _
  push_cast [↓c1]
  refine ⟨asc_s, ?_⟩
  show wS (rfB [w0, w1, w2, w3, w4, w5, some p, none, none, some (.exc "BadSkin" ["part"] [p]), some bad, some odd, some other, some th] a) _
  refine rf_body hp rp hn ?_
  dsimp only
  rw [s_lam1 rfl]
  show wR (eCall F_is_bridge _ [w0, w1, w2, w3, w4, w5, some p, none, none, some (.exc "BadSkin" ["part"] [p]), some bad, some odd, some other, some th] a) _ _
  push_cast [↓c2]
  refine ⟨asc_s, ?_⟩
  show wS (rfB [w0, w1, w2, w3, w4, w5, some p, none, none, some (.exc "BadSkin" ["part"] [p]), some bad, some odd, some other, some th] a) _
  refine rf_body hp rp hn ?_
  dsimp only
  rw [s_lam1 rfl]
  show wR (eCall F_rims_at _ [w0, w1, w2, w3, w4, w5, some p, none, none, some (.exc "BadSkin" ["part"] [p]), some bad, some odd, some other, some th] a) _ _
  push_cast [↓c3]
  refine ⟨asc_s, ?_⟩
  show wS (rfB [w0, w1, w2, w3, w4, w5, some p, none, none, some (.exc "BadSkin" ["part"] [p]), some bad, some odd, some other, some th] a) _
  refine rf_body hp rp hn ?_
  dsimp only
  rw [s_lam0]
  exact k _ _
end
end VI
end
section
set_option maxRecDepth 100000
/-! refused. -/
namespace VI
open PySem PySem.W PyProof.Rows

theorem rp01 : RP [0, 1] := ⟨List.Perm.refl _, by decide, by decide, by decide⟩
def big : List PV := (List.replicate 201 [PV.int 0]).flatten
theorem big_len : big.length = 201 := by
  unfold big
  simp
theorem big_nr : ∀ v ∈ big, nr v = true := by
  intro v hv
  unfold big at hv
  obtain ⟨l, hl, hv⟩ := List.mem_flatten.mp hv
  rw [List.eq_of_mem_replicate hl] at hv
  rw [List.mem_singleton.mp hv] <;> rfl
theorem o_mulB {a : AH} {P : PV × AH → Prop} : wO (bMul (.tup [.int 0]) (.int 201) a) P = P (.tup big, a) := by
  have e : bMul (.tup [.int 0]) (.int 201) a = (if (2 : Int) ≤ 201 ∧ (201 : Int) ≤ 1000 ∧ [PV.int 0].length ≤ 1000 then some (.tup (List.replicate (201 : Int).toNat [PV.int 0]).flatten, a) else none) := rfl
  rw [e, if_pos ⟨by omega, by omega, by simp⟩]
  rfl
/-- a word that is none -/
def Bdw (row : List Int) (a : AH) (w : PV) : Prop := (NoT a w) ∨ ∃ l, w = .tup l ∧ l.length ≤ LIM ∧ (∀ v ∈ l, nr v = true) ∧ (l.all (inr row) && decide (l.length ≤ 200)) = false
theorem Bdw.fr {row : List Int} {a b : AH} {v : PV} (h : Bdw row a v) (x : Fr a b) : Bdw row b v := by
  rcases h with h | h
  · exact .inl (h.fr x)
  · exact .inr h
def Ot (row : List Int) (a : AH) (v : PV) : Prop := No row a v ∨ v = tri (0, [], 0)
theorem Ot.fr {row : List Int} {a b : AH} {v : PV} (h : Ot row a v) (x : Fr a b) : Ot row b v := by
  rcases h with h | h
  · exact .inl (h.fr x)
  · exact .inr h
section
variable {a : AH} {Q : PV → AH → Prop} {X : EX}
theorem rf_ok {row : List Int} (h : RW row) {sk : Nat} (hs3 : 3 ≤ sk) (S : SkH a sk row) (H : Dw a) {w2 : PV} (k : ∀ a', Fr a a' → Dw a' → Q (.bl true) a') : wR (F__law_refused [.ref 1, .ref sk, w2] a) Q X := by
  have LM := LM40
  have lo := h.lo
  have hi := h.hi
  have n3 := H.n
  unfold F__law_refused
  refine Eq.mpr w_F ?_
  rw [if_pos (by rfl)]
  simp only [startE, List.map_cons, List.map_nil, List.length_cons, List.length_nil, Nat.reduceAdd, Nat.reduceSub, List.reduceReplicate, List.cons_append, List.nil_append]
  unfold g__law_refused
  push_cast [↓sk_row S.at_]
  refine sk_ok (u := [1]) rp01 fun a1 x1 R1 => ?_
  have H1 := H.xt x1
  have F1 := x1.fr
  have n1 := H1.n
  push_cast
  refine pk_ok (H1.new _) n1 (Nat.lt_succ_self _) get_new_eq (by simp) (by simp) fun no a2 hno F2 H2 => ?_
  have F2 := (Xt.new a1 _).fr.trans F2
  have n2 := H2.n
  push_cast
  refine pk_ok (H2.new _) n2 (Nat.lt_succ_self _) get_new_eq (by simp) (by simp) fun odd a3 hodd F3 H3 => ?_
  have F3 := F2.trans ((Xt.new a2 _).fr.trans F3)
  have n3' := H3.n
  push_cast [↓o_mulB]
  have gz : (a3.new (.lst [.int 0])).get a3.n = some (.lst [.int 0]) := get_new_eq
  have xz := Xt.new a3 (.lst [.int 0])
  have Hz := H3.new (.lst [.int 0])
  have ez : (a3.new (.lst [.int 0])).n = a3.n + 1 := rfl
  generalize a3.new (.lst [.int 0]) = a4 at *
  have Bz : NoT a4 (.ref a3.n) := .lst n3' (by omega) gz
  have n4 := Hz.n
  refine pk_ok (Hz.new _) n4 (Nat.lt_succ_self _) get_new_eq (by simp) (by simp) fun bad a5 hbad F5 H5 => ?_
  have G5 := (Xt.new a4 (.lst [.non, .ref a3.n, .tup [.int row.length], .tup big])).fr.trans F5
  have F5 := (F3.trans xz.fr).trans G5
  have hB : Bdw row a5 bad := by
    simp only [iw_len, List.mem_cons, List.not_mem_nil, or_false] at hbad
    rcases hbad with rfl | rfl | rfl | rfl
    · exact .inl .non
    · exact .inl (Bz.fr G5)
    · exact .inr ⟨_, rfl, by simp [LIM], fun v hv => by rw [List.mem_singleton.mp hv] <;> rfl, by rw [List.all_cons, inr_m, Bool.false_and, Bool.false_and]⟩
    · exact .inr ⟨_, rfl, by rw [big_len]; omega, big_nr, by rw [big_len, decide_eq_false (by omega), Bool.and_false]⟩
  have n5 := H5.n
  push_cast
  have gy : (a5.new (.lst [.int 0, .tup [], .int 2])).get a5.n = some (.lst [.int 0, .tup [], .int 2]) := get_new_eq
  have xy := Xt.new a5 (.lst [.int 0, .tup [], .int 2])
  have Hy := H5.new (.lst [.int 0, .tup [], .int 2])
  have ey : (a5.new (.lst [.int 0, .tup [], .int 2])).n = a5.n + 1 := rfl
  generalize a5.new (.lst [.int 0, .tup [], .int 2]) = a6 at *
  have Oy : NoT a6 (.ref a5.n) := .lst n5 (by omega) gy
  have n6 := Hy.n
  refine pk_ok (Hy.new _) n6 (Nat.lt_succ_self _) get_new_eq (by simp) (by simp) fun other a7 hoth F7 H7 => ?_
  have G7 := (Xt.new a6 _).fr.trans F7
  have F7' := (F5.trans xy.fr).trans G7
  have hO : Ot row a7 other := by
    simp only [iw_len, List.mem_cons, List.not_mem_nil, or_false] at hoth
    rcases hoth with rfl | rfl | rfl | rfl | rfl
    · exact .inl (.a .non)
    · exact .inr rfl
    · exact .inl (.b (by simp))
    · exact .inl (.a (Oy.fr G7))
    · exact .inl (.d (by simp) rfl rfl (fun v z => by cases z) (by rw [inr_m, Bool.false_and, Bool.false_and]))
  have hB7 := hB.fr (xy.fr.trans G7)
  have hN : nr no = true := by
    simp only [List.mem_cons, List.not_mem_nil, or_false] at hno
    rcases hno with rfl | rfl | rfl <;> rfl
  have hD : nr odd = true ∧ inr row odd = false := by
    simp only [iw_len, List.mem_cons, List.not_mem_nil, or_false] at hodd
    rcases hodd with rfl | rfl | rfl | rfl | rfl
    · exact ⟨rfl, inr_neg row⟩
    · exact ⟨rfl, inr_m row⟩
    · exact ⟨rfl, rfl⟩
    · exact ⟨rfl, rfl⟩
    · exact ⟨rfl, rfl⟩
  have F0 := F1.trans F7'
  have R7 := R1.fr n3 F7'
  have S7 := S.fr hs3 F0
  push_cast
  have gl : (a7.new (.lst [.tup [no, .non], .tup [.ref a.n, .str "bands"]])).get a7.n = some (.lst [.tup [no, .non], .tup [.ref a.n, .str "bands"]]) := get_new_eq
  have R8 := R7.fr n3 (Xt.new a7 (.lst [.tup [no, .non], .tup [.ref a.n, .str "bands"]])).fr
  have S8 := S7.fr hs3 (Xt.new a7 (.lst [.tup [no, .non], .tup [.ref a.n, .str "bands"]])).fr
  have F8 := F0.trans (Xt.new a7 (.lst [.tup [no, .non], .tup [.ref a.n, .str "bands"]])).fr
  have H8 := H7.new (.lst [.tup [no, .non], .tup [.ref a.n, .str "bands"]])
  have hB8 := hB7.fr (Xt.new a7 (.lst [.tup [no, .non], .tup [.ref a.n, .str "bands"]])).fr
  have hO8 := hO.fr (Xt.new a7 (.lst [.tup [no, .non], .tup [.ref a.n, .str "bands"]])).fr
  rw [it_ref gl]
  have tn : turns (a7.new (.lst [.tup [no, .non], .tup [.ref a.n, .str "bands"]])) (.hl a7.n 0) = 3 := by
    show lenO _ + 1 = _
    rw [gl] <;> rfl
  rw [tn]
  generalize a7.new (.lst [.tup [no, .non], .tup [.ref a.n, .str "bands"]]) = a8 at *
  refine w_for (fun a' => a' = a8) (fun l ev a' => a' = a8 ∧ ∃ (k : Nat) (w6 w8 w9 w13 : Option PV), k ≤ 2 ∧ l = ([.tup [no, .non], .tup [.ref a.n, .str "bands"]] : List PV).drop k ∧ ev = [some (.ref 1), some (.ref sk), some w2, some (.int row.length), some (.ref a.n), some no, w6, none, w8, w9, some bad, some odd, some other, w13]) (fun l ev a' z => z.1) ?_ ?_ _ _ _ _ _ (yl_hl fun a' z => by rw [z]; exact gl) (by simp) ⟨rfl, 0, none, none, none, none, by omega, rfl, rfl⟩
  · rintro ev a' ⟨rfl, k', w6, w8, w9, w13, hk, hl, rfl⟩
    push_cast [↓w_cau]
    refine bo_start h S8 hD.1 hD.2 ⟨asc_n, ?_⟩
    push_cast [List.map_cons, List.map_nil, isx_n, ↓w_xf, ↓xfW_n, ↓o_neSS]
    push_cast [↓w_cau]
    refine bo_word h S8 hB8 fun a9 x9 => ⟨asc_w, ?_⟩
    have S9 := S8.xt x9
    push_cast [List.map_cons, List.map_nil, isx_w, ↓w_cau]
    refine bo_end h S9 hD.1 hD.2 fun a10 x10 => ⟨asc_n, ?_⟩
    have S10 := S9.xt x10
    have hO10 := hO8.fr (x9.trans x10).fr
    push_cast [List.map_cons, List.map_nil, isx_n, ↓w_xf, ↓xfW_n, ↓o_neSS, ↓w_cau]
    have fin : ∀ a11, Xt a10 a11 → Q (.bl true) a11 := fun a11 x11 => k a11 (F8.trans ((x9.trans x10).trans x11).fr) (H8.xt ((x9.trans x10).trans x11))
    rcases hO10 with hN | rfl
    · refine ra_no h S10 hN fun a11 x11 => ⟨asc_b, ?_⟩
      push_cast [List.map_nil, isx_b]
      exact fin a11 x11
    · refine ra_long (t := (0, [], 0)) h S10 ⟨show 0 < row.length by omega, show 0 < row.length by omega, fun _ z => by cases z⟩ (Nat.zero_le _) ?_ fun a11 x11 => ⟨asc_b, ?_⟩
      · have e : BT3 row (0, [], 0) = none := by
          show base row 0 0 = none
          unfold base
          rw [if_pos rfl]
        rw [e]
        simp
      · push_cast [List.map_nil, isx_b]
        exact fin a11 x11
  · rintro v l ev a' ⟨rfl, k', w6, w8, w9, w13, hk, hl, rfl⟩
    rcases k' with _ | _ | k'
    · cases hl
      rw [gw_tu2, on_nx]
      refine rf_chunk (p := .non) toD_non rp_none (by omega) (fun Q X => bo_noskin hN) (fun Q X => ib_noskin hN) (fun Q X => ra_noskin hN) fun w8 w9 => ?_
      exact ⟨rfl, 1, _, _, _, _, by omega, rfl, rfl⟩
    · cases hl
      rw [gw_tu2, on_nx]
      refine rf_chunk (p := .str "bands") (fun a => toD_str a _) rp_bands (by omega) (fun Q X => bo_ring R8.at_ (by simp)) (fun Q X => ib_ring R8.at_ (by simp)) (fun Q X => ra_ring R8.at_ (by simp)) fun w8 w9 => ?_
      exact ⟨rfl, 2, _, _, _, _, by omega, rfl, rfl⟩
    · have k0 : k' = 0 := by omega
      subst k0
      cases hl
end
end VI
end
section
set_option maxRecDepth 100000
/-! One triple told right. -/
namespace VI
open PySem PySem.W PyProof.Rows

theorem BR_len {row : List Int} (h : RW row) {s e : Nat} {w : List Int} {d : Trp} (hw : LW row w) (z : BR row s w e = some d) : d.2.1.length ≤ w.length := by
  obtain ⟨p, q, v, s1, e1, K, lp, lq, lv⟩ := wks_ex h (s := s) (e := e) (lw_frd h hw)
  have L := congrArg List.length K.w
  have f := frd_len w
  rw [List.length_append, List.length_append, und_len, und_len] at L
  rw [pln_len z, K.t]
  show (und v).length ≤ _
  rw [und_len]
  omega
theorem o_neB {a : AH} {b c : Bool} {P : PV × AH → Prop} : wO (cNe (.bl b) (.bl c) a) P = P (.bl (!decide (b = c)), a) := by
  have e : cNe (.bl b) (.bl c) a = some (.bl (!PyData.eqv (.bool b) (.bool c)), a) := by
    unfold cNe
    rw [toD_bl]
    show (match toD a DEP (.bl c) with | some e => some (PV.bl (!PyData.eqv (.bool b) e), a) | none => none) = _
    rw [toD_bl]
  rw [e]
  have : PyData.eqv (.bool b) (.bool c) = decide (b = c) := by
    rw [PyData.eqv]
    cases b <;> cases c <;> rfl
  rw [this] <;> rfl
theorem o_isF {a : AH} {b : Bool} {P : PV × AH → Prop} : wO (cIs false (.bl b) (.bl false) a) P = P (.bl (!b), a) := by
  cases b <;> rfl
theorem rim_lt {row : List Int} (h : RW row) {g : Nat} (hg : g < row.length) : Lt row ((rimOf (SRm row) (row.getD g 0) : Nat) : Int) := by
  have R := rm_SR h
  obtain ⟨r, _, _, l⟩ := rimOf_at R (at_lt h hg).1
  have := R.fl
  unfold Lt
  omega
section
variable {a : AH} {Q : PV → AH → Prop} {X : EX}
theorem or_ok {row : List Int} (h : RW row) {sk : Nat} (hs3 : 3 ≤ sk) (S : SkH a sk row) (H : Dw a) {t : Trp} (T : Tv row t) (hl : t.2.1.length ≤ 150) (k : ∀ a', Fr a a' → Dw a' → Q (.bl true) a') : wR (F__law_one_right [.ref 1, .ref sk, .tup (iw row), tri t] a) Q X := by
  have LM := LM40
  have lo := h.lo
  have hi := h.hi
  have n3 := H.n
  have et : tri t = .tup [.int t.1, .tup (iw t.2.1), .int t.2.2] := rfl
  unfold F__law_one_right
  refine Eq.mpr w_F ?_
  rw [if_pos (by rfl)]
  simp only [startE, List.map_cons, List.map_nil, List.length_cons, List.length_nil, Nat.reduceAdd, Nat.reduceSub, List.reduceReplicate, List.cons_append, List.nil_append]
  unfold g__law_one_right
  rw [et]
  push_cast [at3_0, at3_1, at3_2]
  refine wR_of (lbr_ok h T.s T.e T.w (by omega) _) fun a1 x1 => ?_
  have S1 := S.xt x1
  push_cast [at3_0, at3_1, at3_2]
  refine bo_ok h S1 T (by omega) fun a2 x2 => ?_
  have eo : BR row t.1 t.2.1 t.2.2 = BT3 row t := rfl
  rw [eo]
  generalize ho : BT3 row t = o
  have To : ∀ d, o = some d → Tv row d ∧ d.2.1.length ≤ 400 ∧ BT3 row d = some d := by
    intro d hd
    subst hd
    have f := BR_fix h T.w T.s T.e ho
    exact ⟨⟨f.2.1, f.2.2.1, f.2.2.2⟩, by have := BR_len h T.w ho; omega, f.1⟩
  have RO : Rp (oD o) 2000 := rp_ofT hi fun d hd => ⟨(To d hd).1, (To d hd).2.1⟩
  have LM2 : 2000 ≤ LIM := by decide
  push_cast [↓o_repr (toD_ofT a2 o) RO LM2, ↓o_neSS]
  have s3 : smallI 3 = true := by
    rw [show (3 : Int) = ((3 : Nat) : Int) from rfl]
    exact smallN (by omega)
  have x12 := x1.trans x2
  push_cast [s3]
  refine w_for (fun _ => True) (fun l ev a' => ∃ w5 w6 w7 w8, ev = [some (.ref 1), some (.ref sk), some (.tup (iw row)), some (.tup [.int t.1, .tup (iw t.2.1), .int t.2.2]), some (ofT o), w5, w6, w7, w8, none, some (ofT o)] ∧ Fr a a' ∧ Dw a') (fun _ _ _ _ => trivial) ?_ ?_ _ _ _ _ _ (yl_rg (Int.toNat 3) 0) (by simp [turns]) ⟨none, none, none, none, rfl, x12.fr, H.xt x12⟩
  · rintro ev a' ⟨w5, w6, w7, w8, rfl, F, H'⟩
    have S' := S.fr hs3 F
    cases o with
    | none =>
      have e0 : ofT none = .non := rfl
      rw [e0]
      push_cast
      exact k a' F H'
    | some d =>
      obtain ⟨Td, ld, bd⟩ := To d rfl
      have e0 : ofT (some d) = .tup [.int d.1, .tup (iw d.2.1), .int d.2.2] := rfl
      have ed : tri d = .tup [.int d.1, .tup (iw d.2.1), .int d.2.2] := rfl
      rw [e0]
      push_cast [at3_1]
      by_cases h40 : d.2.1.length ≤ 40
      · refine if_f (by rw [decide_eq_false_iff_not]; omega) ?_
        push_cast [at3_0]
        refine wR_of (rn_ok h Td.s _) fun a3 x3 => ?_
        push_cast [at3_2]
        refine wR_of (rn_ok h Td.e _) fun a4 x4 => ?_
        have F4 := F.trans (x3.trans x4).fr
        have H4 := H'.xt (x3.trans x4)
        push_cast
        have gl : (a4.new (.lst [.int (rimOf (SRm row) (row.getD d.1 0)), .int (rimOf (SRm row) (row.getD d.2.2 0))])).get a4.n = some (.lst (iw [(rimOf (SRm row) (row.getD d.1 0) : Nat), (rimOf (SRm row) (row.getD d.2.2 0) : Nat)])) := get_new_eq
        have F5 := F4.trans (Xt.new a4 (.lst [.int (rimOf (SRm row) (row.getD d.1 0)), .int (rimOf (SRm row) (row.getD d.2.2 0))])).fr
        have H5 := H4.new (.lst [.int (rimOf (SRm row) (row.getD d.1 0)), .int (rimOf (SRm row) (row.getD d.2.2 0))])
        generalize a4.new (.lst [.int (rimOf (SRm row) (row.getD d.1 0)), .int (rimOf (SRm row) (row.getD d.2.2 0))]) = a5 at *
        push_cast [↓o_sortI gl]
        have gs : (a5.new (.lst (iw (srtI [(rimOf (SRm row) (row.getD d.1 0) : Nat), (rimOf (SRm row) (row.getD d.2.2 0) : Nat)])))).get a5.n = some (.lst (iw (srtI [(rimOf (SRm row) (row.getD d.1 0) : Nat), (rimOf (SRm row) (row.getD d.2.2 0) : Nat)]))) := get_new_eq
        have lr : LW row (srtI [(rimOf (SRm row) (row.getD d.1 0) : Nat), (rimOf (SRm row) (row.getD d.2.2 0) : Nat)]) := by
          intro c hc
          have hc := (isort_perm _ _).mem_iff.mp hc
          simp only [List.mem_cons, List.not_mem_nil, or_false] at hc
          rcases hc with rfl | rfl
          · exact rim_lt h Td.s
          · exact rim_lt h Td.e
        have ll : (srtI [(rimOf (SRm row) (row.getD d.1 0) : Nat), (rimOf (SRm row) (row.getD d.2.2 0) : Nat)]).length = 2 := (isort_perm _ _).length_eq
        have rk : ∀ a, SkH a sk row → ∃ a', F_rims_at [.ref sk, tri d] a = .ok (.tup (iw (srtI [(rimOf (SRm row) (row.getD d.1 0) : Nat), (rimOf (SRm row) (row.getD d.2.2 0) : Nat)]))) a' ∧ Xt a a' := fun a Sa => ra_ok h Sa Td.s Td.e Td.w h40 bd
        generalize srtI [(rimOf (SRm row) (row.getD d.1 0) : Nat), (rimOf (SRm row) (row.getD d.2.2 0) : Nat)] = W at *
        have F6 := F5.trans (Xt.new a5 (.lst (iw W))).fr
        have H6 := H5.new (.lst (iw W))
        generalize a5.new (.lst (iw W)) = a6 at *
        have S6 := S.fr hs3 F6
        have RW' : Rp (wD W) 20 := by
          have := rp_tup (rpL_iw hi W lr)
          exact ⟨this.sh, Nat.le_trans this.ln (by omega), this.nd⟩
        push_cast [↓o_tupL gs]
        rw [← ed]
        refine wR_of (rk a6 S6) fun a7 x7 => ?_
        have S7 := S6.xt x7
        push_cast [↓o_repr (toD_w a7 W) RW' (show 20 ≤ LIM by omega), ↓o_neSS]
        show wR (F_rims_at [.ref sk, tri d] a7) _ _
        refine wR_of (rk a7 S7) fun a8 x8 => ?_
        have S8 := S7.xt x8
        have F8 := F6.trans (x7.trans x8).fr
        have H8 := H6.xt (x7.trans x8)
        push_cast [↓o_repr (toD_w a8 W) RW' (show 20 ≤ LIM by omega), ↓o_neSS]
        refine jg_ok h hs3 S8 H8 Td h40 bd fun a9 F9 H9 => ?_
        push_cast
        refine rf_ok h hs3 (S8.fr hs3 F9) H9 fun a10 F10 H10 => ?_
        exact k a10 (F8.trans (F9.trans F10)) H10
      · refine if_t (by rw [decide_eq_true_iff]; omega) ?_
        push_cast
        rw [← ed]
        refine ib_ok h S' Td.s Td.e Td.w (by omega) fun a3 x3 => ?_
        rw [decide_eq_false h40, Bool.false_and]
        push_cast [↓o_isF, ↓w_cau]
        refine ra_long h (S'.xt x3) Td ld (by rw [decide_eq_false h40, Bool.false_and]) fun a4 x4 => ⟨asc_b, ?_⟩
        push_cast [List.map_nil, isx_b]
        exact k a4 (F.trans (x3.trans x4).fr) (H'.xt (x3.trans x4))
  · rintro v l ev a' ⟨w5, w6, w7, w8, rfl, F, H'⟩
    have S' := S.fr hs3 F
    rw [gw_nm, on_nx]
    push_cast
    rw [← et]
    refine wkd_ok (M := 200) h H' T (by omega) (by omega) fun t' a3 T' eB bl F3 H3 => ?_
    have et' : tri t' = .tup [.int t'.1, .tup (iw t'.2.1), .int t'.2.2] := rfl
    have F3 := F.trans F3
    have S3 := S.fr hs3 F3
    rw [et', et]
    push_cast
    show wR (F_bridge_of [.ref sk, .int t'.1, .tup (iw t'.2.1), .int t'.2.2] a3) _ _
    refine bo_ok h S3 T' (by omega) fun a4 x4 => ?_
    rw [eB, ho]
    have F4 := F3.trans x4.fr
    have H4 := H3.xt x4
    push_cast [↓o_repr (toD_ofT a4 o) RO LM2, ↓o_neSS]
    cases o with
    | none =>
      have e0 : ofT none = .non := rfl
      rw [e0]
      push_cast
      exact ⟨_, _, _, _, rfl, F4, H4⟩
    | some d =>
      obtain ⟨Td, ld, bd⟩ := To d rfl
      have e0 : ofT (some d) = .tup [.int d.1, .tup (iw d.2.1), .int d.2.2] := rfl
      rw [e0]
      push_cast
      rw [show PV.tup [.int t'.1, .tup (iw t'.2.1), .int t'.2.2] = tri (t'.1, t'.2.1, t'.2.2) from rfl]
      refine wR_mono (pf_ok h T'.s T'.e T'.w (by omega) a4) ?_ (fun _ _ _ z => z.elim)
      rintro v' a5 ⟨b, rfl, hb, x5⟩
      push_cast [at3_1, ↓o_neB]
      have eb : b = decide ((t'.2.1.length : Int) = d.2.1.length) := by
        have q := PF_iff h T'.w (show BR row t'.1 t'.2.1 t'.2.2 = some d from eB.trans ho)
        rw [q] at hb
        cases b with
        | true =>
          have := hb.mp rfl
          rw [decide_eq_true (by omega)]
        | false =>
          have z : ¬ (t'.2.1.length : Int) = d.2.1.length := fun z => by
            have := hb.mpr (by omega)
            cases this
          rw [decide_eq_false z]
      refine if_f (by rw [eb]; simp) ?_
      push_cast
      exact ⟨_, _, _, _, rfl, F4.trans x5.fr, H4.xt x5⟩
end
end VI
end
section
set_option maxRecDepth 100000
/-! The law's plain function answers True. -/
namespace VI
open PySem PySem.W PyProof.Rows

/-- comprehensions whose parts leave the heap as it is -/
def LcN (b : BT) (ft fe : FE) (e : Env) (p : PV → Bool) (f : PV → PV) (v : PV) : Prop := ∃ e1, b v e = some e1 ∧ (∀ a, ft e1 a = .ok (.bl (p v)) a) ∧ (p v = true → ∀ a, fe e1 a = .ok (f v) a)
theorem lc_n {b : BT} {ft fe : FE} {e : Env} {p : PV → Bool} {f : PV → PV} {d : Nat} : ∀ (l acc : List PV) (k : Nat) (a : AH), l.length < k → (∀ v ∈ l, LcN b ft fe e p f v) → a.get d = some (.lst acc) → acc.length + l.length ≤ LIM →
    ∃ a', lcL b ft fe d k (.seq l) e a = some a' ∧ a'.n = a.n ∧ a'.get d = some (.lst (acc ++ pick2 p f l)) ∧ ∀ i, i ≠ d → a'.get i = a.get i
  | _, _, 0, _, h, _, _, _ => absurd h (Nat.not_lt_zero _)
  | [], acc, k + 1, a, _, _, g, _ => ⟨a, rfl, rfl, by rw [g]; simp [pick2], fun _ _ => rfl⟩
  | v :: l, acc, k + 1, a, h, hp, g, hl => by
    obtain ⟨e1, h1, h2, h3⟩ := hp v List.mem_cons_self
    have hp' : ∀ w ∈ l, LcN b ft fe e p f w := fun w hw => hp w (List.mem_cons_of_mem _ hw)
    rw [List.length_cons] at h hl
    rw [lc_nxt (p' := .seq l) (v := v) rfl, h1]
    show ∃ a', (match ft e1 a with | .ok (.bl true) a1 => (match fe e1 a1 with | .ok u a2 => (match a2.get d with | some (.lst l0) => (match Nat.blt l0.length LIM with | true => lcL b ft fe d k (.seq l) e (a2.put d (.lst (l0 ++ [u]))) | false => none) | _ => none) | _ => none) | .ok (.bl false) a1 => lcL b ft fe d k (.seq l) e a1 | _ => none) = some a' ∧ _
    rw [h2]
    cases hv : p v with
    | false =>
      obtain ⟨a', r1, r2, r3, r4⟩ := lc_n l acc k a (by omega) hp' g (by omega)
      refine ⟨a', r1, r2, ?_, r4⟩
      rw [r3]
      simp [pick2, hv]
    | true =>
      show ∃ a', (match fe e1 a with | .ok u a2 => (match a2.get d with | some (.lst l0) => (match Nat.blt l0.length LIM with | true => lcL b ft fe d k (.seq l) e (a2.put d (.lst (l0 ++ [u]))) | false => none) | _ => none) | _ => none) = some a' ∧ _
      rw [h3 hv]
      show ∃ a', (match a.get d with | some (.lst l0) => (match Nat.blt l0.length LIM with | true => lcL b ft fe d k (.seq l) e (a.put d (.lst (l0 ++ [f v]))) | false => none) | _ => none) = some a' ∧ _
      rw [g]
      show ∃ a', (match Nat.blt acc.length LIM with | true => lcL b ft fe d k (.seq l) e (a.put d (.lst (acc ++ [f v]))) | false => none) = some a' ∧ _
      rw [show Nat.blt acc.length LIM = true from Nat.ble_eq_true_of_le (by omega)]
      obtain ⟨a', r1, r2, r3, r4⟩ := lc_n l (acc ++ [f v]) k (a.put d (.lst (acc ++ [f v]))) (by omega) hp' get_put_eq (by simp; omega)
      refine ⟨a', r1, r2, ?_, fun i hi => by rw [r4 i hi, get_put_ne hi]⟩
      rw [r3]
      simp [pick2, hv]
theorem lc_useN {vs : List Nat} {b : BT} {ft fe : FE} {e : Env} {a : AH} {fi : FI} {l : List PV} (hf : fi e a = .ok (.seq l) a) (p : PV → Bool) (f : PV → PV) (hl : l.length ≤ LIM) (hp : ∀ v ∈ l, LcN b ft fe (wipeE e vs) p f v) :
    ∃ a', eLc vs fi b ft fe e a = .ok (.ref a.n) a' ∧ a'.n = a.n + 1 ∧ a'.get a.n = some (.lst (pick2 p f l)) ∧ ∀ i, i < a.n → a'.get i = a.get i := by
  obtain ⟨a', r1, r2, r3, r4⟩ := lc_n (b := b) (ft := ft) (fe := fe) (e := wipeE e vs) (d := a.n) l [] (l.length + 1) (a.new (.lst [])) (Nat.lt_succ_self _) hp get_new_eq (by simpa using hl)
  refine ⟨a', ?_, r2, by simpa using r3, fun i hi => by rw [r4 i (by omega), get_new_lt hi]⟩
  unfold eLc
  rw [hf]
  show (match lcL b ft fe a.n (turns a (.seq l)) (.seq l) (wipeE e vs) (a.new (.lst [])) with | some a2 => R.ok (PV.ref a.n) a2 | none => .no) = _
  rw [show turns a (.seq l) = l.length + 1 from rfl, r1]
def absI (i : Int) : Int := if i < 0 then -i else i
def fAbs : PV → PV
  | .int i => .int (absI i)
  | v => v
def fLar : PV → PV
  | .int i => .int (absI i - 1000000000000000000)
  | v => v
def pLar : PV → Bool
  | .int i => decide (1000000000000000000 ≤ absI i)
  | _ => false
theorem abs_nn (i : Int) : 0 ≤ absI i := by
  unfold absI
  split <;> omega
theorem pick_lar : ∀ ns : List Int, ∃ L : List Int, pick2 pLar fLar (iw ns) = iw L ∧ (∀ x ∈ L, 0 ≤ x) ∧ L.length ≤ ns.length
  | [] => ⟨[], rfl, fun _ z => (by cases z), Nat.le_refl _⟩
  | i :: ns => by
    obtain ⟨L, e, h, l⟩ := pick_lar ns
    by_cases c : 1000000000000000000 ≤ absI i
    · refine ⟨(absI i - 1000000000000000000) :: L, ?_, fun x hx => ?_, by simp; omega⟩
      · show (match decide (1000000000000000000 ≤ absI i) with | true => fLar (.int i) :: pick2 pLar fLar (iw ns) | false => pick2 pLar fLar (iw ns)) = _
        rw [decide_eq_true c, e] <;> rfl
      · rcases List.mem_cons.mp hx with rfl | hx
        · omega
        · exact h x hx
    · refine ⟨L, ?_, h, by simp; omega⟩
      show (match decide (1000000000000000000 ≤ absI i) with | true => fLar (.int i) :: pick2 pLar fLar (iw ns) | false => pick2 pLar fLar (iw ns)) = _
      rw [decide_eq_false c]
      exact e
theorem pow18 (a : AH) : bPow (.int 10) (.int 18) a = some (.int 1000000000000000000, a) := by
  have e : bPow (.int 10) (.int 18) a = (match (decide ((0 : Int) ≤ 18) && decide ((18 : Int) ≤ 1000000) && decide ((10 : Int).natAbs < 2 ^ 64)) with | true => some (.int ((10 : Int) ^ (18 : Int).toNat), a) | false => none) := rfl
  rw [e]
  rfl
theorem ev_abs {e : Env} {a : AH} {k : Nat} {i : Int} (h : slot e k = some (.int i)) : eCB bAbs (aCons (eVar k) aNil) e a = .ok (.int (absI i)) a := ev_cb (ev_cons (ev_var h) ev_nil) rfl
theorem ev_p18 {e : Env} {a : AH} : eBin bPow (eC (.int 10)) (eC (.int 18)) e a = .ok (.int 1000000000000000000) a := ev_bin rfl rfl (pow18 a)
theorem ev_pc {fk fv : FE} {fr : FP} {e : Env} {a a1 a2 a3 : AH} {k v : PV} {ps : List (PV × PV)} (h1 : fk e a = .ok k a1) (h2 : fv e a1 = .ok v a2) (h3 : fr e a2 = .ok ps a3) : pCons fk fv fr e a = .ok ((k, v) :: ps) a3 := by
  unfold pCons
  rw [h1]
  show (fv e a1).bind _ = _
  rw [h2]
  show (fr e a2).bind _ = _
  rw [h3] <;> rfl
theorem bg_ok {ns : List Int} (hn : ns.length ≤ 63) : ∃ a', F__law_begun [.rol (iw ns)] ⟨0, .nil⟩ = .ok (.ref 1) a' ∧ Dw a' := by
  have LM := LM40
  obtain ⟨L, eL, hL, lL⟩ := pick_lar ns
  have nl : (iw ns).length ≤ LIM := by rw [iw_len]; omega
  obtain ⟨a1, r1, n1, g1, o1⟩ := lc_useN (vs := [2]) (b := bNm 2) (ft := eBin cGe (eCB bAbs (aCons (eVar 2) aNil)) (eBin bPow (eC (.int 10)) (eC (.int 18)))) (fe := eBin bSub (eCB bAbs (aCons (eVar 2) aNil)) (eBin bPow (eC (.int 10)) (eC (.int 18)))) (e := [some (.rol (iw ns)), none, none]) (a := ⟨0, .nil⟩) (fi := fVal (eVar 0)) (l := iw ns) rfl pLar fLar nl (fun v hv => by
    obtain ⟨i, _, rfl⟩ := iw_mem hv
    exact ⟨_, rfl, fun a => ev_bin (ev_abs rfl) ev_p18 rfl, fun _ a => ev_bin (ev_abs rfl) ev_p18 rfl⟩)
  have n1 : a1.n = 1 := n1
  have g1 : a1.get 0 = some (.lst (pick2 pLar fLar (iw ns))) := g1
  rw [eL] at g1
  have e2 : (a1.new (.dct [])).n = 2 := by rw [new_n, n1]
  obtain ⟨a3, r3, n3, g3, o3⟩ := lc_useN (vs := [2]) (b := bNm 2) (ft := eC (.bl true)) (fe := eCB bAbs (aCons (eVar 2) aNil)) (e := [some (.rol (iw ns)), some (.ref 0), none]) (a := a1.new (.dct [])) (fi := fVal (eVar 0)) (l := iw ns) rfl (fun _ => true) fAbs nl (fun v hv => by
    obtain ⟨i, _, rfl⟩ := iw_mem hv
    exact ⟨_, rfl, fun a => rfl, fun _ a => ev_abs rfl⟩)
  rw [e2] at n3 g3 o3 r3
  rw [pick2_T] at g3
  have eC2 : (iw ns).map fAbs = iw (ns.map absI) := by
    unfold iw
    rw [List.map_map, List.map_map] <;> rfl
  rw [eC2] at g3
  have gd : a3.get 1 = some (.dct []) := by rw [o3 1 (by omega), AH.get_new, if_pos n1.symm]
  have g0 : a3.get 0 = some (.lst (iw L)) := by rw [o3 0 (by omega), get_new_lt (by omega)]; exact g1
  refine ⟨a3.put 1 (.dct (dD 0 0)), ?_, ⟨by rw [put_n]; omega, ⟨L, by rw [get_put_ne (by omega)]; exact g0, hL, by omega⟩, ⟨0, 0, get_put_eq, by omega⟩, ⟨ns.map absI, by rw [get_put_ne (by omega)]; exact g3, fun x hx => by
    obtain ⟨i, _, rfl⟩ := List.mem_map.mp hx
    exact abs_nn i, by rw [List.length_map]; omega⟩⟩⟩
  show rsF (g__law_begun [some (.rol (iw ns)), none, none] ⟨0, .nil⟩) = _
  unfold g__law_begun
  rw [s_seq (s_set r1)]
  have ed : eDisp (pCons (eC (.str "large")) (eVar 1) (pCons (eC (.str "rest")) (eC (.int 0)) (pCons (eC (.str "cells")) (eLc [2] (fVal (eVar 0)) (bNm 2) (eC (.bl true)) (eCB bAbs (aCons (eVar 2) aNil))) (pCons (eC (.str "turn")) (eC (.int 0)) pNil)))) [some (.rol (iw ns)), some (.ref 0), none] a1 = .ok (.ref 1) (a3.put 1 (.dct (dD 0 0))) := by
    unfold eDisp
    have ep : (pCons (eC (.str "large")) (eVar 1) (pCons (eC (.str "rest")) (eC (.int 0)) (pCons (eC (.str "cells")) (eLc [2] (fVal (eVar 0)) (bNm 2) (eC (.bl true)) (eCB bAbs (aCons (eVar 2) aNil))) (pCons (eC (.str "turn")) (eC (.int 0)) pNil)))) [some (.rol (iw ns)), some (.ref 0), none] (a1.new (.dct [])) = .ok [(.str "large", .ref 0), (.str "rest", .int 0), (.str "cells", .ref 2), (.str "turn", .int 0)] a3 := by
      exact ev_pc rfl (ev_var rfl) (ev_pc rfl rfl (ev_pc rfl r3 (ev_pc rfl rfl rfl)))
    rw [ep]
    show (match a3.get a1.n with
      | some (.dct []) => (match keyedP [(PV.str "large", PV.ref 0), (.str "rest", .int 0), (.str "cells", .ref 2), (.str "turn", .int 0)] with
        | some kvs => (match Nat.ble kvs.length 15 with
          | true => R.ok (PV.ref a1.n) (a3.put a1.n (.dct (mergeP [] kvs)))
          | false => .no)
        | none => .no)
      | _ => .no) = _
    rw [n1, gd]
    rfl
  show rsF (sRet _ (put [some (.rol (iw ns)), none, none] 1 (.ref 0)) a1) = _
  show rsF (sRet _ [some (.rol (iw ns)), some (.ref 0), none] a1) = _
  rw [s_ret ed] <;> rfl
end VI
end
section
set_option maxRecDepth 100000
/-! The law. -/
namespace VI
open PySem PySem.W PyProof.Rows

def lwB : GS := (sSeq (sSet 3 (eBin bAdd (eC (.int 2)) (eCall F__law_take (aCons (eVar 1) (aCons (eC (.int 5)) aNil)))))
    (sSeq (sSet 4 (eCall F__law_row (aCons (eVar 1) (aCons (eVar 3) aNil))))
    (sIf (eNot (eCall F__law_one_right (aCons (eVar 1) (aCons (eMake "Skin" F_Skin (aCons (eVar 4) aNil)) (aCons (eVar 4) (aCons (eCall F__law_triple (aCons (eVar 1) (aCons (eVar 4) (aCons (eVar 3) aNil)))) aNil))))))
    (sRet (eC (.bl false)))
    sNil)))
section
theorem lw_body {a : AH} (H : Dw a) {w0 w2 w3 w4 : Option PV} {D : En} (k : ∀ a' w3 w4, Dw a' → D.nx [w0, some (.ref 1), w2, w3, w4] a') : wS (lwB [w0, some (.ref 1), w2, w3, w4] a) D := by
  unfold lwB
  push_cast
  refine tk_ok (n := 5) H (by omega) (by omega) fun r a1 hr F1 H1 => ?_
  have er : (2 : Int) + (r : Nat) = ((2 + r : Nat) : Int) := by omega
  push_cast
  rw [er]
  refine rw_ok (n := 2 + r) H1 (by omega) (by omega) fun u a2 R l F2 H2 => ?_
  have h : RW (0 :: u) := R.rw (by omega)
  have n2 := H2.n
  push_cast
  refine sk_ok R fun a3 x3 S3 => ?_
  have H3 := H2.xt x3
  push_cast
  refine tr_ok h H3 (n := 2 + r) l fun t a4 T tl F4 H4 => ?_
  have S4 := S3.fr n2 F4
  push_cast
  refine or_ok h n2 S4 H4 T tl fun a5 F5 H5 => ?_
  push_cast
  exact k _ _ _ H5
theorem law_true (ns : List Int) (hn : ns.length ≤ 63) : ∃ a', F_law [.rol (ns.map .int)] ⟨0, .nil⟩ = .ok (.bl true) a' := by
  have main : wR (F_law [.rol (iw ns)] ⟨0, .nil⟩) (fun v a => v = .bl true) nno := by
    obtain ⟨a1, r1, H1⟩ := bg_ok hn
    unfold F_law
    refine Eq.mpr w_F ?_
    rw [if_pos (by rfl)]
    simp only [startE, List.map_cons, List.map_nil, List.length_cons, List.length_nil, Nat.reduceAdd, Nat.reduceSub, List.reduceReplicate, List.cons_append, List.nil_append]
    unfold g_law
    rw [s_seq', s_set', w_call, w_cons, w_var, show slot _ 0 = some (PV.rol (iw ns)) from rfl, wO_some, w_nil, r1, wR_ok]
    dsimp only
    have em : ∀ P : PV × AH → Prop, wO (bMin [.int (ns.length : Nat), .int 3] a1) P = P (.int ((min ns.length 3 : Nat) : Int), a1) := by
      intro P
      have := o_minN (a := a1) (i := ns.length) (j := 3) (P := P)
      exact this
    have e2 : (2 : Int) + ((min ns.length 3 : Nat) : Int) = ((2 + min ns.length 3 : Nat) : Int) := by omega
    have sm : smallI ((2 + min ns.length 3 : Nat) : Int) = true := smallN (by omega)
    show wS (sSeq (sFor _ (gNm 2) lwB) _ [some (.rol (iw ns)), some (.ref 1), none, none, none] a1) _
    push_cast [o_lenR, ↓em, e2, sm]
    rw [Int.toNat_natCast]
    refine w_for (fun _ => True) (fun l ev a' => ∃ w2 w3 w4, ev = [some (.rol (iw ns)), some (.ref 1), w2, w3, w4] ∧ Dw a') (fun _ _ _ _ => trivial) ?_ ?_ _ _ _ _ _ (yl_rg (2 + min ns.length 3) 0) (by simp [turns]) ⟨none, none, none, rfl, H1⟩
    · rintro ev a' ⟨w2, w3, w4, rfl, H'⟩
      push_cast
    · rintro v l ev a' ⟨w2, w3, w4, rfl, H'⟩
      rw [gw_nm, on_nx]
      refine lw_body H' fun a2 w3 w4 H2 => ?_
      exact ⟨_, _, _, rfl, H2⟩
  cases q : F_law [.rol (iw ns)] ⟨0, .nil⟩ with
  | ok v a =>
    rw [q] at main
    have main : v = .bl true := by
      have := main
      unfold wR at this
      exact this
    exact ⟨a, by rw [main] at q; exact q⟩
  | er c fs a =>
    rw [q] at main
    unfold wR at main
    exact main.elim
  | no =>
    rw [q] at main
    unfold wR at main
    exact main.elim
end
end VI
end
end
section
set_option maxRecDepth 100000
set_option maxHeartbeats 4000000
/-! The walk. -/
namespace VI
open PySem PySem.Spec PyProof.Rows L2 PySem.SeqAt
def top (i : Nat) : Stmt := PySem.Challenge.pw_tautrounds_k78_bridges_plain.main.body.getD i (.Pass ⟨0, 0, 0, 0⟩)
def file : Str := PySem.Challenge.pw_tautrounds_k78_bridges_plain.main.file
abbrev s__law_begun : Stmt := top 43
abbrev N__law_begun : List Str := ["script", "large", "grain"]
theorem sc__law_begun : FnScope N__law_begun ["script"] (defScope s__law_begun) := ⟨rfl, rfl, rfl, by decide +kernel, rfl, by decide +kernel, by decide +kernel⟩
def d__law_begun : He.DefD := ⟨("_law_begun", none), "_law_begun", "_law_begun", defArgs s__law_begun, defBody s__law_begun, defScope s__law_begun, [], []⟩
abbrev s__law_mixed : Stmt := top 44
abbrev N__law_mixed : List Str := ["draw", "turn", "found", "great", "stirred", "cell"]
theorem sc__law_mixed : FnScope N__law_mixed ["draw"] (defScope s__law_mixed) := ⟨rfl, rfl, rfl, by decide +kernel, rfl, by decide +kernel, by decide +kernel⟩
def d__law_mixed : He.DefD := ⟨("_law_mixed", none), "_law_mixed", "_law_mixed", defArgs s__law_mixed, defBody s__law_mixed, defScope s__law_mixed, [], []⟩
abbrev s__law_take : Stmt := top 45
abbrev N__law_take : List Str := ["draw", "amount", "found"]
theorem sc__law_take : FnScope N__law_take ["draw", "amount"] (defScope s__law_take) := ⟨rfl, rfl, rfl, by decide +kernel, rfl, by decide +kernel, by decide +kernel⟩
def d__law_take : He.DefD := ⟨("_law_take", none), "_law_take", "_law_take", defArgs s__law_take, defBody s__law_take, defScope s__law_take, [], []⟩
abbrev s__law_shuffled : Stmt := top 47
abbrev N__law_shuffled : List Str := ["draw", "some", "left", "found"]
theorem sc__law_shuffled : FnScope N__law_shuffled ["draw", "some"] (defScope s__law_shuffled) := ⟨rfl, rfl, rfl, by decide +kernel, rfl, by decide +kernel, by decide +kernel⟩
def d__law_shuffled : He.DefD := ⟨("_law_shuffled", none), "_law_shuffled", "_law_shuffled", defArgs s__law_shuffled, defBody s__law_shuffled, defScope s__law_shuffled, [], []⟩
abbrev s__law_row : Stmt := top 49
abbrev N__law_row : List Str := ["draw", "bands"]
theorem sc__law_row : FnScope N__law_row ["draw", "bands"] (defScope s__law_row) := ⟨rfl, rfl, rfl, by decide +kernel, rfl, by decide +kernel, by decide +kernel⟩
def d__law_row : He.DefD := ⟨("_law_row", none), "_law_row", "_law_row", defArgs s__law_row, defBody s__law_row, defScope s__law_row, [], []⟩
abbrev s__law_freed : Stmt := top 51
abbrev N__law_freed : List Str := ["word", "left", "letter"]
theorem sc__law_freed : FnScope N__law_freed ["word"] (defScope s__law_freed) := ⟨rfl, rfl, rfl, by decide +kernel, rfl, by decide +kernel, by decide +kernel⟩
def d__law_freed : He.DefD := ⟨("_law_freed", none), "_law_freed", "_law_freed", defArgs s__law_freed, defBody s__law_freed, defScope s__law_freed, [], []⟩
abbrev s__law_walk : Stmt := top 55
abbrev N__law_walk : List Str := ["row", "gap", "letter", "place"]
theorem sc__law_walk : FnScope N__law_walk ["row", "gap", "letter"] (defScope s__law_walk) := ⟨rfl, rfl, rfl, by decide +kernel, rfl, by decide +kernel, by decide +kernel⟩
def d__law_walk : He.DefD := ⟨("_law_walk", none), "_law_walk", "_law_walk", defArgs s__law_walk, defBody s__law_walk, defScope s__law_walk, [], []⟩
abbrev s__law_tight : Stmt := top 56
abbrev N__law_tight : List Str := ["row", "start", "word", "end", "left", "going", "first", "last"]
theorem sc__law_tight : FnScope N__law_tight ["row", "start", "word", "end"] (defScope s__law_tight) := ⟨rfl, rfl, rfl, by decide +kernel, rfl, by decide +kernel, by decide +kernel⟩
def d__law_tight : He.DefD := ⟨("_law_tight", none), "_law_tight", "_law_tight", defArgs s__law_tight, defBody s__law_tight, defScope s__law_tight, [], []⟩
abbrev s__law_undone : Stmt := top 50
abbrev N__law_undone : List Str := ["word", "letter"]
theorem sc__law_undone : FnScope N__law_undone ["word"] (defScope s__law_undone) := ⟨rfl, rfl, rfl, by decide +kernel, rfl, by decide +kernel, by decide +kernel⟩
def d__law_undone : He.DefD := ⟨("_law_undone", none), "_law_undone", "_law_undone", defArgs s__law_undone, defBody s__law_undone, defScope s__law_undone, [], []⟩
abbrev s__law_bridge : Stmt := top 57
abbrev N__law_bridge : List Str := ["row", "start", "word", "end", "first", "left", "last", "found", "many", "one", "other", "place", "later"]
theorem sc__law_bridge : FnScope N__law_bridge ["row", "start", "word", "end"] (defScope s__law_bridge) := ⟨rfl, rfl, rfl, by decide +kernel, rfl, by decide +kernel, by decide +kernel⟩
def d__law_bridge : He.DefD := ⟨("_law_bridge", none), "_law_bridge", "_law_bridge", defArgs s__law_bridge, defBody s__law_bridge, defScope s__law_bridge, [], []⟩
abbrev s_need_skin : Stmt := top 18
abbrev N_need_skin : List Str := ["thing"]
theorem sc_need_skin : FnScope N_need_skin ["thing"] (defScope s_need_skin) := ⟨rfl, rfl, rfl, by decide +kernel, rfl, by decide +kernel, by decide +kernel⟩
def d_need_skin : He.DefD := ⟨("need_skin", none), "need_skin", "need_skin", defArgs s_need_skin, defBody s_need_skin, defScope s_need_skin, [], []⟩
abbrev s_need_bands : Stmt := top 32
abbrev N_need_bands : List Str := ["skin"]
theorem sc_need_bands : FnScope N_need_bands ["skin"] (defScope s_need_bands) := ⟨rfl, rfl, rfl, by decide +kernel, rfl, by decide +kernel, by decide +kernel⟩
def d_need_bands : He.DefD := ⟨("need_bands", none), "need_bands", "need_bands", defArgs s_need_bands, defBody s_need_bands, defScope s_need_bands, [], []⟩
abbrev s_is_number : Stmt := top 7
abbrev N_is_number : List Str := ["thing"]
theorem sc_is_number : FnScope N_is_number ["thing"] (defScope s_is_number) := ⟨rfl, rfl, rfl, by decide +kernel, rfl, by decide +kernel, by decide +kernel⟩
def d_is_number : He.DefD := ⟨("is_number", none), "is_number", "is_number", defArgs s_is_number, defBody s_is_number, defScope s_is_number, [], []⟩
abbrev s_is_between : Stmt := top 8
abbrev N_is_between : List Str := ["thing", "low", "high"]
theorem sc_is_between : FnScope N_is_between ["thing", "low", "high"] (defScope s_is_between) := ⟨rfl, rfl, rfl, by decide +kernel, rfl, by decide +kernel, by decide +kernel⟩
def d_is_between : He.DefD := ⟨("is_between", none), "is_between", "is_between", defArgs s_is_between, defBody s_is_between, defScope s_is_between, [], []⟩
abbrev s_need_between : Stmt := top 11
abbrev N_need_between : List Str := ["number", "low", "high", "part"]
theorem sc_need_between : FnScope N_need_between ["number", "low", "high", "part"] (defScope s_need_between) := ⟨rfl, rfl, rfl, by decide +kernel, rfl, by decide +kernel, by decide +kernel⟩
def d_need_between : He.DefD := ⟨("need_between", none), "need_between", "need_between", defArgs s_need_between, defBody s_need_between, defScope s_need_between, [], []⟩
abbrev s_is_letters : Stmt := top 24
abbrev N_is_letters : List Str := ["skin", "thing", "item"]
theorem sc_is_letters : FnScope N_is_letters ["skin", "thing"] (defScope s_is_letters) := ⟨rfl, rfl, rfl, by decide +kernel, rfl, by decide +kernel, by decide +kernel⟩
def d_is_letters : He.DefD := ⟨("is_letters", none), "is_letters", "is_letters", defArgs s_is_letters, defBody s_is_letters, defScope s_is_letters, [], []⟩
abbrev s_is_word : Stmt := top 25
abbrev N_is_word : List Str := ["skin", "thing"]
theorem sc_is_word : FnScope N_is_word ["skin", "thing"] (defScope s_is_word) := ⟨rfl, rfl, rfl, by decide +kernel, rfl, by decide +kernel, by decide +kernel⟩
def d_is_word : He.DefD := ⟨("is_word", none), "is_word", "is_word", defArgs s_is_word, defBody s_is_word, defScope s_is_word, [], []⟩
abbrev s_need_word : Stmt := top 26
abbrev N_need_word : List Str := ["skin", "thing"]
theorem sc_need_word : FnScope N_need_word ["skin", "thing"] (defScope s_need_word) := ⟨rfl, rfl, rfl, by decide +kernel, rfl, by decide +kernel, by decide +kernel⟩
def d_need_word : He.DefD := ⟨("need_word", none), "need_word", "need_word", defArgs s_need_word, defBody s_need_word, defScope s_need_word, [], []⟩
abbrev s_gap_behind : Stmt := top 33
abbrev N_gap_behind : List Str := ["row", "end"]
theorem sc_gap_behind : FnScope N_gap_behind ["row", "end"] (defScope s_gap_behind) := ⟨rfl, rfl, rfl, by decide +kernel, rfl, by decide +kernel, by decide +kernel⟩
def d_gap_behind : He.DefD := ⟨("gap_behind", none), "gap_behind", "gap_behind", defArgs s_gap_behind, defBody s_gap_behind, defScope s_gap_behind, [], []⟩
abbrev s_walked : Stmt := top 34
abbrev N_walked : List Str := ["row", "gap", "word", "spot", "far"]
theorem sc_walked : FnScope N_walked ["row", "gap", "word"] (defScope s_walked) := ⟨rfl, rfl, rfl, by decide +kernel, rfl, by decide +kernel, by decide +kernel⟩
def d_walked : He.DefD := ⟨("walked", none), "walked", "walked", defArgs s_walked, defBody s_walked, defScope s_walked, [], []⟩
abbrev s_freed : Stmt := top 27
abbrev N_freed : List Str := ["word", "found", "letter"]
theorem sc_freed : FnScope N_freed ["word"] (defScope s_freed) := ⟨rfl, rfl, rfl, by decide +kernel, rfl, by decide +kernel, by decide +kernel⟩
def d_freed : He.DefD := ⟨("freed", none), "freed", "freed", defArgs s_freed, defBody s_freed, defScope s_freed, [], []⟩
abbrev s_undone_of : Stmt := top 28
abbrev N_undone_of : List Str := ["word", "letter"]
theorem sc_undone_of : FnScope N_undone_of ["word"] (defScope s_undone_of) := ⟨rfl, rfl, rfl, by decide +kernel, rfl, by decide +kernel, by decide +kernel⟩
def d_undone_of : He.DefD := ⟨("undone_of", none), "undone_of", "undone_of", defArgs s_undone_of, defBody s_undone_of, defScope s_undone_of, [], []⟩
abbrev s_end_between : Stmt := top 35
abbrev N_end_between : List Str := ["row", "one", "other", "low", "high"]
theorem sc_end_between : FnScope N_end_between ["row", "one", "other"] (defScope s_end_between) := ⟨rfl, rfl, rfl, by decide +kernel, rfl, by decide +kernel, by decide +kernel⟩
def d_end_between : He.DefD := ⟨("end_between", none), "end_between", "end_between", defArgs s_end_between, defBody s_end_between, defScope s_end_between, [], []⟩
abbrev s_plain_bridge : Stmt := top 36
abbrev N_plain_bridge : List Str := ["row", "start", "word", "end", "rest", "back", "found", "between", "one", "other"]
theorem sc_plain_bridge : FnScope N_plain_bridge ["row", "start", "word", "end"] (defScope s_plain_bridge) := ⟨rfl, rfl, rfl, by decide +kernel, rfl, by decide +kernel, by decide +kernel⟩
def d_plain_bridge : He.DefD := ⟨("plain_bridge", none), "plain_bridge", "plain_bridge", defArgs s_plain_bridge, defBody s_plain_bridge, defScope s_plain_bridge, [], []⟩
abbrev s_bridge_of : Stmt := top 37
abbrev N_bridge_of : List Str := ["skin", "start", "word", "end"]
theorem sc_bridge_of : FnScope N_bridge_of ["skin", "start", "word", "end"] (defScope s_bridge_of) := ⟨rfl, rfl, rfl, by decide +kernel, rfl, by decide +kernel, by decide +kernel⟩
def d_bridge_of : He.DefD := ⟨("bridge_of", none), "bridge_of", "bridge_of", defArgs s_bridge_of, defBody s_bridge_of, defScope s_bridge_of, [], []⟩
abbrev s__law_pick : Stmt := top 46
abbrev N__law_pick : List Str := ["draw", "some"]
theorem sc__law_pick : FnScope N__law_pick ["draw", "some"] (defScope s__law_pick) := ⟨rfl, rfl, rfl, by decide +kernel, rfl, by decide +kernel, by decide +kernel⟩
def d__law_pick : He.DefD := ⟨("_law_pick", none), "_law_pick", "_law_pick", defArgs s__law_pick, defBody s__law_pick, defScope s__law_pick, [], []⟩
abbrev s__law_walked : Stmt := top 58
abbrev N__law_walked : List Str := ["draw", "row", "triple", "most", "start", "word", "end", "lap", "letter", "gap", "longer"]
theorem sc__law_walked : FnScope N__law_walked ["draw", "row", "triple", "most"] (defScope s__law_walked) := ⟨rfl, rfl, rfl, by decide +kernel, rfl, by decide +kernel, by decide +kernel⟩
def d__law_walked : He.DefD := ⟨("_law_walked", none), "_law_walked", "_law_walked", defArgs s__law_walked, defBody s__law_walked, defScope s__law_walked, [], []⟩
abbrev s__law_plain_fact : Stmt := top 60
abbrev N__law_plain_fact : List Str := ["row", "triple", "start", "word", "end", "beside"]
theorem sc__law_plain_fact : FnScope N__law_plain_fact ["row", "triple"] (defScope s__law_plain_fact) := ⟨rfl, rfl, rfl, by decide +kernel, rfl, by decide +kernel, by decide +kernel⟩
def d__law_plain_fact : He.DefD := ⟨("_law_plain_fact", none), "_law_plain_fact", "_law_plain_fact", defArgs s__law_plain_fact, defBody s__law_plain_fact, defScope s__law_plain_fact, [], []⟩
abbrev s_is_tuple : Stmt := top 10
abbrev N_is_tuple : List Str := ["thing", "size"]
theorem sc_is_tuple : FnScope N_is_tuple ["thing", "size"] (defScope s_is_tuple) := ⟨rfl, rfl, rfl, by decide +kernel, rfl, by decide +kernel, by decide +kernel⟩
def d_is_tuple : He.DefD := ⟨("is_tuple", none), "is_tuple", "is_tuple", defArgs s_is_tuple, defBody s_is_tuple, defScope s_is_tuple, [], []⟩
abbrev s_is_bridge_of : Stmt := top 38
abbrev N_is_bridge_of : List Str := ["skin", "thing", "longest", "gap"]
theorem sc_is_bridge_of : FnScope N_is_bridge_of ["skin", "thing", "longest"] (defScope s_is_bridge_of) := ⟨rfl, rfl, rfl, by decide +kernel, rfl, by decide +kernel, by decide +kernel⟩
def d_is_bridge_of : He.DefD := ⟨("is_bridge_of", none), "is_bridge_of", "is_bridge_of", defArgs s_is_bridge_of, defBody s_is_bridge_of, defScope s_is_bridge_of, [.int (40)], []⟩
abbrev s_is_bridge : Stmt := top 39
abbrev N_is_bridge : List Str := ["skin", "thing"]
theorem sc_is_bridge : FnScope N_is_bridge ["skin", "thing"] (defScope s_is_bridge) := ⟨rfl, rfl, rfl, by decide +kernel, rfl, by decide +kernel, by decide +kernel⟩
def d_is_bridge : He.DefD := ⟨("is_bridge", none), "is_bridge", "is_bridge", defArgs s_is_bridge, defBody s_is_bridge, defScope s_is_bridge, [], []⟩
abbrev s_need_bridge : Stmt := top 40
abbrev N_need_bridge : List Str := ["skin", "thing"]
theorem sc_need_bridge : FnScope N_need_bridge ["skin", "thing"] (defScope s_need_bridge) := ⟨rfl, rfl, rfl, by decide +kernel, rfl, by decide +kernel, by decide +kernel⟩
def d_need_bridge : He.DefD := ⟨("need_bridge", none), "need_bridge", "need_bridge", defArgs s_need_bridge, defBody s_need_bridge, defScope s_need_bridge, [], []⟩
abbrev s_end_behind : Stmt := top 19
abbrev N_end_behind : List Str := ["row", "end"]
theorem sc_end_behind : FnScope N_end_behind ["row", "end"] (defScope s_end_behind) := ⟨rfl, rfl, rfl, by decide +kernel, rfl, by decide +kernel, by decide +kernel⟩
def d_end_behind : He.DefD := ⟨("end_behind", none), "end_behind", "end_behind", defArgs s_end_behind, defBody s_end_behind, defScope s_end_behind, [], []⟩
abbrev s_least_turn : Stmt := top 20
abbrev N_least_turn : List Str := ["word", "spot"]
theorem sc_least_turn : FnScope N_least_turn ["word"] (defScope s_least_turn) := ⟨rfl, rfl, rfl, by decide +kernel, rfl, by decide +kernel, by decide +kernel⟩
def d_least_turn : He.DefD := ⟨("least_turn", none), "least_turn", "least_turn", defArgs s_least_turn, defBody s_least_turn, defScope s_least_turn, [], []⟩
abbrev s_rims_of : Stmt := top 21
abbrev N_rims_of : List Str := ["skin", "found", "met", "end", "rim", "letter"]
theorem sc_rims_of : FnScope N_rims_of ["skin"] (defScope s_rims_of) := ⟨rfl, rfl, rfl, by decide +kernel, rfl, by decide +kernel, by decide +kernel⟩
def d_rims_of : He.DefD := ⟨("rims_of", none), "rims_of", "rims_of", defArgs s_rims_of, defBody s_rims_of, defScope s_rims_of, [], []⟩
abbrev s_rims_at : Stmt := top 41
abbrev N_rims_at : List Str := ["skin", "bridge", "places", "place", "rim", "end", "gap"]
theorem sc_rims_at : FnScope N_rims_at ["skin", "bridge"] (defScope s_rims_at) := ⟨rfl, rfl, rfl, by decide +kernel, rfl, by decide +kernel, by decide +kernel⟩
def d_rims_at : He.DefD := ⟨("rims_at", none), "rims_at", "rims_at", defArgs s_rims_at, defBody s_rims_at, defScope s_rims_at, [], []⟩
abbrev s__law_turn : Stmt := top 52
abbrev N__law_turn : List Str := ["word", "spot"]
theorem sc__law_turn : FnScope N__law_turn ["word"] (defScope s__law_turn) := ⟨rfl, rfl, rfl, by decide +kernel, rfl, by decide +kernel, by decide +kernel⟩
def d__law_turn : He.DefD := ⟨("_law_turn", none), "_law_turn", "_law_turn", defArgs s__law_turn, defBody s__law_turn, defScope s__law_turn, [], []⟩
abbrev s__law_rims : Stmt := top 54
abbrev N__law_rims : List Str := ["row", "met", "found", "end", "word", "letter"]
theorem sc__law_rims : FnScope N__law_rims ["row"] (defScope s__law_rims) := ⟨rfl, rfl, rfl, by decide +kernel, rfl, by decide +kernel, by decide +kernel⟩
def d__law_rims : He.DefD := ⟨("_law_rims", none), "_law_rims", "_law_rims", defArgs s__law_rims, defBody s__law_rims, defScope s__law_rims, [], []⟩
abbrev s__law_rim_number : Stmt := top 61
abbrev N__law_rim_number : List Str := ["row", "gap", "rims_here", "place", "rim"]
theorem sc__law_rim_number : FnScope N__law_rim_number ["row", "gap"] (defScope s__law_rim_number) := ⟨rfl, rfl, rfl, by decide +kernel, rfl, by decide +kernel, by decide +kernel⟩
def d__law_rim_number : He.DefD := ⟨("_law_rim_number", none), "_law_rim_number", "_law_rim_number", defArgs s__law_rim_number, defBody s__law_rim_number, defScope s__law_rim_number, [], []⟩
abbrev s__law_is_plain : Stmt := top 62
abbrev N__law_is_plain : List Str := ["row", "thing", "number"]
theorem sc__law_is_plain : FnScope N__law_is_plain ["row", "thing"] (defScope s__law_is_plain) := ⟨rfl, rfl, rfl, by decide +kernel, rfl, by decide +kernel, by decide +kernel⟩
def d__law_is_plain : He.DefD := ⟨("_law_is_plain", none), "_law_is_plain", "_law_is_plain", defArgs s__law_is_plain, defBody s__law_is_plain, defScope s__law_is_plain, [], []⟩
abbrev s__law_judged : Stmt := top 63
abbrev N__law_judged : List Str := ["draw", "skin", "row", "bridge", "start", "word", "end", "many", "some", "thing"]
theorem sc__law_judged : FnScope N__law_judged ["draw", "skin", "row", "bridge"] (defScope s__law_judged) := ⟨rfl, rfl, rfl, by decide +kernel, rfl, by decide +kernel, by decide +kernel⟩
def d__law_judged : He.DefD := ⟨("_law_judged", none), "_law_judged", "_law_judged", defArgs s__law_judged, defBody s__law_judged, defScope s__law_judged, [], []⟩
abbrev s_is_list : Stmt := top 9
abbrev N_is_list : List Str := ["thing"]
theorem sc_is_list : FnScope N_is_list ["thing"] (defScope s_is_list) := ⟨rfl, rfl, rfl, by decide +kernel, rfl, by decide +kernel, by decide +kernel⟩
def d_is_list : He.DefD := ⟨("is_list", none), "is_list", "is_list", defArgs s_is_list, defBody s_is_list, defScope s_is_list, [], []⟩
abbrev s_is_sequence : Stmt := top 15
abbrev N_is_sequence : List Str := ["thing", "size", "item"]
theorem sc_is_sequence : FnScope N_is_sequence ["thing", "size"] (defScope s_is_sequence) := ⟨rfl, rfl, rfl, by decide +kernel, rfl, by decide +kernel, by decide +kernel⟩
def d_is_sequence : He.DefD := ⟨("is_sequence", none), "is_sequence", "is_sequence", defArgs s_is_sequence, defBody s_is_sequence, defScope s_is_sequence, [], []⟩
abbrev s_is_row : Stmt := top 16
abbrev N_is_row : List Str := ["thing"]
theorem sc_is_row : FnScope N_is_row ["thing"] (defScope s_is_row) := ⟨rfl, rfl, rfl, by decide +kernel, rfl, by decide +kernel, by decide +kernel⟩
def d_is_row : He.DefD := ⟨("is_row", none), "is_row", "is_row", defArgs s_is_row, defBody s_is_row, defScope s_is_row, [], []⟩
abbrev s_Skin : Stmt := inner (top 17) 0
abbrev N_Skin : List Str := ["self", "row", "begin"]
theorem sc_Skin : FnScope N_Skin ["self", "row"] (defScope s_Skin) := ⟨rfl, rfl, rfl, by decide +kernel, rfl, by decide +kernel, by decide +kernel⟩
def d_Skin : He.DefD := ⟨("Skin", some "__init__"), "__init__", "Skin.__init__", defArgs s_Skin, defBody s_Skin, defScope s_Skin, [], []⟩
abbrev s__law_refused : Stmt := top 64
abbrev N__law_refused : List Str := ["draw", "skin", "bridge", "many", "ring", "no", "part", "works", "work", "caught", "bad", "odd", "other", "thing"]
theorem sc__law_refused : FnScope N__law_refused ["draw", "skin", "bridge"] (defScope s__law_refused) := ⟨rfl, rfl, rfl, by decide +kernel, rfl, by decide +kernel, by decide +kernel⟩
def d__law_refused : He.DefD := ⟨("_law_refused", none), "_law_refused", "_law_refused", defArgs s__law_refused, defBody s__law_refused, defScope s__law_refused, [], []⟩
abbrev s__law_one_right : Stmt := top 65
abbrev N__law_one_right : List Str := ["draw", "skin", "row", "triple", "found", "lap", "start", "word", "end", "rims_due", "due"]
theorem sc__law_one_right : FnScope N__law_one_right ["draw", "skin", "row", "triple"] (defScope s__law_one_right) := ⟨rfl, rfl, rfl, by decide +kernel, rfl, by decide +kernel, by decide +kernel⟩
def d__law_one_right : He.DefD := ⟨("_law_one_right", none), "_law_one_right", "_law_one_right", defArgs s__law_one_right, defBody s__law_one_right, defScope s__law_one_right, [], []⟩
abbrev s__law_word : Stmt := top 53
abbrev N__law_word : List Str := ["draw", "bands", "many", "found", "spot", "barred", "some", "letter"]
theorem sc__law_word : FnScope N__law_word ["draw", "bands", "many"] (defScope s__law_word) := ⟨rfl, rfl, rfl, by decide +kernel, rfl, by decide +kernel, by decide +kernel⟩
def d__law_word : He.DefD := ⟨("_law_word", none), "_law_word", "_law_word", defArgs s__law_word, defBody s__law_word, defScope s__law_word, [], []⟩
abbrev s__law_triple : Stmt := top 59
abbrev N__law_triple : List Str := ["draw", "row", "bands", "many", "way", "start", "end", "size"]
theorem sc__law_triple : FnScope N__law_triple ["draw", "row", "bands"] (defScope s__law_triple) := ⟨rfl, rfl, rfl, by decide +kernel, rfl, by decide +kernel, by decide +kernel⟩
def d__law_triple : He.DefD := ⟨("_law_triple", none), "_law_triple", "_law_triple", defArgs s__law_triple, defBody s__law_triple, defScope s__law_triple, [], []⟩
abbrev s_law : Stmt := top 66
abbrev N_law : List Str := ["script", "draw", "turn", "bands", "row"]
theorem sc_law : FnScope N_law ["script"] (defScope s_law) := ⟨rfl, rfl, rfl, by decide +kernel, rfl, by decide +kernel, by decide +kernel⟩
def d_law : He.DefD := ⟨("law", none), "law", "law", defArgs s_law, defBody s_law, defScope s_law, [], []⟩
abbrev s__law_caught : Stmt := top 48
def d__law_caught : He.DefD := ⟨("_law_caught", none), "_law_caught", "_law_caught", defArgs s__law_caught, defBody s__law_caught, defScope s__law_caught, [], []⟩
abbrev s_BadSkin : Stmt := inner (top 4) 0
def bd_BadSkin : BadD := ⟨"BadSkin", "BadSkin.__init__", defArgs s_BadSkin, defBody s_BadSkin, defScope s_BadSkin⟩
abbrev s_BadNumber : Stmt := inner (top 3) 0
def bd_BadNumber : BadD := ⟨"BadNumber", "BadNumber.__init__", defArgs s_BadNumber, defBody s_BadNumber, defScope s_BadNumber⟩
def exs : List (PySem.W.Frag → Bool) := [isB "Skin" [("Skin", true)] [],
  isB "BadBridge" [] [("BadWord", false), ("BadNumber", false), ("BadSkin", false), ("BadBridge", true)],
  isB "BadSkin" [] [("BadWord", false), ("BadNumber", false), ("BadSkin", true), ("BadBridge", false)],
  xfs ["BadNumber", "BadSkin"] "part",
  isB "BadNumber" [] [("BadWord", false), ("BadNumber", true), ("BadSkin", false), ("BadBridge", false)],
  isB "BadWord" [] [("BadWord", true), ("BadNumber", false), ("BadSkin", false), ("BadBridge", false)],
  tabD,
  (badB file · bd_BadSkin),
  (badB file · bd_BadNumber)]
def hd : Hd where
  n := 6
  fa := [.free "abs", .glo "_law_begun", .free "len", .free "min", .free "range", .free "int", .glo "_law_mixed", .glo "_law_take", .free "list", .glo "_law_shuffled", .free "tuple", .glo "_law_row", .glo "_law_freed", .glo "_law_walk", .glo "_law_tight", .glo "_law_undone", .free "max", .glo "_law_bridge", .free "isinstance", .glo "Skin", .free "super", .glo "BadSkin", .glo "need_skin", .cls "Skin", .int "FEWEST_BANDS" (2), .glo "need_bands", .free "bool", .glo "is_number", .glo "is_between", .glo "BadNumber", .glo "need_between", .free "all", .glo "is_letters", .int "LONGEST_WORD" (200), .glo "is_word", .glo "BadWord", .exc "BadWord", .glo "need_word", .glo "gap_behind", .glo "walked", .glo "freed", .glo "undone_of", .glo "end_between", .glo "plain_bridge", .glo "bridge_of", .free "repr", .glo "_law_pick", .glo "_law_walked", .glo "_law_plain_fact", .glo "is_tuple", .glo "is_bridge_of", .glo "is_bridge", .glo "BadBridge", .exc "BadBridge", .glo "need_bridge", .glo "end_behind", .glo "least_turn", .free "sorted", .glo "rims_of", .free "enumerate", .glo "rims_at", .glo "_law_turn", .glo "_law_rims", .glo "_law_rim_number", .glo "_law_is_plain", .glo "_law_judged", .glo "is_list", .int "LEAST_ENDS" (2), .int "MOST_ENDS" (12), .glo "is_sequence", .glo "is_row", .mkr "Skin", .glo "_law_refused", .glo "_law_one_right", .glo "_law_word", .glo "_law_triple", .glo "law", .glo "_law_caught", .glo "RoundError", .exm "BadWord" "RoundError" true, .exm "BadNumber" "RoundError" true, .exm "BadSkin" "RoundError" true, .exm "BadBridge" "RoundError" true, .noat "Skin" "row", .noat "Skin" "bands"]
  fn := [d__law_begun, d__law_mixed, d__law_take, d__law_shuffled, d__law_row, d__law_freed, d__law_walk, d__law_tight, d__law_undone, d__law_bridge, d_need_skin, d_need_bands, d_is_number, d_is_between, d_need_between, d_is_letters, d_is_word, d_need_word, d_gap_behind, d_walked, d_freed, d_undone_of, d_end_between, d_plain_bridge, d_bridge_of, d__law_pick, d__law_walked, d__law_plain_fact, d_is_tuple, d_is_bridge_of, d_is_bridge, d_need_bridge, d_end_behind, d_least_turn, d_rims_of, d_rims_at, d__law_turn, d__law_rims, d__law_rim_number, d__law_is_plain, d__law_judged, d_is_list, d_is_sequence, d_is_row, d_Skin, d__law_refused, d__law_one_right, d__law_word, d__law_triple, d_law, d__law_caught]
  cl := [bd_BadSkin, bd_BadNumber]
  ex := fun K => exs.all fun e => e K
abbrev Fz (P : Program) (K : PySem.W.Frag) (mg : Str → Option Value) (base : Heap) : Prop := Fx hd exs file P K mg base
section
variable {P : Program} {w : World} {K : PySem.W.Frag} {mg : Str → Option Value} {base : Heap}
theorem fld_row (Z : Fz P K mg base) : FldOk K ["Skin"] "row" := fun c hc => by
  have e : c = "Skin" := by simpa using hc
  subst e
  exact ⟨He.cls_ok (Z.fact 23 rfl), He.noat_ok (Z.fact 83 rfl)⟩
theorem fld_bands (Z : Fz P K mg base) : FldOk K ["Skin"] "bands" := fun c hc => by
  have e : c = "Skin" := by simpa using hc
  subst e
  exact ⟨He.cls_ok (Z.fact 23 rfl), He.noat_ok (Z.fact 84 rfl)⟩
theorem bad_BadSkin (Z : Fz P K mg base) : BadC P K (He.ga K "BadSkin") (He.ma K (He.ga K "BadSkin") "__init__") := Z.bad 0 (d := bd_BadSkin) rfl (Z.ex 7) ⟨_, _, _, _, _, _, _, _, _, _, _, _, _, _, rfl, rfl, by decide⟩ (by decide +kernel)
theorem bad_BadNumber (Z : Fz P K mg base) : BadC P K (He.ga K "BadNumber") (He.ma K (He.ga K "BadNumber") "__init__") := Z.bad 1 (d := bd_BadNumber) rfl (Z.ex 8) ⟨_, _, _, _, _, _, _, _, _, _, _, _, _, _, rfl, rfl, by decide⟩ (by decide +kernel)
theorem cau_cs (Z : Fz P K mg base) : ∀ p ∈ cauCs, PySem.W.exmOne K (.ref (He.ga K p.1)) (.ref (He.ga K "RoundError")) = some p.2 := fun p hp => by
  simp only [cauCs, List.mem_cons, List.not_mem_nil, or_false] at hp
  rcases hp with rfl | rfl | rfl | rfl
  · exact He.exm_ok (Z.fact 79 rfl)
  · exact He.exm_ok (Z.fact 80 rfl)
  · exact He.exm_ok (Z.fact 81 rfl)
  · exact He.exm_ok (Z.fact 82 rfl)
theorem sc__law_caught : FnScope cauN ["work"] (defScope s__law_caught) := ⟨rfl, rfl, rfl, by decide +kernel, rfl, by decide +kernel, by decide +kernel⟩
theorem cauD_Z (Z : Fz P K mg base) : CauD K mg (He.fAd K ("_law_caught", none)) := by
  obtain ⟨fd, D⟩ := Z.fn 50 (d := d__law_caught)
  exact cauD_of D ⟨_, _, _, _, _, _, _, _, _, _, _, _, _, _, _, ⟨0, 0, 0, 0⟩, rfl⟩ sc__law_caught (fun _ _ _ _ _ _ us hl => match us, hl with | [_], _ => rfl) (by decide +kernel) (by decide +kernel) (by decide +kernel) (by decide +kernel) (Z.glo 77) (Z.glo 78)
theorem ok__law_begun (Z : Fz P K mg base) {f : Addr} {fd : FuncData} (D : FunD K "_law_begun" "_law_begun" (defArgs s__law_begun) (defBody s__law_begun) (defScope s__law_begun) [] [] f fd) : FnOk P w K mg base (L2.CX P w) 1 f fd ["script"] (spF K F__law_begun) := okF (k := 0) (g := g__law_begun) (N := N__law_begun) D sc__law_begun fun cdv A outer s H E hr tk =>
  (sx_cons (sx_setLc (w := false) (own := [("grain", 2)]) 1 rfl sc__law_begun.nd (vi_val (v_var 0)) (by show BlkOk N__law_begun (defScope s__law_begun) _ _; exact ⟨rfl, by decide +kernel, by decide +kernel, by decide +kernel, by decide +kernel⟩) (b_nm 2 sc__law_begun.nd) (bt_one fun s H C cl fp => (vt_cmp op_cGe (v_cb c_abs (Z.fr 0) (by rfl) (va_cons (v_var 2) va_nil)) (v_bin op_bPow v_int v_int))) (fun s H C cl fp => (v_bin op_bSub (v_cb c_abs (Z.fr 0) (by rfl) (va_cons (v_var 2) va_nil)) (v_bin op_bPow v_int v_int))))
    (sx_one (sx_ret (v_disp (pp_cons v_str (v_var 1) (pp_cons v_str v_int (pp_cons v_str (v_lc (w := false) (own := [("grain", 2)]) rfl sc__law_begun.nd (vi_val (v_var 0)) (by show BlkOk N__law_begun (defScope s__law_begun) _ _; exact ⟨rfl, by decide +kernel, by decide +kernel, by decide +kernel, by decide +kernel⟩) (b_nm 2 sc__law_begun.nd) bt_nil (fun s H C cl fp => (v_cb c_abs (Z.fr 0) (by rfl) (va_cons (v_var 2) va_nil)))) (pp_cons v_str v_int pp_nil))))))))
theorem has__law_begun (Z : Fz P K mg base) : HasP P w K mg base 1 "_law_begun" ["script"] F__law_begun := by
  obtain ⟨fd, D⟩ := Z.fn 0 (d := d__law_begun)
  exact ⟨_, fd, ok__law_begun Z D, (Z.glo 1), D.kp, D.bindsN fun _ _ _ _ _ _ us hl => match us, hl with | [_], _ => rfl⟩
theorem ok__law_mixed (Z : Fz P K mg base) {f : Addr} {fd : FuncData} (D : FunD K "_law_mixed" "_law_mixed" (defArgs s__law_mixed) (defBody s__law_mixed) (defScope s__law_mixed) [] [] f fd) : FnOk P w K mg base (L2.CX P w) 1 f fd ["draw"] (spF K F__law_mixed) := okF (k := 0) (g := g__law_mixed) (N := N__law_mixed) D sc__law_mixed fun cdv A outer s H E hr tk =>
  (sx_cons (sx_asg (v_bin op_bAdd (v_ix hr.units (v_var 0) v_str) v_int) (g_sub hr.units (v_var 0) v_str))
    (sx_cons (sx_par 1 2 rfl sc__law_mixed.nd (va_cons (v_ct c_int (Z.fr 5) (by rfl) (va_cons (v_ix hr.units (v_var 0) v_str) va_nil)) (va_cons v_int va_nil)))
    (sx_cons (sx_for (w := false) (passes_of rfl) rfl (vi_val (v_lst (va_cons v_int (va_cons v_int (va_cons v_int va_nil))))) (g_nm 3 sc__law_mixed.nd)
    (sx_cons (sx_set 4 sc__law_mixed.nd (v_bin op_bMod (v_ct c_int (Z.fr 5) (by rfl) (va_cons (v_bin op_bAdd (v_bin op_bMul (v_var 1) v_int) (v_bin op_bDiv (v_var 3) v_int)) va_nil)) (v_var 3)))
    (sx_cons (sx_for (w := false) (passes_of rfl) rfl (vi_val (v_ix hr.units (v_var 0) v_str)) (g_nm 5 sc__law_mixed.nd)
    (sx_one (sx_set 4 sc__law_mixed.nd (v_bin op_bMod (v_ct c_int (Z.fr 5) (by rfl) (va_cons (v_bin op_bAdd (v_bin op_bAdd (v_bin op_bMul (v_var 4) v_int) (v_ct c_int (Z.fr 5) (by rfl) (va_cons (v_var 5) va_nil))) v_int) va_nil)) (v_var 3)))))
    (sx_one (sx_set 2 sc__law_mixed.nd (v_bin op_bAdd (v_bin op_bMul (v_var 2) v_int) (v_bin op_bMod (v_ct c_int (Z.fr 5) (by rfl) (va_cons (v_bin op_bPow (v_var 4) v_int) va_nil)) (v_var 3))))))))
    (sx_one (sx_ret (v_var 2))))))
theorem has__law_mixed (Z : Fz P K mg base) : HasP P w K mg base 1 "_law_mixed" ["draw"] F__law_mixed := by
  obtain ⟨fd, D⟩ := Z.fn 1 (d := d__law_mixed)
  exact ⟨_, fd, ok__law_mixed Z D, (Z.glo 6), D.kp, D.bindsN fun _ _ _ _ _ _ us hl => match us, hl with | [_], _ => rfl⟩
theorem ok__law_take (Z : Fz P K mg base) {f : Addr} {fd : FuncData} (D : FunD K "_law_take" "_law_take" (defArgs s__law_take) (defBody s__law_take) (defScope s__law_take) [] [] f fd) : FnOk P w K mg base (L2.CX P w) 2 f fd ["draw", "amount"] (spF K F__law_take) := okF (k := 1) (g := g__law_take) (N := N__law_take) D sc__law_take fun cdv A outer s H E hr tk =>
  (sx_cons (sx_while (fun _ _ => 1000) (passes_of rfl) (vw_and (vt_cmp (op_cEq hr.units) (v_ix hr.units (v_var 0) v_str) v_int) (vw_and1 (vt_cmp (op_cNe hr.units) (v_ix hr.units (v_var 0) v_str) (v_lst va_nil)))).pt
    (sx_one (sx_asg (v_bm 0 PySem.F.plainAttrs_list PySem.F.slot_list_pop PySem.F.type_list_pop m_pop (v_ix hr.units (v_var 0) v_str) (va_cons v_int va_nil)) (g_sub hr.units (v_var 0) v_str))))
    (sx_cons (sx_if (vt_cmp (op_cEq hr.units) (v_ix hr.units (v_var 0) v_str) v_int)
    (sx_one (sx_asg (v_callH ⟨has__law_mixed Z⟩ (hr.mono (by decide)) tk (va_cons (v_var 0) va_nil)) (g_sub hr.units (v_var 0) v_str)))
    sx_nil)
    (sx_cons (sx_set 2 sc__law_take.nd (v_bin op_bMod (v_ct c_int (Z.fr 5) (by rfl) (va_cons (v_ix hr.units (v_var 0) v_str) va_nil)) (v_var 1)))
    (sx_cons (sx_asg (v_bin op_bDiv (v_ct c_int (Z.fr 5) (by rfl) (va_cons (v_ix hr.units (v_var 0) v_str) va_nil)) (v_var 1)) (g_sub hr.units (v_var 0) v_str))
    (sx_one (sx_ret (v_var 2)))))))
theorem has__law_take (Z : Fz P K mg base) : HasP P w K mg base 2 "_law_take" ["draw", "amount"] F__law_take := by
  obtain ⟨fd, D⟩ := Z.fn 2 (d := d__law_take)
  exact ⟨_, fd, ok__law_take Z D, (Z.glo 7), D.kp, D.bindsN fun _ _ _ _ _ _ us hl => match us, hl with | [_, _], _ => rfl⟩
theorem ok__law_shuffled (Z : Fz P K mg base) {f : Addr} {fd : FuncData} (D : FunD K "_law_shuffled" "_law_shuffled" (defArgs s__law_shuffled) (defBody s__law_shuffled) (defScope s__law_shuffled) [] [] f fd) : FnOk P w K mg base (L2.CX P w) 3 f fd ["draw", "some"] (spF K F__law_shuffled) := okF (k := 2) (g := g__law_shuffled) (N := N__law_shuffled) D sc__law_shuffled fun cdv A outer s H E hr tk =>
  (sx_cons (sx_par 2 3 rfl sc__law_shuffled.nd (va_cons (v_ct c_list (Z.fr 8) (by rfl) (va_cons (v_var 1) va_nil)) (va_cons (v_lst va_nil) va_nil)))
    (sx_cons (sx_while (fun _ _ => 1000) (passes_of rfl) (vt_cmp (op_cNe hr.units) (v_var 2) (v_lst va_nil))
    (sx_one (sx_drop (v_bm 0 PySem.F.plainAttrs_list PySem.F.slot_list_append PySem.F.type_list_append m_append (v_var 3) (va_cons (v_bm 0 PySem.F.plainAttrs_list PySem.F.slot_list_pop PySem.F.type_list_pop m_pop (v_var 2) (va_cons (v_callH ⟨has__law_take Z⟩ (hr.mono (by decide)) tk (va_cons (v_var 0) (va_cons (v_cb c_len (Z.fr 2) (by rfl) (va_cons (v_var 2) va_nil)) va_nil))) va_nil)) va_nil)))))
    (sx_one (sx_ret (v_var 3)))))
theorem has__law_shuffled (Z : Fz P K mg base) : HasP P w K mg base 3 "_law_shuffled" ["draw", "some"] F__law_shuffled := by
  obtain ⟨fd, D⟩ := Z.fn 3 (d := d__law_shuffled)
  exact ⟨_, fd, ok__law_shuffled Z D, (Z.glo 9), D.kp, D.bindsN fun _ _ _ _ _ _ us hl => match us, hl with | [_, _], _ => rfl⟩
theorem ok__law_row (Z : Fz P K mg base) {f : Addr} {fd : FuncData} (D : FunD K "_law_row" "_law_row" (defArgs s__law_row) (defBody s__law_row) (defScope s__law_row) [] [] f fd) : FnOk P w K mg base (L2.CX P w) 4 f fd ["draw", "bands"] (spF K F__law_row) := okF (k := 3) (g := g__law_row) (N := N__law_row) D sc__law_row fun cdv A outer s H E hr tk =>
  (sx_one (sx_ret (v_bin op_bAdd (v_tup (va_cons v_int va_nil)) (v_ct c_tuple (Z.fr 10) (by rfl) (va_cons (v_callH ⟨has__law_shuffled Z⟩ (hr.mono (by decide)) tk (va_cons (v_var 0) (va_cons (v_listRg2 rfl (Z.fr 8) (Z.fr 4) v_int (v_bin op_bMul v_int (v_var 1))) va_nil))) va_nil)))))
theorem has__law_row (Z : Fz P K mg base) : HasP P w K mg base 4 "_law_row" ["draw", "bands"] F__law_row := by
  obtain ⟨fd, D⟩ := Z.fn 4 (d := d__law_row)
  exact ⟨_, fd, ok__law_row Z D, (Z.glo 11), D.kp, D.bindsN fun _ _ _ _ _ _ us hl => match us, hl with | [_, _], _ => rfl⟩
theorem ok__law_freed (Z : Fz P K mg base) {f : Addr} {fd : FuncData} (D : FunD K "_law_freed" "_law_freed" (defArgs s__law_freed) (defBody s__law_freed) (defScope s__law_freed) [] [] f fd) : FnOk P w K mg base (L2.CX P w) 1 f fd ["word"] (spF K F__law_freed) := okF (k := 0) (g := g__law_freed) (N := N__law_freed) D sc__law_freed fun cdv A outer s H E hr tk =>
  (sx_cons (sx_set 1 sc__law_freed.nd (v_lst va_nil))
    (sx_cons (sx_for (w := false) (passes_of rfl) rfl (vi_val (v_var 0)) (g_nm 2 sc__law_freed.nd)
    (sx_one (sx_if (vw_and (vt_cmp (op_cNe hr.units) (v_var 1) (v_lst va_nil)) (vw_and1 (vt_cmp (op_cEq hr.units) (v_ix hr.units (v_var 1) (v_bin op_bSub (v_cb c_len (Z.fr 2) (by rfl) (va_cons (v_var 1) va_nil)) v_int)) (v_bin op_bXor (v_var 2) v_int)))).pt
    (sx_one (sx_drop (v_bm0 0 PySem.F.plainAttrs_list PySem.F.slot_list_pop PySem.F.type_list_pop m_pop (v_var 1))))
    (sx_one (sx_drop (v_bm 0 PySem.F.plainAttrs_list PySem.F.slot_list_append PySem.F.type_list_append m_append (v_var 1) (va_cons (v_var 2) va_nil)))))))
    (sx_one (sx_ret (v_ct c_tuple (Z.fr 10) (by rfl) (va_cons (v_var 1) va_nil))))))
theorem has__law_freed (Z : Fz P K mg base) : HasP P w K mg base 1 "_law_freed" ["word"] F__law_freed := by
  obtain ⟨fd, D⟩ := Z.fn 5 (d := d__law_freed)
  exact ⟨_, fd, ok__law_freed Z D, (Z.glo 12), D.kp, D.bindsN fun _ _ _ _ _ _ us hl => match us, hl with | [_], _ => rfl⟩
theorem ok__law_walk (Z : Fz P K mg base) {f : Addr} {fd : FuncData} (D : FunD K "_law_walk" "_law_walk" (defArgs s__law_walk) (defBody s__law_walk) (defScope s__law_walk) [] [] f fd) : FnOk P w K mg base (L2.CX P w) 1 f fd ["row", "gap", "letter"] (spF K F__law_walk) := okF (k := 0) (g := g__law_walk) (N := N__law_walk) D sc__law_walk fun cdv A outer s H E hr tk =>
  (sx_cons (sx_set 3 sc__law_walk.nd (v_bm 1 PySem.F.plainAttrs_tuple PySem.F.slot_tuple_index PySem.F.type_tuple_index m_indexT (v_var 0) (va_cons (v_bin op_bXor (v_var 2) v_int) va_nil)))
    (sx_cons (sx_if (vt_cmp (op_cEq hr.units) (v_var 2) (v_ix hr.units (v_var 0) (v_var 1)))
    (sx_one (sx_ret (v_bin op_bMod (v_ct c_int (Z.fr 5) (by rfl) (va_cons (v_bin op_bAdd (v_var 3) v_int) va_nil)) (v_cb c_len (Z.fr 2) (by rfl) (va_cons (v_var 0) va_nil)))))
    sx_nil)
    (sx_one (sx_ret (v_if (vt_cmp (op_cEq hr.units) (v_var 2) (v_ix hr.units (v_var 0) (v_bin op_bSub (v_var 1) v_int))) (v_var 3) v_non)))))
theorem has__law_walk (Z : Fz P K mg base) : HasP P w K mg base 1 "_law_walk" ["row", "gap", "letter"] F__law_walk := by
  obtain ⟨fd, D⟩ := Z.fn 6 (d := d__law_walk)
  exact ⟨_, fd, ok__law_walk Z D, (Z.glo 13), D.kp, D.bindsN fun _ _ _ _ _ _ us hl => match us, hl with | [_, _, _], _ => rfl⟩
theorem ok__law_tight (Z : Fz P K mg base) {f : Addr} {fd : FuncData} (D : FunD K "_law_tight" "_law_tight" (defArgs s__law_tight) (defBody s__law_tight) (defScope s__law_tight) [] [] f fd) : FnOk P w K mg base (L2.CX P w) 2 f fd ["row", "start", "word", "end"] (spF K F__law_tight) := okF (k := 1) (g := g__law_tight) (N := N__law_tight) D sc__law_tight fun cdv A outer s H E hr tk =>
  (sx_cons (sx_par 4 5 rfl sc__law_tight.nd (va_cons (v_callH ⟨has__law_freed Z⟩ (hr.mono (by decide)) tk (va_cons (v_var 2) va_nil)) (va_cons v_bl va_nil)))
    (sx_cons (sx_while (fun _ _ => 1000) (passes_of rfl) (vw_and (vt_cmp (op_cNe hr.units) (v_var 4) (v_tup va_nil)) (vw_and1 (vt_val (v_var 5)))).pt
    (sx_cons (sx_par 6 7 rfl sc__law_tight.nd (va_cons (v_callH ⟨has__law_walk Z⟩ (hr.mono (by decide)) tk (va_cons (v_var 0) (va_cons (v_var 1) (va_cons (v_ix hr.units (v_var 4) v_int) va_nil)))) (va_cons (v_callH ⟨has__law_walk Z⟩ (hr.mono (by decide)) tk (va_cons (v_var 0) (va_cons (v_var 3) (va_cons (v_bin op_bXor (v_ix hr.units (v_var 4) (v_bin op_bSub (v_cb c_len (Z.fr 2) (by rfl) (va_cons (v_var 4) va_nil)) v_int)) v_int) va_nil)))) va_nil)))
    (sx_one (sx_if (vt_cmp op_cIsN (v_var 6) v_non)
    (sx_one (sx_par 1 4 rfl sc__law_tight.nd (va_cons (v_var 6) (va_cons (v_sl (v_var 4) (vo_some v_int) vo_none) va_nil))))
    (sx_one (sx_if (vt_cmp op_cIsN (v_var 7) v_non)
    (sx_one (sx_par 3 4 rfl sc__law_tight.nd (va_cons (v_var 7) (va_cons (v_sl (v_var 4) vo_none (vo_some (v_bin op_bSub (v_cb c_len (Z.fr 2) (by rfl) (va_cons (v_var 4) va_nil)) v_int))) va_nil))))
    (sx_one (sx_set 5 sc__law_tight.nd v_bl))))))))
    (sx_one (sx_ret (v_tup (va_cons (v_var 1) (va_cons (v_var 4) (va_cons (v_var 3) va_nil))))))))
theorem has__law_tight (Z : Fz P K mg base) : HasP P w K mg base 2 "_law_tight" ["row", "start", "word", "end"] F__law_tight := by
  obtain ⟨fd, D⟩ := Z.fn 7 (d := d__law_tight)
  exact ⟨_, fd, ok__law_tight Z D, (Z.glo 14), D.kp, D.bindsN fun _ _ _ _ _ _ us hl => match us, hl with | [_, _, _, _], _ => rfl⟩
theorem ok__law_undone (Z : Fz P K mg base) {f : Addr} {fd : FuncData} (D : FunD K "_law_undone" "_law_undone" (defArgs s__law_undone) (defBody s__law_undone) (defScope s__law_undone) [] [] f fd) : FnOk P w K mg base (L2.CX P w) 1 f fd ["word"] (spF K F__law_undone) := okF (k := 0) (g := g__law_undone) (N := N__law_undone) D sc__law_undone fun cdv A outer s H E hr tk =>
  (sx_one (sx_ret (v_ct c_tuple (Z.fr 10) (by rfl) (va_cons (v_lc (w := false) (own := [("letter", 1)]) rfl sc__law_undone.nd (vi_val (v_rev (v_var 0))) (by show BlkOk N__law_undone (defScope s__law_undone) _ _; exact ⟨rfl, by decide +kernel, by decide +kernel, by decide +kernel, by decide +kernel⟩) (b_nm 1 sc__law_undone.nd) bt_nil (fun s H C cl fp => (v_bin op_bXor (v_var 1) v_int))) va_nil))))
theorem has__law_undone (Z : Fz P K mg base) : HasP P w K mg base 1 "_law_undone" ["word"] F__law_undone := by
  obtain ⟨fd, D⟩ := Z.fn 8 (d := d__law_undone)
  exact ⟨_, fd, ok__law_undone Z D, (Z.glo 15), D.kp, D.bindsN fun _ _ _ _ _ _ us hl => match us, hl with | [_], _ => rfl⟩
theorem ok__law_bridge (Z : Fz P K mg base) {f : Addr} {fd : FuncData} (D : FunD K "_law_bridge" "_law_bridge" (defArgs s__law_bridge) (defBody s__law_bridge) (defScope s__law_bridge) [] [] f fd) : FnOk P w K mg base (L2.CX P w) 3 f fd ["row", "start", "word", "end"] (spF K F__law_bridge) := okF (k := 2) (g := g__law_bridge) (N := N__law_bridge) D sc__law_bridge fun cdv A outer s H E hr tk =>
  (sx_cons (sx_asg (v_callH ⟨has__law_tight Z⟩ (hr.mono (by decide)) tk (va_cons (v_var 0) (va_cons (v_var 1) (va_cons (v_var 2) (va_cons (v_var 3) va_nil))))) (g_tup rfl (g_cons (g_nm 4 sc__law_bridge.nd) (g_cons (g_nm 5 sc__law_bridge.nd) (g_cons (g_nm 6 sc__law_bridge.nd) g_nil)))))
    (sx_cons (sx_if (vt_cmp (op_cNe hr.units) (v_var 5) (v_tup va_nil))
    (sx_one (sx_ret (v_cb (c_min rfl hr.units) (Z.fr 3) (by rfl) (va_cons (v_tup (va_cons (v_var 4) (va_cons (v_var 5) (va_cons (v_var 6) va_nil)))) (va_cons (v_tup (va_cons (v_var 6) (va_cons (v_callH ⟨has__law_undone Z⟩ (hr.mono (by decide)) tk (va_cons (v_var 5) va_nil)) (va_cons (v_var 4) va_nil)))) va_nil)))))
    sx_nil)
    (sx_cons (sx_if (vt_cmp (op_cEq hr.units) (v_var 4) (v_var 6))
    (sx_one (sx_ret v_non))
    sx_nil)
    (sx_cons (sx_par 7 8 rfl sc__law_bridge.nd (va_cons (v_lst (va_cons (v_tup (va_cons (v_cb (c_min rfl hr.units) (Z.fr 3) (by rfl) (va_cons (v_var 4) (va_cons (v_var 6) va_nil))) (va_cons (v_tup va_nil) (va_cons (v_cb (c_max rfl hr.units) (Z.fr 16) (by rfl) (va_cons (v_var 4) (va_cons (v_var 6) va_nil))) va_nil)))) va_nil)) (va_cons (v_cb c_len (Z.fr 2) (by rfl) (va_cons (v_var 0) va_nil)) va_nil)))
    (sx_cons (sx_for (w := false) (passes_of rfl) rfl (vi_val (v_lst (va_cons (v_tup (va_cons (v_var 4) (va_cons (v_var 6) va_nil))) (va_cons (v_tup (va_cons (v_var 6) (va_cons (v_var 4) va_nil))) va_nil)))) (g_tup rfl (g_cons (g_nm 9 sc__law_bridge.nd) (g_cons (g_nm 10 sc__law_bridge.nd) g_nil)))
    (sx_one (sx_if (vt_cmp (op_cEq hr.units) (v_var 10) (v_bin op_bMod (v_ct c_int (Z.fr 5) (by rfl) (va_cons (v_bin op_bAdd (v_var 9) v_int) va_nil)) (v_var 8)))
    (sx_cons (sx_set 11 sc__law_bridge.nd (v_bm 1 PySem.F.plainAttrs_tuple PySem.F.slot_tuple_index PySem.F.type_tuple_index m_indexT (v_var 0) (va_cons (v_bin op_bXor (v_ix hr.units (v_var 0) (v_var 9)) v_int) va_nil)))
    (sx_cons (sx_set 12 sc__law_bridge.nd (v_bin op_bMod (v_ct c_int (Z.fr 5) (by rfl) (va_cons (v_bin op_bAdd (v_var 11) v_int) va_nil)) (v_var 8)))
    (sx_one (sx_drop (v_bm 0 PySem.F.plainAttrs_list PySem.F.slot_list_append PySem.F.type_list_append m_append (v_var 7) (va_cons (v_tup (va_cons (v_cb (c_min rfl hr.units) (Z.fr 3) (by rfl) (va_cons (v_var 11) (va_cons (v_var 12) va_nil))) (va_cons (v_tup va_nil) (va_cons (v_cb (c_max rfl hr.units) (Z.fr 16) (by rfl) (va_cons (v_var 11) (va_cons (v_var 12) va_nil))) va_nil)))) va_nil))))))
    sx_nil)))
    (sx_one (sx_ret (v_cb (c_min rfl hr.units) (Z.fr 3) (by rfl) (va_cons (v_var 7) va_nil)))))))))
theorem has__law_bridge (Z : Fz P K mg base) : HasP P w K mg base 3 "_law_bridge" ["row", "start", "word", "end"] F__law_bridge := by
  obtain ⟨fd, D⟩ := Z.fn 9 (d := d__law_bridge)
  exact ⟨_, fd, ok__law_bridge Z D, (Z.glo 17), D.kp, D.bindsN fun _ _ _ _ _ _ us hl => match us, hl with | [_, _, _, _], _ => rfl⟩
theorem ok_need_skin (Z : Fz P K mg base) {f : Addr} {fd : FuncData} (D : FunD K "need_skin" "need_skin" (defArgs s_need_skin) (defBody s_need_skin) (defScope s_need_skin) [] [] f fd) : FnOk P w K mg base (L2.CX P w) 2 f fd ["thing"] (spF K F_need_skin) := okF (k := 1) (g := g_need_skin) (N := N_need_skin) D sc_need_skin fun cdv A outer s H E hr tk =>
  (sx_one (sx_if (vt_not (vt_val (v_isi (ClsV.own _) (isB_ok (Z.ex 0)) (Z.fr 18) (v_var 0) (pe_glob (by rfl) (Z.glo 19) rfl))))
    (sx_one (sx_raise1 (bad_BadSkin Z) (Z.fr 20) (hr.mono (by decide)) rfl tk (Z.glo 21) v_non))
    sx_nil))
theorem has_need_skin (Z : Fz P K mg base) : HasP P w K mg base 2 "need_skin" ["thing"] F_need_skin := by
  obtain ⟨fd, D⟩ := Z.fn 10 (d := d_need_skin)
  exact ⟨_, fd, ok_need_skin Z D, (Z.glo 22), D.kp, D.bindsN fun _ _ _ _ _ _ us hl => match us, hl with | [_], _ => rfl⟩
theorem ok_need_bands (Z : Fz P K mg base) {f : Addr} {fd : FuncData} (D : FunD K "need_bands" "need_bands" (defArgs s_need_bands) (defBody s_need_bands) (defScope s_need_bands) [] [] f fd) : FnOk P w K mg base (L2.CX P w) 3 f fd ["skin"] (spF K F_need_bands) := okF (k := 2) (g := g_need_bands) (N := N_need_bands) D sc_need_bands fun cdv A outer s H E hr tk =>
  (sx_cons (sx_drop (v_callH ⟨has_need_skin Z⟩ (hr.mono (by decide)) tk (va_cons (v_var 0) va_nil)))
    (sx_one (sx_if (vt_cmp op_cLt (v_fld (fld_bands Z) (v_var 0)) (v_gint (Z.gi 24)))
    (sx_one (sx_raise1 (bad_BadSkin Z) (Z.fr 20) (hr.mono (by decide)) rfl tk (Z.glo 21) v_str))
    sx_nil)))
theorem has_need_bands (Z : Fz P K mg base) : HasP P w K mg base 3 "need_bands" ["skin"] F_need_bands := by
  obtain ⟨fd, D⟩ := Z.fn 11 (d := d_need_bands)
  exact ⟨_, fd, ok_need_bands Z D, (Z.glo 25), D.kp, D.bindsN fun _ _ _ _ _ _ us hl => match us, hl with | [_], _ => rfl⟩
theorem ok_is_number (Z : Fz P K mg base) {f : Addr} {fd : FuncData} (D : FunD K "is_number" "is_number" (defArgs s_is_number) (defBody s_is_number) (defScope s_is_number) [] [] f fd) : FnOk P w K mg base (L2.CX P w) 1 f fd ["thing"] (spF K F_is_number) := okF (k := 0) (g := g_is_number) (N := N_is_number) D sc_is_number fun cdv A outer s H E hr tk =>
  (sx_one (sx_ret (v_and (v_isi (ClsV.ty "int") is_int (Z.fr 18) (v_var 0) (pe_bltn (by rfl) (Z.fr 5) (by rfl) rfl)) (v_one (v_not (v_isi (ClsV.ty "bool") is_bool (Z.fr 18) (v_var 0) (pe_bltn (by rfl) (Z.fr 26) (by rfl) rfl)))))))
theorem has_is_number (Z : Fz P K mg base) : HasP P w K mg base 1 "is_number" ["thing"] F_is_number := by
  obtain ⟨fd, D⟩ := Z.fn 12 (d := d_is_number)
  exact ⟨_, fd, ok_is_number Z D, (Z.glo 27), D.kp, D.bindsN fun _ _ _ _ _ _ us hl => match us, hl with | [_], _ => rfl⟩
theorem ok_is_between (Z : Fz P K mg base) {f : Addr} {fd : FuncData} (D : FunD K "is_between" "is_between" (defArgs s_is_between) (defBody s_is_between) (defScope s_is_between) [] [] f fd) : FnOk P w K mg base (L2.CX P w) 2 f fd ["thing", "low", "high"] (spF K F_is_between) := okF (k := 1) (g := g_is_between) (N := N_is_between) D sc_is_between fun cdv A outer s H E hr tk =>
  (sx_one (sx_ret (v_and (v_callH ⟨has_is_number Z⟩ (hr.mono (by decide)) tk (va_cons (v_var 0) va_nil)) (v_one (v_chain op_cLe op_cLe (v_var 1) (v_var 0) (v_var 2))))))
theorem has_is_between (Z : Fz P K mg base) : HasP P w K mg base 2 "is_between" ["thing", "low", "high"] F_is_between := by
  obtain ⟨fd, D⟩ := Z.fn 13 (d := d_is_between)
  exact ⟨_, fd, ok_is_between Z D, (Z.glo 28), D.kp, D.bindsN fun _ _ _ _ _ _ us hl => match us, hl with | [_, _, _], _ => rfl⟩
theorem ok_need_between (Z : Fz P K mg base) {f : Addr} {fd : FuncData} (D : FunD K "need_between" "need_between" (defArgs s_need_between) (defBody s_need_between) (defScope s_need_between) [] [] f fd) : FnOk P w K mg base (L2.CX P w) 3 f fd ["number", "low", "high", "part"] (spF K F_need_between) := okF (k := 2) (g := g_need_between) (N := N_need_between) D sc_need_between fun cdv A outer s H E hr tk =>
  (sx_one (sx_if (vt_not (vt_val (v_callH ⟨has_is_between Z⟩ (hr.mono (by decide)) tk (va_cons (v_var 0) (va_cons (v_var 1) (va_cons (v_var 2) va_nil))))))
    (sx_one (sx_raise1 (bad_BadNumber Z) (Z.fr 20) (hr.mono (by decide)) rfl tk (Z.glo 29) (v_var 3)))
    sx_nil))
theorem has_need_between (Z : Fz P K mg base) : HasP P w K mg base 3 "need_between" ["number", "low", "high", "part"] F_need_between := by
  obtain ⟨fd, D⟩ := Z.fn 14 (d := d_need_between)
  exact ⟨_, fd, ok_need_between Z D, (Z.glo 30), D.kp, D.bindsN fun _ _ _ _ _ _ us hl => match us, hl with | [_, _, _, _], _ => rfl⟩
theorem ok_is_letters (Z : Fz P K mg base) {f : Addr} {fd : FuncData} (D : FunD K "is_letters" "is_letters" (defArgs s_is_letters) (defBody s_is_letters) (defScope s_is_letters) [] [] f fd) : FnOk P w K mg base (L2.CX P w) 3 f fd ["skin", "thing"] (spF K F_is_letters) := okF (k := 2) (g := g_is_letters) (N := N_is_letters) D sc_is_letters fun cdv A outer s H E hr tk =>
  (sx_one (sx_ret (v_and (v_isi (ClsV.ty "tuple") VI.is_tuple (Z.fr 18) (v_var 1) (pe_bltn (by rfl) (Z.fr 10) (by rfl) rfl)) (v_one (v_cb (c_all rfl) (Z.fr 31) (by rfl) (va_cons (v_lc (w := false) (own := [("item", 2)]) rfl sc_is_letters.nd (vi_val (v_var 1)) (by show BlkOk N_is_letters (defScope s_is_letters) _ _; exact ⟨rfl, by decide +kernel, by decide +kernel, by decide +kernel, by decide +kernel⟩) (b_nm 2 sc_is_letters.nd) bt_nil (fun s H C cl fp => (v_callH ⟨has_is_between Z⟩ (hr.mono (by decide)) LamX.takes0 (va_cons (v_var 2) (va_cons v_int (va_cons (v_bin op_bSub (v_cb c_len (Z.fr 2) (by rfl) (va_cons (v_fld (fld_row Z) (v_var 0)) va_nil)) v_int) va_nil)))))) va_nil))))))
theorem has_is_letters (Z : Fz P K mg base) : HasP P w K mg base 3 "is_letters" ["skin", "thing"] F_is_letters := by
  obtain ⟨fd, D⟩ := Z.fn 15 (d := d_is_letters)
  exact ⟨_, fd, ok_is_letters Z D, (Z.glo 32), D.kp, D.bindsN fun _ _ _ _ _ _ us hl => match us, hl with | [_, _], _ => rfl⟩
theorem ok_is_word (Z : Fz P K mg base) {f : Addr} {fd : FuncData} (D : FunD K "is_word" "is_word" (defArgs s_is_word) (defBody s_is_word) (defScope s_is_word) [] [] f fd) : FnOk P w K mg base (L2.CX P w) 4 f fd ["skin", "thing"] (spF K F_is_word) := okF (k := 3) (g := g_is_word) (N := N_is_word) D sc_is_word fun cdv A outer s H E hr tk =>
  (sx_cons (sx_drop (v_callH ⟨has_need_skin Z⟩ (hr.mono (by decide)) tk (va_cons (v_var 0) va_nil)))
    (sx_one (sx_ret (v_and (v_callH ⟨has_is_letters Z⟩ (hr.mono (by decide)) tk (va_cons (v_var 0) (va_cons (v_var 1) va_nil))) (v_one (v_cmp op_cLe (v_cb c_len (Z.fr 2) (by rfl) (va_cons (v_var 1) va_nil)) (v_gint (Z.gi 33))))))))
theorem has_is_word (Z : Fz P K mg base) : HasP P w K mg base 4 "is_word" ["skin", "thing"] F_is_word := by
  obtain ⟨fd, D⟩ := Z.fn 16 (d := d_is_word)
  exact ⟨_, fd, ok_is_word Z D, (Z.glo 34), D.kp, D.bindsN fun _ _ _ _ _ _ us hl => match us, hl with | [_, _], _ => rfl⟩
theorem ok_need_word (Z : Fz P K mg base) {f : Addr} {fd : FuncData} (D : FunD K "need_word" "need_word" (defArgs s_need_word) (defBody s_need_word) (defScope s_need_word) [] [] f fd) : FnOk P w K mg base (L2.CX P w) 5 f fd ["skin", "thing"] (spF K F_need_word) := okF (k := 4) (g := g_need_word) (N := N_need_word) D sc_need_word fun cdv A outer s H E hr tk =>
  (sx_one (sx_if (vt_not (vt_val (v_callH ⟨has_is_word Z⟩ (hr.mono (by decide)) tk (va_cons (v_var 0) (va_cons (v_var 1) va_nil)))))
    (sx_one (sx_raise0 rfl tk (Z.glo 35) (Z.fact 36 rfl)))
    sx_nil))
theorem has_need_word (Z : Fz P K mg base) : HasP P w K mg base 5 "need_word" ["skin", "thing"] F_need_word := by
  obtain ⟨fd, D⟩ := Z.fn 17 (d := d_need_word)
  exact ⟨_, fd, ok_need_word Z D, (Z.glo 37), D.kp, D.bindsN fun _ _ _ _ _ _ us hl => match us, hl with | [_, _], _ => rfl⟩
theorem ok_gap_behind (Z : Fz P K mg base) {f : Addr} {fd : FuncData} (D : FunD K "gap_behind" "gap_behind" (defArgs s_gap_behind) (defBody s_gap_behind) (defScope s_gap_behind) [] [] f fd) : FnOk P w K mg base (L2.CX P w) 1 f fd ["row", "end"] (spF K F_gap_behind) := okF (k := 0) (g := g_gap_behind) (N := N_gap_behind) D sc_gap_behind fun cdv A outer s H E hr tk =>
  (sx_one (sx_ret (v_bin op_bMod (v_bin op_bAdd (v_bm 1 PySem.F.plainAttrs_tuple PySem.F.slot_tuple_index PySem.F.type_tuple_index m_indexT (v_var 0) (va_cons (v_var 1) va_nil)) v_int) (v_cb c_len (Z.fr 2) (by rfl) (va_cons (v_var 0) va_nil)))))
theorem has_gap_behind (Z : Fz P K mg base) : HasP P w K mg base 1 "gap_behind" ["row", "end"] F_gap_behind := by
  obtain ⟨fd, D⟩ := Z.fn 18 (d := d_gap_behind)
  exact ⟨_, fd, ok_gap_behind Z D, (Z.glo 38), D.kp, D.bindsN fun _ _ _ _ _ _ us hl => match us, hl with | [_, _], _ => rfl⟩
theorem ok_walked (Z : Fz P K mg base) {f : Addr} {fd : FuncData} (D : FunD K "walked" "walked" (defArgs s_walked) (defBody s_walked) (defScope s_walked) [] [] f fd) : FnOk P w K mg base (L2.CX P w) 2 f fd ["row", "gap", "word"] (spF K F_walked) := okF (k := 1) (g := g_walked) (N := N_walked) D sc_walked fun cdv A outer s H E hr tk =>
  (sx_cons (sx_set 3 sc_walked.nd v_int)
    (sx_cons (sx_while (fun _ _ => 1000) (passes_of rfl) (vw_and (vt_cmp op_cLt (v_var 3) (v_cb c_len (Z.fr 2) (by rfl) (va_cons (v_var 2) va_nil))) (vw_and1 (vt_cmp (op_cIn hr.units) (v_ix hr.units (v_var 2) (v_var 3)) (v_tup (va_cons (v_ix hr.units (v_var 0) (v_var 1)) (va_cons (v_ix hr.units (v_var 0) (v_bin op_bSub (v_var 1) v_int)) va_nil)))))).pt
    (sx_cons (sx_set 4 sc_walked.nd (v_bin op_bXor (v_ix hr.units (v_var 2) (v_var 3)) v_int))
    (sx_cons (sx_set 1 sc_walked.nd (v_if (vt_cmp (op_cEq hr.units) (v_ix hr.units (v_var 2) (v_var 3)) (v_ix hr.units (v_var 0) (v_var 1))) (v_callH ⟨has_gap_behind Z⟩ (hr.mono (by decide)) tk (va_cons (v_var 0) (va_cons (v_var 4) va_nil))) (v_bm 1 PySem.F.plainAttrs_tuple PySem.F.slot_tuple_index PySem.F.type_tuple_index m_indexT (v_var 0) (va_cons (v_var 4) va_nil))))
    (sx_one (sx_aug 3 sc_walked.nd v_int)))))
    (sx_one (sx_ret (v_tup (va_cons (v_var 1) (va_cons (v_sl (v_var 2) (vo_some (v_var 3)) vo_none) va_nil)))))))
theorem has_walked (Z : Fz P K mg base) : HasP P w K mg base 2 "walked" ["row", "gap", "word"] F_walked := by
  obtain ⟨fd, D⟩ := Z.fn 19 (d := d_walked)
  exact ⟨_, fd, ok_walked Z D, (Z.glo 39), D.kp, D.bindsN fun _ _ _ _ _ _ us hl => match us, hl with | [_, _, _], _ => rfl⟩
theorem ok_freed (Z : Fz P K mg base) {f : Addr} {fd : FuncData} (D : FunD K "freed" "freed" (defArgs s_freed) (defBody s_freed) (defScope s_freed) [] [] f fd) : FnOk P w K mg base (L2.CX P w) 1 f fd ["word"] (spF K F_freed) := okF (k := 0) (g := g_freed) (N := N_freed) D sc_freed fun cdv A outer s H E hr tk =>
  (sx_cons (sx_set 1 sc_freed.nd (v_lst va_nil))
    (sx_cons (sx_for (w := false) (passes_of rfl) rfl (vi_val (v_var 0)) (g_nm 2 sc_freed.nd)
    (sx_one (sx_if (vw_and (vt_cmp (op_cNe hr.units) (v_var 1) (v_lst va_nil)) (vw_and1 (vt_cmp (op_cEq hr.units) (v_ix hr.units (v_var 1) (v_neg v_int)) (v_bin op_bXor (v_var 2) v_int)))).pt
    (sx_one (sx_drop (v_bm0 0 PySem.F.plainAttrs_list PySem.F.slot_list_pop PySem.F.type_list_pop m_pop (v_var 1))))
    (sx_one (sx_drop (v_bm 0 PySem.F.plainAttrs_list PySem.F.slot_list_append PySem.F.type_list_append m_append (v_var 1) (va_cons (v_var 2) va_nil)))))))
    (sx_one (sx_ret (v_ct c_tuple (Z.fr 10) (by rfl) (va_cons (v_var 1) va_nil))))))
theorem has_freed (Z : Fz P K mg base) : HasP P w K mg base 1 "freed" ["word"] F_freed := by
  obtain ⟨fd, D⟩ := Z.fn 20 (d := d_freed)
  exact ⟨_, fd, ok_freed Z D, (Z.glo 40), D.kp, D.bindsN fun _ _ _ _ _ _ us hl => match us, hl with | [_], _ => rfl⟩
theorem ok_undone_of (Z : Fz P K mg base) {f : Addr} {fd : FuncData} (D : FunD K "undone_of" "undone_of" (defArgs s_undone_of) (defBody s_undone_of) (defScope s_undone_of) [] [] f fd) : FnOk P w K mg base (L2.CX P w) 1 f fd ["word"] (spF K F_undone_of) := okF (k := 0) (g := g_undone_of) (N := N_undone_of) D sc_undone_of fun cdv A outer s H E hr tk =>
  (sx_one (sx_ret (v_ct c_tuple (Z.fr 10) (by rfl) (va_cons (v_lc (w := false) (own := [("letter", 1)]) rfl sc_undone_of.nd (vi_val (v_rev (v_var 0))) (by show BlkOk N_undone_of (defScope s_undone_of) _ _; exact ⟨rfl, by decide +kernel, by decide +kernel, by decide +kernel, by decide +kernel⟩) (b_nm 1 sc_undone_of.nd) bt_nil (fun s H C cl fp => (v_bin op_bXor (v_var 1) v_int))) va_nil))))
theorem has_undone_of (Z : Fz P K mg base) : HasP P w K mg base 1 "undone_of" ["word"] F_undone_of := by
  obtain ⟨fd, D⟩ := Z.fn 21 (d := d_undone_of)
  exact ⟨_, fd, ok_undone_of Z D, (Z.glo 41), D.kp, D.bindsN fun _ _ _ _ _ _ us hl => match us, hl with | [_], _ => rfl⟩
theorem ok_end_between (Z : Fz P K mg base) {f : Addr} {fd : FuncData} (D : FunD K "end_between" "end_between" (defArgs s_end_between) (defBody s_end_between) (defScope s_end_between) [] [] f fd) : FnOk P w K mg base (L2.CX P w) 1 f fd ["row", "one", "other"] (spF K F_end_between) := okF (k := 0) (g := g_end_between) (N := N_end_between) D sc_end_between fun cdv A outer s H E hr tk =>
  (sx_cons (sx_par 3 4 rfl sc_end_between.nd (va_cons (v_cb (c_min rfl hr.units) (Z.fr 3) (by rfl) (va_cons (v_var 1) (va_cons (v_var 2) va_nil))) (va_cons (v_cb (c_max rfl hr.units) (Z.fr 16) (by rfl) (va_cons (v_var 1) (va_cons (v_var 2) va_nil))) va_nil)))
    (sx_cons (sx_if (vt_cmp (op_cEq hr.units) (v_var 4) (v_bin op_bAdd (v_var 3) v_int))
    (sx_one (sx_ret (v_ix hr.units (v_var 0) (v_var 3))))
    sx_nil)
    (sx_one (sx_ret (v_if (vt_cmp (op_cEq hr.units) (v_tup (va_cons (v_var 3) (va_cons (v_var 4) va_nil))) (v_tup (va_cons v_int (va_cons (v_bin op_bSub (v_cb c_len (Z.fr 2) (by rfl) (va_cons (v_var 0) va_nil)) v_int) va_nil)))) (v_ix hr.units (v_var 0) (v_var 4)) v_non)))))
theorem has_end_between (Z : Fz P K mg base) : HasP P w K mg base 1 "end_between" ["row", "one", "other"] F_end_between := by
  obtain ⟨fd, D⟩ := Z.fn 22 (d := d_end_between)
  exact ⟨_, fd, ok_end_between Z D, (Z.glo 42), D.kp, D.bindsN fun _ _ _ _ _ _ us hl => match us, hl with | [_, _, _], _ => rfl⟩
theorem ok_plain_bridge (Z : Fz P K mg base) {f : Addr} {fd : FuncData} (D : FunD K "plain_bridge" "plain_bridge" (defArgs s_plain_bridge) (defBody s_plain_bridge) (defScope s_plain_bridge) [] [] f fd) : FnOk P w K mg base (L2.CX P w) 3 f fd ["row", "start", "word", "end"] (spF K F_plain_bridge) := okF (k := 2) (g := g_plain_bridge) (N := N_plain_bridge) D sc_plain_bridge fun cdv A outer s H E hr tk =>
  (sx_cons (sx_asg (v_callH ⟨has_walked Z⟩ (hr.mono (by decide)) tk (va_cons (v_var 0) (va_cons (v_var 1) (va_cons (v_callH ⟨has_freed Z⟩ (hr.mono (by decide)) tk (va_cons (v_var 2) va_nil)) va_nil)))) (g_tup rfl (g_cons (g_nm 1 sc_plain_bridge.nd) (g_cons (g_nm 4 sc_plain_bridge.nd) g_nil))))
    (sx_cons (sx_asg (v_callH ⟨has_walked Z⟩ (hr.mono (by decide)) tk (va_cons (v_var 0) (va_cons (v_var 3) (va_cons (v_callH ⟨has_undone_of Z⟩ (hr.mono (by decide)) tk (va_cons (v_var 4) va_nil)) va_nil)))) (g_tup rfl (g_cons (g_nm 3 sc_plain_bridge.nd) (g_cons (g_nm 5 sc_plain_bridge.nd) g_nil))))
    (sx_cons (sx_if (vt_cmp (op_cNe hr.units) (v_var 5) (v_tup va_nil))
    (sx_one (sx_ret (v_cb (c_min rfl hr.units) (Z.fr 3) (by rfl) (va_cons (v_tup (va_cons (v_var 1) (va_cons (v_callH ⟨has_undone_of Z⟩ (hr.mono (by decide)) tk (va_cons (v_var 5) va_nil)) (va_cons (v_var 3) va_nil)))) (va_cons (v_tup (va_cons (v_var 3) (va_cons (v_var 5) (va_cons (v_var 1) va_nil)))) va_nil)))))
    sx_nil)
    (sx_cons (sx_if (vt_cmp (op_cEq hr.units) (v_var 1) (v_var 3))
    (sx_one (sx_ret v_non))
    sx_nil)
    (sx_cons (sx_par 6 7 rfl sc_plain_bridge.nd (va_cons (v_tup (va_cons (v_cb (c_min rfl hr.units) (Z.fr 3) (by rfl) (va_cons (v_var 1) (va_cons (v_var 3) va_nil))) (va_cons (v_tup va_nil) (va_cons (v_cb (c_max rfl hr.units) (Z.fr 16) (by rfl) (va_cons (v_var 1) (va_cons (v_var 3) va_nil))) va_nil)))) (va_cons (v_callH ⟨has_end_between Z⟩ (hr.mono (by decide)) tk (va_cons (v_var 0) (va_cons (v_var 1) (va_cons (v_var 3) va_nil)))) va_nil)))
    (sx_cons (sx_if (vt_cmp op_cIs (v_var 7) v_non)
    (sx_one (sx_ret (v_var 6)))
    sx_nil)
    (sx_cons (sx_par 8 9 rfl sc_plain_bridge.nd (va_cons (v_bm 1 PySem.F.plainAttrs_tuple PySem.F.slot_tuple_index PySem.F.type_tuple_index m_indexT (v_var 0) (va_cons (v_bin op_bXor (v_var 7) v_int) va_nil)) (va_cons (v_callH ⟨has_gap_behind Z⟩ (hr.mono (by decide)) tk (va_cons (v_var 0) (va_cons (v_bin op_bXor (v_var 7) v_int) va_nil))) va_nil)))
    (sx_one (sx_ret (v_cb (c_min rfl hr.units) (Z.fr 3) (by rfl) (va_cons (v_var 6) (va_cons (v_tup (va_cons (v_cb (c_min rfl hr.units) (Z.fr 3) (by rfl) (va_cons (v_var 8) (va_cons (v_var 9) va_nil))) (va_cons (v_tup va_nil) (va_cons (v_cb (c_max rfl hr.units) (Z.fr 16) (by rfl) (va_cons (v_var 8) (va_cons (v_var 9) va_nil))) va_nil)))) va_nil))))))))))))
theorem has_plain_bridge (Z : Fz P K mg base) : HasP P w K mg base 3 "plain_bridge" ["row", "start", "word", "end"] F_plain_bridge := by
  obtain ⟨fd, D⟩ := Z.fn 23 (d := d_plain_bridge)
  exact ⟨_, fd, ok_plain_bridge Z D, (Z.glo 43), D.kp, D.bindsN fun _ _ _ _ _ _ us hl => match us, hl with | [_, _, _, _], _ => rfl⟩
theorem ok_bridge_of (Z : Fz P K mg base) {f : Addr} {fd : FuncData} (D : FunD K "bridge_of" "bridge_of" (defArgs s_bridge_of) (defBody s_bridge_of) (defScope s_bridge_of) [] [] f fd) : FnOk P w K mg base (L2.CX P w) 6 f fd ["skin", "start", "word", "end"] (spF K F_bridge_of) := okF (k := 5) (g := g_bridge_of) (N := N_bridge_of) D sc_bridge_of fun cdv A outer s H E hr tk =>
  (sx_cons (sx_drop (v_callH ⟨has_need_bands Z⟩ (hr.mono (by decide)) tk (va_cons (v_var 0) va_nil)))
    (sx_cons (sx_drop (v_callH ⟨has_need_between Z⟩ (hr.mono (by decide)) tk (va_cons (v_var 1) (va_cons v_int (va_cons (v_bin op_bSub (v_cb c_len (Z.fr 2) (by rfl) (va_cons (v_fld (fld_row Z) (v_var 0)) va_nil)) v_int) (va_cons v_str va_nil))))))
    (sx_cons (sx_drop (v_callH ⟨has_need_word Z⟩ (hr.mono (by decide)) tk (va_cons (v_var 0) (va_cons (v_var 2) va_nil))))
    (sx_cons (sx_drop (v_callH ⟨has_need_between Z⟩ (hr.mono (by decide)) tk (va_cons (v_var 3) (va_cons v_int (va_cons (v_bin op_bSub (v_cb c_len (Z.fr 2) (by rfl) (va_cons (v_fld (fld_row Z) (v_var 0)) va_nil)) v_int) (va_cons v_str va_nil))))))
    (sx_one (sx_ret (v_callH ⟨has_plain_bridge Z⟩ (hr.mono (by decide)) tk (va_cons (v_fld (fld_row Z) (v_var 0)) (va_cons (v_var 1) (va_cons (v_var 2) (va_cons (v_var 3) va_nil)))))))))))
theorem has_bridge_of (Z : Fz P K mg base) : HasP P w K mg base 6 "bridge_of" ["skin", "start", "word", "end"] F_bridge_of := by
  obtain ⟨fd, D⟩ := Z.fn 24 (d := d_bridge_of)
  exact ⟨_, fd, ok_bridge_of Z D, (Z.glo 44), D.kp, D.bindsN fun _ _ _ _ _ _ us hl => match us, hl with | [_, _, _, _], _ => rfl⟩
theorem hasR_bridge_of (Z : Fz P K mg base) : HasRP P w K mg base 6 "bridge_of" ["skin", "start", "word", "end"] F_bridge_of ["end", "word", "start", "skin"] := by
  obtain ⟨fd, D⟩ := Z.fn 24 (d := d_bridge_of)
  exact ⟨_, fd, ok_bridge_of Z D, (Z.glo 44), D.kp, bindsR D fun _ _ _ _ _ _ ws hl => match ws, hl with | [_, _, _, _], _ => rfl⟩
theorem ok__law_pick (Z : Fz P K mg base) {f : Addr} {fd : FuncData} (D : FunD K "_law_pick" "_law_pick" (defArgs s__law_pick) (defBody s__law_pick) (defScope s__law_pick) [] [] f fd) : FnOk P w K mg base (L2.CX P w) 3 f fd ["draw", "some"] (spF K F__law_pick) := okF (k := 2) (g := g__law_pick) (N := N__law_pick) D sc__law_pick fun cdv A outer s H E hr tk =>
  (sx_one (sx_ret (v_ix hr.units (v_var 1) (v_callH ⟨has__law_take Z⟩ (hr.mono (by decide)) tk (va_cons (v_var 0) (va_cons (v_cb c_len (Z.fr 2) (by rfl) (va_cons (v_var 1) va_nil)) va_nil))))))
theorem has__law_pick (Z : Fz P K mg base) : HasP P w K mg base 3 "_law_pick" ["draw", "some"] F__law_pick := by
  obtain ⟨fd, D⟩ := Z.fn 25 (d := d__law_pick)
  exact ⟨_, fd, ok__law_pick Z D, (Z.glo 46), D.kp, D.bindsN fun _ _ _ _ _ _ us hl => match us, hl with | [_, _], _ => rfl⟩
theorem ok__law_walked (Z : Fz P K mg base) {f : Addr} {fd : FuncData} (D : FunD K "_law_walked" "_law_walked" (defArgs s__law_walked) (defBody s__law_walked) (defScope s__law_walked) [] [] f fd) : FnOk P w K mg base (L2.CX P w) 4 f fd ["draw", "row", "triple", "most"] (spF K F__law_walked) := okF (k := 3) (g := g__law_walked) (N := N__law_walked) D sc__law_walked fun cdv A outer s H E hr tk =>
  (sx_cons (sx_asg (v_var 2) (g_tup rfl (g_cons (g_nm 4 sc__law_walked.nd) (g_cons (g_nm 5 sc__law_walked.nd) (g_cons (g_nm 6 sc__law_walked.nd) g_nil)))))
    (sx_cons (sx_for (w := false) (passes_of rfl) rfl (vi_rng1 (Z.fr 4) (va_cons (v_callH ⟨has__law_pick Z⟩ (hr.mono (by decide)) tk (va_cons (v_var 0) (va_cons (v_lst (va_cons v_int (va_cons v_int (va_cons v_int (va_cons v_int va_nil))))) va_nil))) va_nil)) (g_nm 7 sc__law_walked.nd)
    (sx_cons (sx_set 8 sc__law_walked.nd (v_callH ⟨has__law_pick Z⟩ (hr.mono (by decide)) tk (va_cons (v_var 0) (va_cons (v_lst (va_cons (v_ix hr.units (v_var 1) (v_var 4)) (va_cons (v_ix hr.units (v_var 1) (v_bin op_bSub (v_var 4) v_int)) va_nil))) va_nil))))
    (sx_cons (sx_par 9 10 rfl sc__law_walked.nd (va_cons (v_callH ⟨has__law_walk Z⟩ (hr.mono (by decide)) tk (va_cons (v_var 1) (va_cons (v_var 4) (va_cons (v_var 8) va_nil)))) (va_cons (v_callH ⟨has__law_freed Z⟩ (hr.mono (by decide)) tk (va_cons (v_bin op_bAdd (v_tup (va_cons (v_bin op_bXor (v_var 8) v_int) va_nil)) (v_var 5)) va_nil)) va_nil)))
    (sx_cons (sx_if (vt_cmp op_cLe (v_cb c_len (Z.fr 2) (by rfl) (va_cons (v_var 10) va_nil)) (v_var 3))
    (sx_one (sx_par 4 5 rfl sc__law_walked.nd (va_cons (v_var 9) (va_cons (v_var 10) va_nil))))
    sx_nil)
    (sx_one (sx_if (vt_cmp (op_cEq hr.units) (v_callH ⟨has__law_take Z⟩ (hr.mono (by decide)) tk (va_cons (v_var 0) (va_cons v_int va_nil))) v_int)
    (sx_one (sx_par3 4 5 6 rfl sc__law_walked.nd (va_cons (v_var 6) (va_cons (v_callH ⟨has__law_undone Z⟩ (hr.mono (by decide)) tk (va_cons (v_var 5) va_nil)) (va_cons (v_var 4) va_nil)))))
    sx_nil))))))
    (sx_one (sx_ret (v_tup (va_cons (v_var 4) (va_cons (v_var 5) (va_cons (v_var 6) va_nil))))))))
theorem has__law_walked (Z : Fz P K mg base) : HasP P w K mg base 4 "_law_walked" ["draw", "row", "triple", "most"] F__law_walked := by
  obtain ⟨fd, D⟩ := Z.fn 26 (d := d__law_walked)
  exact ⟨_, fd, ok__law_walked Z D, (Z.glo 47), D.kp, D.bindsN fun _ _ _ _ _ _ us hl => match us, hl with | [_, _, _, _], _ => rfl⟩
theorem ok__law_plain_fact (Z : Fz P K mg base) {f : Addr} {fd : FuncData} (D : FunD K "_law_plain_fact" "_law_plain_fact" (defArgs s__law_plain_fact) (defBody s__law_plain_fact) (defScope s__law_plain_fact) [] [] f fd) : FnOk P w K mg base (L2.CX P w) 2 f fd ["row", "triple"] (spF K F__law_plain_fact) := okF (k := 1) (g := g__law_plain_fact) (N := N__law_plain_fact) D sc__law_plain_fact fun cdv A outer s H E hr tk =>
  (sx_cons (sx_asg (v_var 1) (g_tup rfl (g_cons (g_nm 2 sc__law_plain_fact.nd) (g_cons (g_nm 3 sc__law_plain_fact.nd) (g_cons (g_nm 4 sc__law_plain_fact.nd) g_nil)))))
    (sx_cons (sx_if (vt_cmp (op_cEq hr.units) (v_var 3) (v_tup va_nil))
    (sx_one (sx_ret (v_cmp (op_cNe hr.units) (v_var 2) (v_var 4))))
    sx_nil)
    (sx_cons (sx_set 5 sc__law_plain_fact.nd (v_lst (va_cons (v_ix hr.units (v_var 0) (v_var 2)) (va_cons (v_ix hr.units (v_var 0) (v_bin op_bSub (v_var 2) v_int)) va_nil))))
    (sx_one (sx_ret (v_and (v_cmp (op_cEq hr.units) (v_callH ⟨has__law_freed Z⟩ (hr.mono (by decide)) tk (va_cons (v_var 3) va_nil)) (v_var 3)) (v_and (v_cmp (op_cNotIn hr.units) (v_ix hr.units (v_var 3) v_int) (v_var 5)) (v_one (v_cmp (op_cNotIn hr.units) (v_bin op_bXor (v_ix hr.units (v_var 3) (v_bin op_bSub (v_cb c_len (Z.fr 2) (by rfl) (va_cons (v_var 3) va_nil)) v_int)) v_int) (v_lst (va_cons (v_ix hr.units (v_var 0) (v_var 4)) (va_cons (v_ix hr.units (v_var 0) (v_bin op_bSub (v_var 4) v_int)) va_nil))))))))))))
theorem has__law_plain_fact (Z : Fz P K mg base) : HasP P w K mg base 2 "_law_plain_fact" ["row", "triple"] F__law_plain_fact := by
  obtain ⟨fd, D⟩ := Z.fn 27 (d := d__law_plain_fact)
  exact ⟨_, fd, ok__law_plain_fact Z D, (Z.glo 48), D.kp, D.bindsN fun _ _ _ _ _ _ us hl => match us, hl with | [_, _], _ => rfl⟩
theorem ok_is_tuple (Z : Fz P K mg base) {f : Addr} {fd : FuncData} (D : FunD K "is_tuple" "is_tuple" (defArgs s_is_tuple) (defBody s_is_tuple) (defScope s_is_tuple) [] [] f fd) : FnOk P w K mg base (L2.CX P w) 1 f fd ["thing", "size"] (spF K F_is_tuple) := okF (k := 0) (g := g_is_tuple) (N := N_is_tuple) D sc_is_tuple fun cdv A outer s H E hr tk =>
  (sx_one (sx_ret (v_and (v_isi (ClsV.ty "tuple") VI.is_tuple (Z.fr 18) (v_var 0) (pe_bltn (by rfl) (Z.fr 10) (by rfl) rfl)) (v_one (v_cmp (op_cEq hr.units) (v_cb c_len (Z.fr 2) (by rfl) (va_cons (v_var 0) va_nil)) (v_var 1))))))
theorem has_is_tuple (Z : Fz P K mg base) : HasP P w K mg base 1 "is_tuple" ["thing", "size"] F_is_tuple := by
  obtain ⟨fd, D⟩ := Z.fn 28 (d := d_is_tuple)
  exact ⟨_, fd, ok_is_tuple Z D, (Z.glo 49), D.kp, D.bindsN fun _ _ _ _ _ _ us hl => match us, hl with | [_, _], _ => rfl⟩
theorem ok_is_bridge_of (Z : Fz P K mg base) {f : Addr} {fd : FuncData} (D : FunD K "is_bridge_of" "is_bridge_of" (defArgs s_is_bridge_of) (defBody s_is_bridge_of) (defScope s_is_bridge_of) [V.int 40] [] f fd) : FnOk P w K mg base (L2.CX P w) 4 f fd ["skin", "thing", "longest"] (spF K F_is_bridge_of) := okF (k := 3) (g := g_is_bridge_of) (N := N_is_bridge_of) D sc_is_bridge_of fun cdv A outer s H E hr tk =>
  (sx_cons (sx_if (vw_or (vt_not (vt_val (v_callH ⟨has_is_tuple Z⟩ (hr.mono (by decide)) tk (va_cons (v_var 1) (va_cons v_int va_nil))))) (vw_or1 (vt_not (vt_val (v_callH ⟨has_is_letters Z⟩ (hr.mono (by decide)) tk (va_cons (v_var 0) (va_cons (v_ix hr.units (v_var 1) v_int) va_nil))))))).pt
    (sx_one (sx_ret v_bl))
    sx_nil)
    (sx_cons (sx_if (vt_not (vt_val (v_cb (c_all rfl) (Z.fr 31) (by rfl) (va_cons (v_lc (w := false) (own := [("gap", 3)]) rfl sc_is_bridge_of.nd (vi_val (v_tup (va_cons (v_ix hr.units (v_var 1) v_int) (va_cons (v_ix hr.units (v_var 1) v_int) va_nil)))) (by show BlkOk N_is_bridge_of (defScope s_is_bridge_of) _ _; exact ⟨rfl, by decide +kernel, by decide +kernel, by decide +kernel, by decide +kernel⟩) (b_nm 3 sc_is_bridge_of.nd) bt_nil (fun s H C cl fp => (v_callH ⟨has_is_between Z⟩ (hr.mono (by decide)) LamX.takes0 (va_cons (v_var 3) (va_cons v_int (va_cons (v_bin op_bSub (v_cb c_len (Z.fr 2) (by rfl) (va_cons (v_fld (fld_row Z) (v_var 0)) va_nil)) v_int) va_nil)))))) va_nil))))
    (sx_one (sx_ret v_bl))
    sx_nil)
    (sx_cons (sx_if (vw_and (vt_cmp op_cIsN (v_var 2) v_non) (vw_and1 (vt_cmp op_cGt (v_cb c_len (Z.fr 2) (by rfl) (va_cons (v_ix hr.units (v_var 1) v_int) va_nil)) (v_var 2)))).pt
    (sx_one (sx_ret v_bl))
    sx_nil)
    (sx_one (sx_ret (v_cmp (op_cEq hr.units) (v_callH ⟨has_plain_bridge Z⟩ (hr.mono (by decide)) tk (va_cons (v_fld (fld_row Z) (v_var 0)) (va_cons (v_ix hr.units (v_var 1) v_int) (va_cons (v_ix hr.units (v_var 1) v_int) (va_cons (v_ix hr.units (v_var 1) v_int) va_nil))))) (v_var 1)))))))
theorem has_is_bridge_of (Z : Fz P K mg base) : HasDP P w K mg base 4 "is_bridge_of" ["skin", "thing", "longest"] F_is_bridge_of [.int 40] := by
  obtain ⟨fd, D⟩ := Z.fn 29 (d := d_is_bridge_of)
  obtain ⟨ds, h1, h2⟩ := FunD.binds1 (ps := ["skin", "thing", "longest"]) D 2 0 (by simp [d_is_bridge_of, He.DefD.dvs]) rfl fun _ _ _ _ _ _ _ us its hu hi => match us, its, hu, hi with | [_, _], [_], _, _ => ⟨_, rfl, rfl⟩
  exact ⟨_, fd, ds, _, ok_is_bridge_of Z D, (Z.glo 50), D.kp, h2, h1, fun r n H => .cons (.int _) .nil⟩
theorem ok_is_bridge (Z : Fz P K mg base) {f : Addr} {fd : FuncData} (D : FunD K "is_bridge" "is_bridge" (defArgs s_is_bridge) (defBody s_is_bridge) (defScope s_is_bridge) [] [] f fd) : FnOk P w K mg base (L2.CX P w) 5 f fd ["skin", "thing"] (spF K F_is_bridge) := okF (k := 4) (g := g_is_bridge) (N := N_is_bridge) D sc_is_bridge fun cdv A outer s H E hr tk =>
  (sx_cons (sx_drop (v_callH ⟨has_need_bands Z⟩ (hr.mono (by decide)) tk (va_cons (v_var 0) va_nil)))
    (sx_one (sx_ret (v_callD (has_is_bridge_of Z).to (hr.mono (by decide)) tk (va_cons (v_var 0) (va_cons (v_var 1) va_nil))))))
theorem has_is_bridge (Z : Fz P K mg base) : HasP P w K mg base 5 "is_bridge" ["skin", "thing"] F_is_bridge := by
  obtain ⟨fd, D⟩ := Z.fn 30 (d := d_is_bridge)
  exact ⟨_, fd, ok_is_bridge Z D, (Z.glo 51), D.kp, D.bindsN fun _ _ _ _ _ _ us hl => match us, hl with | [_, _], _ => rfl⟩
theorem hasR_is_bridge (Z : Fz P K mg base) : HasRP P w K mg base 5 "is_bridge" ["skin", "thing"] F_is_bridge ["thing", "skin"] := by
  obtain ⟨fd, D⟩ := Z.fn 30 (d := d_is_bridge)
  exact ⟨_, fd, ok_is_bridge Z D, (Z.glo 51), D.kp, bindsR D fun _ _ _ _ _ _ ws hl => match ws, hl with | [_, _], _ => rfl⟩
theorem ok_need_bridge (Z : Fz P K mg base) {f : Addr} {fd : FuncData} (D : FunD K "need_bridge" "need_bridge" (defArgs s_need_bridge) (defBody s_need_bridge) (defScope s_need_bridge) [] [] f fd) : FnOk P w K mg base (L2.CX P w) 5 f fd ["skin", "thing"] (spF K F_need_bridge) := okF (k := 4) (g := g_need_bridge) (N := N_need_bridge) D sc_need_bridge fun cdv A outer s H E hr tk =>
  (sx_one (sx_if (vt_not (vt_val (v_callD (has_is_bridge_of Z).to (hr.mono (by decide)) tk (va_cons (v_var 0) (va_cons (v_var 1) va_nil)))))
    (sx_one (sx_raise0 rfl tk (Z.glo 52) (Z.fact 53 rfl)))
    sx_nil))
theorem has_need_bridge (Z : Fz P K mg base) : HasP P w K mg base 5 "need_bridge" ["skin", "thing"] F_need_bridge := by
  obtain ⟨fd, D⟩ := Z.fn 31 (d := d_need_bridge)
  exact ⟨_, fd, ok_need_bridge Z D, (Z.glo 54), D.kp, D.bindsN fun _ _ _ _ _ _ us hl => match us, hl with | [_, _], _ => rfl⟩
theorem ok_end_behind (Z : Fz P K mg base) {f : Addr} {fd : FuncData} (D : FunD K "end_behind" "end_behind" (defArgs s_end_behind) (defBody s_end_behind) (defScope s_end_behind) [] [] f fd) : FnOk P w K mg base (L2.CX P w) 1 f fd ["row", "end"] (spF K F_end_behind) := okF (k := 0) (g := g_end_behind) (N := N_end_behind) D sc_end_behind fun cdv A outer s H E hr tk =>
  (sx_one (sx_ret (v_ix hr.units (v_var 0) (v_bin op_bMod (v_bin op_bAdd (v_bm 1 PySem.F.plainAttrs_tuple PySem.F.slot_tuple_index PySem.F.type_tuple_index m_indexT (v_var 0) (va_cons (v_var 1) va_nil)) v_int) (v_cb c_len (Z.fr 2) (by rfl) (va_cons (v_var 0) va_nil))))))
theorem has_end_behind (Z : Fz P K mg base) : HasP P w K mg base 1 "end_behind" ["row", "end"] F_end_behind := by
  obtain ⟨fd, D⟩ := Z.fn 32 (d := d_end_behind)
  exact ⟨_, fd, ok_end_behind Z D, (Z.glo 55), D.kp, D.bindsN fun _ _ _ _ _ _ us hl => match us, hl with | [_, _], _ => rfl⟩
theorem ok_least_turn (Z : Fz P K mg base) {f : Addr} {fd : FuncData} (D : FunD K "least_turn" "least_turn" (defArgs s_least_turn) (defBody s_least_turn) (defScope s_least_turn) [] [] f fd) : FnOk P w K mg base (L2.CX P w) 1 f fd ["word"] (spF K F_least_turn) := okF (k := 0) (g := g_least_turn) (N := N_least_turn) D sc_least_turn fun cdv A outer s H E hr tk =>
  (sx_one (sx_ret (v_cb (c_min rfl hr.units) (Z.fr 3) (by rfl) (va_cons (v_lc (w := false) (own := [("spot", 1)]) rfl sc_least_turn.nd (vi_rng1 (Z.fr 4) (va_cons (v_cb (c_max rfl hr.units) (Z.fr 16) (by rfl) (va_cons v_int (va_cons (v_cb c_len (Z.fr 2) (by rfl) (va_cons (v_var 0) va_nil)) va_nil))) va_nil)) (by show BlkOk N_least_turn (defScope s_least_turn) _ _; exact ⟨rfl, by decide +kernel, by decide +kernel, by decide +kernel, by decide +kernel⟩) (b_nm 1 sc_least_turn.nd) bt_nil (fun s H C cl fp => (v_bin op_bAdd (v_sl (v_var 0) (vo_some (v_var 1)) vo_none) (v_sl (v_var 0) vo_none (vo_some (v_var 1)))))) va_nil))))
theorem has_least_turn (Z : Fz P K mg base) : HasP P w K mg base 1 "least_turn" ["word"] F_least_turn := by
  obtain ⟨fd, D⟩ := Z.fn 33 (d := d_least_turn)
  exact ⟨_, fd, ok_least_turn Z D, (Z.glo 56), D.kp, D.bindsN fun _ _ _ _ _ _ us hl => match us, hl with | [_], _ => rfl⟩
theorem ok_rims_of (Z : Fz P K mg base) {f : Addr} {fd : FuncData} (D : FunD K "rims_of" "rims_of" (defArgs s_rims_of) (defBody s_rims_of) (defScope s_rims_of) [] [] f fd) : FnOk P w K mg base (L2.CX P w) 2 f fd ["skin"] (spF K F_rims_of) := okF (k := 1) (g := g_rims_of) (N := N_rims_of) D sc_rims_of fun cdv A outer s H E hr tk =>
  (sx_cons (sx_par 1 2 rfl sc_rims_of.nd (va_cons (v_lst va_nil) (va_cons (v_lst va_nil) va_nil)))
    (sx_cons (sx_for (w := false) (passes_of rfl) rfl (vi_val (v_fld (fld_row Z) (v_var 0))) (g_nm 3 sc_rims_of.nd)
    (sx_cons (sx_par 4 5 rfl sc_rims_of.nd (va_cons (v_lst va_nil) (va_cons (v_var 3) va_nil)))
    (sx_cons (sx_while (fun _ _ => 1000) (passes_of rfl) (vt_cmp (op_cNotIn hr.units) (v_var 5) (v_var 2))
    (sx_cons (sx_drop (v_bm 0 PySem.F.plainAttrs_list PySem.F.slot_list_append PySem.F.type_list_append m_append (v_var 2) (va_cons (v_var 5) va_nil)))
    (sx_cons (sx_drop (v_bm 0 PySem.F.plainAttrs_list PySem.F.slot_list_append PySem.F.type_list_append m_append (v_var 4) (va_cons (v_var 5) va_nil)))
    (sx_one (sx_set 5 sc_rims_of.nd (v_callH ⟨has_end_behind Z⟩ (hr.mono (by decide)) tk (va_cons (v_fld (fld_row Z) (v_var 0)) (va_cons (v_bin op_bXor (v_var 5) v_int) va_nil))))))))
    (sx_one (sx_if (vt_cmp (op_cNe hr.units) (v_var 4) (v_lst va_nil))
    (sx_one (sx_drop (v_bm 0 PySem.F.plainAttrs_list PySem.F.slot_list_append PySem.F.type_list_append m_append (v_var 1) (va_cons (v_callH ⟨has_least_turn Z⟩ (hr.mono (by decide)) tk (va_cons (v_ct c_tuple (Z.fr 10) (by rfl) (va_cons (v_var 4) va_nil)) va_nil)) va_nil))))
    sx_nil)))))
    (sx_one (sx_ret (v_cb (c_sorted hr.units) (Z.fr 57) (by rfl) (va_cons (v_var 1) va_nil))))))
theorem has_rims_of (Z : Fz P K mg base) : HasP P w K mg base 2 "rims_of" ["skin"] F_rims_of := by
  obtain ⟨fd, D⟩ := Z.fn 34 (d := d_rims_of)
  exact ⟨_, fd, ok_rims_of Z D, (Z.glo 58), D.kp, D.bindsN fun _ _ _ _ _ _ us hl => match us, hl with | [_], _ => rfl⟩
theorem ok_rims_at (Z : Fz P K mg base) {f : Addr} {fd : FuncData} (D : FunD K "rims_at" "rims_at" (defArgs s_rims_at) (defBody s_rims_at) (defScope s_rims_at) [] [] f fd) : FnOk P w K mg base (L2.CX P w) 6 f fd ["skin", "bridge"] (spF K F_rims_at) := okF (k := 5) (g := g_rims_at) (N := N_rims_at) D sc_rims_at fun cdv A outer s H E hr tk =>
  (sx_cons (sx_drop (v_callH ⟨has_need_bands Z⟩ (hr.mono (by decide)) tk (va_cons (v_var 0) va_nil)))
    (sx_cons (sx_drop (v_callH ⟨has_need_bridge Z⟩ (hr.mono (by decide)) tk (va_cons (v_var 0) (va_cons (v_var 1) va_nil))))
    (sx_cons (sx_set 2 sc_rims_at.nd v_dnew)
    (sx_cons (sx_for (w := true) (passes_of rfl) rfl (vi_enm (Z.fr 59) (va_cons (v_callH ⟨has_rims_of Z⟩ (hr.mono (by decide)) tk (va_cons (v_var 0) va_nil)) va_nil)) (g_tup rfl (g_cons (g_nm 3 sc_rims_at.nd) (g_cons (g_nm 4 sc_rims_at.nd) g_nil)))
    (sx_one (sx_drop (v_bm 2 PySem.F.plainAttrs_dict PySem.F.slot_dict_update PySem.F.type_dict_update m_update (v_var 2) (va_cons (v_dc (w := false) (own := [("end", 5)]) rfl sc_rims_at.nd (vi_val (v_var 4)) (by show BlkOk N_rims_at (defScope s_rims_at) _ _; exact ⟨rfl, by decide +kernel, by decide +kernel, by decide +kernel, by decide +kernel⟩) (b_nm 5 sc_rims_at.nd) bt_nil (fun s H C cl fp => (v_var 5)) (fun s H C cl fp => (v_var 3))) va_nil)))))
    (sx_one (sx_ret (v_ct c_tuple (Z.fr 10) (by rfl) (va_cons (v_cb (c_sorted hr.units) (Z.fr 57) (by rfl) (va_cons (v_lc (w := false) (own := [("gap", 6)]) rfl sc_rims_at.nd (vi_val (v_tup (va_cons (v_ix hr.units (v_var 1) v_int) (va_cons (v_ix hr.units (v_var 1) v_int) va_nil)))) (by show BlkOk N_rims_at (defScope s_rims_at) _ _; exact ⟨rfl, by decide +kernel, by decide +kernel, by decide +kernel, by decide +kernel⟩) (b_nm 6 sc_rims_at.nd) bt_nil (fun s H C cl fp => (v_ix hr.units (v_var 2) (v_ix hr.units (v_fld (fld_row Z) (v_var 0)) (v_var 6))))) va_nil)) va_nil))))))))
theorem has_rims_at (Z : Fz P K mg base) : HasP P w K mg base 6 "rims_at" ["skin", "bridge"] F_rims_at := by
  obtain ⟨fd, D⟩ := Z.fn 35 (d := d_rims_at)
  exact ⟨_, fd, ok_rims_at Z D, (Z.glo 60), D.kp, D.bindsN fun _ _ _ _ _ _ us hl => match us, hl with | [_, _], _ => rfl⟩
theorem hasR_rims_at (Z : Fz P K mg base) : HasRP P w K mg base 6 "rims_at" ["skin", "bridge"] F_rims_at ["bridge", "skin"] := by
  obtain ⟨fd, D⟩ := Z.fn 35 (d := d_rims_at)
  exact ⟨_, fd, ok_rims_at Z D, (Z.glo 60), D.kp, bindsR D fun _ _ _ _ _ _ ws hl => match ws, hl with | [_, _], _ => rfl⟩
theorem ok__law_turn (Z : Fz P K mg base) {f : Addr} {fd : FuncData} (D : FunD K "_law_turn" "_law_turn" (defArgs s__law_turn) (defBody s__law_turn) (defScope s__law_turn) [] [] f fd) : FnOk P w K mg base (L2.CX P w) 1 f fd ["word"] (spF K F__law_turn) := okF (k := 0) (g := g__law_turn) (N := N__law_turn) D sc__law_turn fun cdv A outer s H E hr tk =>
  (sx_one (sx_ret (v_cb (c_min rfl hr.units) (Z.fr 3) (by rfl) (va_cons (v_lc (w := false) (own := [("spot", 1)]) rfl sc__law_turn.nd (vi_rng1 (Z.fr 4) (va_cons (v_cb (c_max rfl hr.units) (Z.fr 16) (by rfl) (va_cons v_int (va_cons (v_cb c_len (Z.fr 2) (by rfl) (va_cons (v_var 0) va_nil)) va_nil))) va_nil)) (by show BlkOk N__law_turn (defScope s__law_turn) _ _; exact ⟨rfl, by decide +kernel, by decide +kernel, by decide +kernel, by decide +kernel⟩) (b_nm 1 sc__law_turn.nd) bt_nil (fun s H C cl fp => (v_bin op_bAdd (v_sl (v_var 0) (vo_some (v_var 1)) vo_none) (v_sl (v_var 0) vo_none (vo_some (v_var 1)))))) va_nil))))
theorem has__law_turn (Z : Fz P K mg base) : HasP P w K mg base 1 "_law_turn" ["word"] F__law_turn := by
  obtain ⟨fd, D⟩ := Z.fn 36 (d := d__law_turn)
  exact ⟨_, fd, ok__law_turn Z D, (Z.glo 61), D.kp, D.bindsN fun _ _ _ _ _ _ us hl => match us, hl with | [_], _ => rfl⟩
theorem ok__law_rims (Z : Fz P K mg base) {f : Addr} {fd : FuncData} (D : FunD K "_law_rims" "_law_rims" (defArgs s__law_rims) (defBody s__law_rims) (defScope s__law_rims) [] [] f fd) : FnOk P w K mg base (L2.CX P w) 2 f fd ["row"] (spF K F__law_rims) := okF (k := 1) (g := g__law_rims) (N := N__law_rims) D sc__law_rims fun cdv A outer s H E hr tk =>
  (sx_cons (sx_par 1 2 rfl sc__law_rims.nd (va_cons v_dnew (va_cons (v_lst va_nil) va_nil)))
    (sx_cons (sx_for (w := false) (passes_of rfl) rfl (vi_val (v_var 0)) (g_nm 3 sc__law_rims.nd)
    (sx_cons (sx_par 4 5 rfl sc__law_rims.nd (va_cons (v_tup va_nil) (va_cons (v_var 3) va_nil)))
    (sx_cons (sx_while (fun _ _ => 1000) (passes_of rfl) (vt_cmp (op_cNotIn hr.units) (v_var 5) (v_var 1))
    (sx_cons (sx_asg v_bl (g_sub hr.units (v_var 1) (v_var 5)))
    (sx_cons (sx_set 4 sc__law_rims.nd (v_bin op_bAdd (v_var 4) (v_tup (va_cons (v_var 5) va_nil))))
    (sx_one (sx_set 5 sc__law_rims.nd (v_ix hr.units (v_var 0) (v_bin op_bMod (v_ct c_int (Z.fr 5) (by rfl) (va_cons (v_bin op_bAdd (v_bm 1 PySem.F.plainAttrs_tuple PySem.F.slot_tuple_index PySem.F.type_tuple_index m_indexT (v_var 0) (va_cons (v_bin op_bXor (v_var 5) v_int) va_nil)) v_int) va_nil)) (v_cb c_len (Z.fr 2) (by rfl) (va_cons (v_var 0) va_nil)))))))))
    (sx_one (sx_if (vt_cmp (op_cNe hr.units) (v_var 4) (v_tup va_nil))
    (sx_one (sx_drop (v_bm 0 PySem.F.plainAttrs_list PySem.F.slot_list_append PySem.F.type_list_append m_append (v_var 2) (va_cons (v_callH ⟨has__law_turn Z⟩ (hr.mono (by decide)) tk (va_cons (v_var 4) va_nil)) va_nil))))
    sx_nil)))))
    (sx_one (sx_ret (v_var 2)))))
theorem has__law_rims (Z : Fz P K mg base) : HasP P w K mg base 2 "_law_rims" ["row"] F__law_rims := by
  obtain ⟨fd, D⟩ := Z.fn 37 (d := d__law_rims)
  exact ⟨_, fd, ok__law_rims Z D, (Z.glo 62), D.kp, D.bindsN fun _ _ _ _ _ _ us hl => match us, hl with | [_], _ => rfl⟩
theorem ok__law_rim_number (Z : Fz P K mg base) {f : Addr} {fd : FuncData} (D : FunD K "_law_rim_number" "_law_rim_number" (defArgs s__law_rim_number) (defBody s__law_rim_number) (defScope s__law_rim_number) [] [] f fd) : FnOk P w K mg base (L2.CX P w) 3 f fd ["row", "gap"] (spF K F__law_rim_number) := okF (k := 2) (g := g__law_rim_number) (N := N__law_rim_number) D sc__law_rim_number fun cdv A outer s H E hr tk =>
  (sx_cons (sx_set 2 sc__law_rim_number.nd (v_cb (c_sorted hr.units) (Z.fr 57) (by rfl) (va_cons (v_callH ⟨has__law_rims Z⟩ (hr.mono (by decide)) tk (va_cons (v_var 0) va_nil)) va_nil)))
    (sx_one (sx_ret (v_ix hr.units (v_lc (w := true) (own := [("place", 3), ("rim", 4)]) rfl sc__law_rim_number.nd (vi_enm (Z.fr 59) (va_cons (v_var 2) va_nil)) (by show BlkOk N__law_rim_number (defScope s__law_rim_number) _ _; exact ⟨rfl, by decide +kernel, by decide +kernel, by decide +kernel, by decide +kernel⟩) (b_tup rfl (bs_cons (b_nm 3 sc__law_rim_number.nd) (bs_cons (b_nm 4 sc__law_rim_number.nd) bs_nil))) (bt_one fun s H C cl fp => (vt_cmp (op_cIn hr.units) (v_ix hr.units (v_var 0) (v_var 1)) (v_var 4))) (fun s H C cl fp => (v_var 3))) v_int))))
theorem has__law_rim_number (Z : Fz P K mg base) : HasP P w K mg base 3 "_law_rim_number" ["row", "gap"] F__law_rim_number := by
  obtain ⟨fd, D⟩ := Z.fn 38 (d := d__law_rim_number)
  exact ⟨_, fd, ok__law_rim_number Z D, (Z.glo 63), D.kp, D.bindsN fun _ _ _ _ _ _ us hl => match us, hl with | [_, _], _ => rfl⟩
theorem ok__law_is_plain (Z : Fz P K mg base) {f : Addr} {fd : FuncData} (D : FunD K "_law_is_plain" "_law_is_plain" (defArgs s__law_is_plain) (defBody s__law_is_plain) (defScope s__law_is_plain) [] [] f fd) : FnOk P w K mg base (L2.CX P w) 4 f fd ["row", "thing"] (spF K F__law_is_plain) := okF (k := 3) (g := g__law_is_plain) (N := N__law_is_plain) D sc__law_is_plain fun cdv A outer s H E hr tk =>
  (sx_cons (sx_if (vw_or (vt_not (vt_val (v_isi (ClsV.ty "tuple") VI.is_tuple (Z.fr 18) (v_var 1) (pe_bltn (by rfl) (Z.fr 10) (by rfl) rfl)))) (vw_or (vt_cmp (op_cNe hr.units) (v_cb c_len (Z.fr 2) (by rfl) (va_cons (v_var 1) va_nil)) v_int) (vw_or (vt_not (vt_val (v_isi (ClsV.ty "tuple") VI.is_tuple (Z.fr 18) (v_ix hr.units (v_var 1) v_int) (pe_bltn (by rfl) (Z.fr 10) (by rfl) rfl)))) (vw_or1 (vt_cmp op_cGt (v_cb c_len (Z.fr 2) (by rfl) (va_cons (v_ix hr.units (v_var 1) v_int) va_nil)) v_int))))).pt
    (sx_one (sx_ret v_bl))
    sx_nil)
    (sx_cons (sx_for (w := false) (passes_of rfl) rfl (vi_val (v_bin op_bAdd (v_tup (va_cons (v_ix hr.units (v_var 1) v_int) (va_cons (v_ix hr.units (v_var 1) v_int) va_nil))) (v_ix hr.units (v_var 1) v_int))) (g_nm 2 sc__law_is_plain.nd)
    (sx_one (sx_if (vw_or (vt_not (vt_val (v_isi (ClsV.ty "int") is_int (Z.fr 18) (v_var 2) (pe_bltn (by rfl) (Z.fr 5) (by rfl) rfl)))) (vw_or (vt_val (v_isi (ClsV.ty "bool") is_bool (Z.fr 18) (v_var 2) (pe_bltn (by rfl) (Z.fr 26) (by rfl) rfl))) (vw_or1 (vt_not (vt_chain op_cLe op_cLt v_int (v_var 2) (v_cb c_len (Z.fr 2) (by rfl) (va_cons (v_var 0) va_nil))))))).pt
    (sx_one (sx_ret v_bl))
    sx_nil)))
    (sx_one (sx_ret (v_cmp (op_cEq hr.units) (v_callH ⟨has__law_bridge Z⟩ (hr.mono (by decide)) tk (va_cons (v_var 0) (va_cons (v_ix hr.units (v_var 1) v_int) (va_cons (v_ix hr.units (v_var 1) v_int) (va_cons (v_ix hr.units (v_var 1) v_int) va_nil))))) (v_var 1))))))
theorem has__law_is_plain (Z : Fz P K mg base) : HasP P w K mg base 4 "_law_is_plain" ["row", "thing"] F__law_is_plain := by
  obtain ⟨fd, D⟩ := Z.fn 39 (d := d__law_is_plain)
  exact ⟨_, fd, ok__law_is_plain Z D, (Z.glo 64), D.kp, D.bindsN fun _ _ _ _ _ _ us hl => match us, hl with | [_, _], _ => rfl⟩
theorem ok__law_judged (Z : Fz P K mg base) {f : Addr} {fd : FuncData} (D : FunD K "_law_judged" "_law_judged" (defArgs s__law_judged) (defBody s__law_judged) (defScope s__law_judged) [] [] f fd) : FnG P w K mg base 6 f fd ["draw", "skin", "row", "bridge"] (spF K F__law_judged) := okG (k := 5) (g := g__law_judged) (N := N__law_judged) D sc__law_judged fun cdv A outer s H E hg hr tk =>
  (sx_cons (sx_asg (v_var 3) (g_tup rfl (g_cons (g_nm 4 sc__law_judged.nd) (g_cons (g_nm 5 sc__law_judged.nd) (g_cons (g_nm 6 sc__law_judged.nd) g_nil)))))
    (sx_cons (sx_set 7 sc__law_judged.nd (v_cb c_len (Z.fr 2) (by rfl) (va_cons (v_var 2) va_nil)))
    (sx_cons (sx_set 8 sc__law_judged.nd (v_lst (va_cons (v_var 3) (va_cons (v_tup (va_cons (v_var 6) (va_cons (v_callH ⟨has__law_undone Z⟩ (hr.mono (by decide)) tk (va_cons (v_var 5) va_nil)) (va_cons (v_var 4) va_nil)))) (va_cons (v_tup (va_cons (v_var 4) (va_cons (v_var 5) (va_cons (v_bin op_bMod (v_ct c_int (Z.fr 5) (by rfl) (va_cons (v_bin op_bAdd (v_var 6) v_int) va_nil)) (v_var 7)) va_nil)))) (va_cons (v_ct c_list (Z.fr 8) (by rfl) (va_cons (v_var 3) va_nil)) (va_cons (v_tup (va_cons (v_var 4) (va_cons (v_ct c_list (Z.fr 8) (by rfl) (va_cons (v_var 5) va_nil)) (va_cons (v_var 6) va_nil)))) va_nil)))))))
    (sx_cons (sx_set 8 sc__law_judged.nd (v_bin op_bAdd (v_var 8) (v_lst (va_cons (v_tup (va_cons (v_var 4) (va_cons (v_var 5) va_nil))) (va_cons (v_tup (va_cons (v_var 4) (va_cons (v_var 5) (va_cons (v_var 6) (va_cons v_int va_nil))))) (va_cons (v_tup (va_cons (v_var 7) (va_cons (v_var 5) (va_cons (v_var 6) va_nil)))) (va_cons (v_tup (va_cons (v_var 4) (va_cons (v_bin op_bAdd (v_var 5) (v_tup (va_cons v_int (va_cons v_int va_nil)))) (va_cons (v_var 6) va_nil)))) (va_cons (v_tup (va_cons v_bl (va_cons (v_var 5) (va_cons (v_var 6) va_nil)))) (va_cons (v_tup (va_cons (v_var 4) (va_cons (v_var 5) (va_cons v_non va_nil)))) va_nil)))))))))
    (sx_cons (sx_set 8 sc__law_judged.nd (v_bin op_bAdd (v_var 8) (v_lst (va_cons (v_callH ⟨has__law_walked Z⟩ (hr.mono (by decide)) tk (va_cons (v_var 0) (va_cons (v_var 2) (va_cons (v_var 3) (va_cons v_int va_nil))))) (va_cons v_non (va_cons v_int (va_cons (v_tup va_nil) (va_cons v_str (va_cons (v_tup (va_cons (v_var 4) (va_cons (v_var 5) (va_cons v_bl va_nil)))) (va_cons (v_tup (va_cons (v_neg v_int) (va_cons (v_var 5) (va_cons (v_var 6) va_nil)))) (va_cons (v_tup (va_cons (v_var 4) (va_cons (v_tup (va_cons (v_var 7) va_nil)) (va_cons (v_var 6) va_nil)))) va_nil)))))))))))
    (sx_cons (sx_for (w := false) (passes_of rfl) rfl (vi_val (v_var 8)) (g_nm 9 sc__law_judged.nd)
    (sx_one (sx_if (vt_cmp (op_cNe hr.units) (v_cb (c_repr hg hr.units) (Z.fr 45) (by rfl) (va_cons (v_callH ⟨has_is_bridge Z⟩ (hr.mono (by decide)) tk (va_cons (v_var 1) (va_cons (v_var 9) va_nil))) va_nil)) (v_cb (c_repr hg hr.units) (Z.fr 45) (by rfl) (va_cons (v_callH ⟨has__law_is_plain Z⟩ (hr.mono (by decide)) tk (va_cons (v_var 2) (va_cons (v_var 9) va_nil))) va_nil)))
    (sx_one (sx_ret v_bl))
    sx_nil)))
    (sx_one (sx_ret (v_cmp (op_cEq hr.units) (v_cb (c_repr hg hr.units) (Z.fr 45) (by rfl) (va_cons (v_callR (hasR_is_bridge Z).to (hr.mono (by decide)) tk (vk_cons (v_var 3) (vk_cons (v_var 1) vk_nil))) va_nil)) (v_cb (c_repr hg hr.units) (Z.fr 45) (by rfl) (va_cons (v_cmp op_cLe (v_cb c_len (Z.fr 2) (by rfl) (va_cons (v_var 5) va_nil)) v_int) va_nil)))))))))))
theorem has__law_judged (Z : Fz P K mg base) : HasGP P w K mg base 6 "_law_judged" ["draw", "skin", "row", "bridge"] F__law_judged := by
  obtain ⟨fd, D⟩ := Z.fn 40 (d := d__law_judged)
  exact ⟨_, fd, ok__law_judged Z D, (Z.glo 65), D.kp, D.bindsN fun _ _ _ _ _ _ us hl => match us, hl with | [_, _, _, _], _ => rfl⟩
theorem ok_is_list (Z : Fz P K mg base) {f : Addr} {fd : FuncData} (D : FunD K "is_list" "is_list" (defArgs s_is_list) (defBody s_is_list) (defScope s_is_list) [] [] f fd) : FnOk P w K mg base (L2.CX P w) 1 f fd ["thing"] (spF K F_is_list) := okF (k := 0) (g := g_is_list) (N := N_is_list) D sc_is_list fun cdv A outer s H E hr tk =>
  (sx_one (sx_ret (v_isiT (ClsV.ty "list") (ClsV.ty "tuple") is_seq (Z.fr 18) (v_var 0) (pe_bltn (by rfl) (Z.fr 8) (by rfl) rfl) (pe_bltn (by rfl) (Z.fr 10) (by rfl) rfl))))
theorem has_is_list (Z : Fz P K mg base) : HasP P w K mg base 1 "is_list" ["thing"] F_is_list := by
  obtain ⟨fd, D⟩ := Z.fn 41 (d := d_is_list)
  exact ⟨_, fd, ok_is_list Z D, (Z.glo 66), D.kp, D.bindsN fun _ _ _ _ _ _ us hl => match us, hl with | [_], _ => rfl⟩
theorem ok_is_sequence (Z : Fz P K mg base) {f : Addr} {fd : FuncData} (D : FunD K "is_sequence" "is_sequence" (defArgs s_is_sequence) (defBody s_is_sequence) (defScope s_is_sequence) [] [] f fd) : FnOk P w K mg base (L2.CX P w) 3 f fd ["thing", "size"] (spF K F_is_sequence) := okF (k := 2) (g := g_is_sequence) (N := N_is_sequence) D sc_is_sequence fun cdv A outer s H E hr tk =>
  (sx_cons (sx_if (vw_or (vt_not (vt_val (v_callH ⟨has_is_list Z⟩ (hr.mono (by decide)) tk (va_cons (v_var 0) va_nil)))) (vw_or (vt_cmp (op_cNe hr.units) (v_cb c_len (Z.fr 2) (by rfl) (va_cons (v_var 0) va_nil)) (v_var 1)) (vw_or1 (vt_not (vt_val (v_cb (c_all rfl) (Z.fr 31) (by rfl) (va_cons (v_lc (w := false) (own := [("item", 2)]) rfl sc_is_sequence.nd (vi_val (v_var 0)) (by show BlkOk N_is_sequence (defScope s_is_sequence) _ _; exact ⟨rfl, by decide +kernel, by decide +kernel, by decide +kernel, by decide +kernel⟩) (b_nm 2 sc_is_sequence.nd) bt_nil (fun s H C cl fp => (v_callH ⟨has_is_between Z⟩ (hr.mono (by decide)) LamX.takes0 (va_cons (v_var 2) (va_cons v_int (va_cons (v_bin op_bSub (v_var 1) v_int) va_nil)))))) va_nil))))))).pt
    (sx_one (sx_ret v_bl))
    sx_nil)
    (sx_one (sx_ret (v_cmp (op_cEq hr.units) (v_cb (c_sorted hr.units) (Z.fr 57) (by rfl) (va_cons (v_var 0) va_nil)) (v_listRg1 rfl (Z.fr 8) (Z.fr 4) (v_var 1))))))
theorem has_is_sequence (Z : Fz P K mg base) : HasP P w K mg base 3 "is_sequence" ["thing", "size"] F_is_sequence := by
  obtain ⟨fd, D⟩ := Z.fn 42 (d := d_is_sequence)
  exact ⟨_, fd, ok_is_sequence Z D, (Z.glo 69), D.kp, D.bindsN fun _ _ _ _ _ _ us hl => match us, hl with | [_, _], _ => rfl⟩
theorem ok_is_row (Z : Fz P K mg base) {f : Addr} {fd : FuncData} (D : FunD K "is_row" "is_row" (defArgs s_is_row) (defBody s_is_row) (defScope s_is_row) [] [] f fd) : FnOk P w K mg base (L2.CX P w) 4 f fd ["thing"] (spF K F_is_row) := okF (k := 3) (g := g_is_row) (N := N_is_row) D sc_is_row fun cdv A outer s H E hr tk =>
  (sx_cons (sx_if (vw_or (vt_not (vt_val (v_callH ⟨has_is_list Z⟩ (hr.mono (by decide)) tk (va_cons (v_var 0) va_nil)))) (vw_or (vt_not (vt_chain op_cLe op_cLe (v_gint (Z.gi 67)) (v_cb c_len (Z.fr 2) (by rfl) (va_cons (v_var 0) va_nil)) (v_gint (Z.gi 68)))) (vw_or1 (vt_cmp (op_cEq hr.units) (v_bin op_bMod (v_cb c_len (Z.fr 2) (by rfl) (va_cons (v_var 0) va_nil)) v_int) v_int)))).pt
    (sx_one (sx_ret v_bl))
    sx_nil)
    (sx_one (sx_ret (v_callH ⟨has_is_sequence Z⟩ (hr.mono (by decide)) tk (va_cons (v_var 0) (va_cons (v_cb c_len (Z.fr 2) (by rfl) (va_cons (v_var 0) va_nil)) va_nil))))))
theorem has_is_row (Z : Fz P K mg base) : HasP P w K mg base 4 "is_row" ["thing"] F_is_row := by
  obtain ⟨fd, D⟩ := Z.fn 43 (d := d_is_row)
  exact ⟨_, fd, ok_is_row Z D, (Z.glo 70), D.kp, D.bindsN fun _ _ _ _ _ _ us hl => match us, hl with | [_], _ => rfl⟩
theorem ok_Skin (Z : Fz P K mg base) {f : Addr} {fd : FuncData} (D : FunD K "__init__" "Skin.__init__" (defArgs s_Skin) (defBody s_Skin) (defScope s_Skin) [] [] f fd) : FnOk P w K mg base (L2.CX P w) 5 f fd ["self", "row"] (spF K F_Skin) := okF (k := 4) (g := g_Skin) (N := N_Skin) D sc_Skin fun cdv A outer s H E hr tk =>
  (sx_cons (sx_if (vt_not (vt_val (v_callH ⟨has_is_row Z⟩ (hr.mono (by decide)) tk (va_cons (v_var 1) va_nil))))
    (sx_one (sx_raise1 (bad_BadSkin Z) (Z.fr 20) (hr.mono (by decide)) rfl tk (Z.glo 21) v_str))
    sx_nil)
    (sx_cons (sx_set 2 sc_Skin.nd (v_bm 0 PySem.F.plainAttrs_list PySem.F.slot_list_index PySem.F.type_list_index m_indexL (v_ct c_list (Z.fr 8) (by rfl) (va_cons (v_var 1) va_nil)) (va_cons v_int va_nil)))
    (sx_cons (sx_fld (fld_row Z) (v_var 0) (v_bin op_bAdd (v_ct c_tuple (Z.fr 10) (by rfl) (va_cons (v_sl (v_var 1) (vo_some (v_var 2)) vo_none) va_nil)) (v_ct c_tuple (Z.fr 10) (by rfl) (va_cons (v_sl (v_var 1) vo_none (vo_some (v_var 2))) va_nil))))
    (sx_one (sx_fld (fld_bands Z) (v_var 0) (v_bin op_bDiv (v_cb c_len (Z.fr 2) (by rfl) (va_cons (v_var 1) va_nil)) v_int))))))
theorem has_Skin (Z : Fz P K mg base) : HasMP P w K mg base 5 "Skin" ["self", "row"] F_Skin := by
  obtain ⟨fd, D⟩ := Z.fn 44 (d := d_Skin)
  exact ⟨_, fd, He.mkr_ok (Z.fact 71 rfl), ok_Skin Z D, (Z.glo 19), D.bindsN fun _ _ _ _ _ _ us hl => match us, hl with | [_, _], _ => rfl⟩
theorem ok__law_refused (Z : Fz P K mg base) {fd : FuncData} (D : FunD K "_law_refused" "_law_refused" (defArgs s__law_refused) (defBody s__law_refused) (defScope s__law_refused) [] [] (He.fAd K ("_law_refused", none)) fd) : FnG P w K mg base 9 (He.fAd K ("_law_refused", none)) fd ["draw", "skin", "bridge"] (spF K F__law_refused) := okGL (k := 8) (g := g__law_refused) (N := N__law_refused) D sc__law_refused fun A outer s H E hg hr tk => by
  have lh := lamH_of (X := cxB P w K mg base N__law_refused "_law_refused" (defScope s__law_refused) (He.fAd K ("_law_refused", none)) (.ref (He.cT K ("_law_refused", none)).1) A outer s H E) (nm := "_law_refused") (q := "_law_refused.<locals>.<lambda>") Z.b (Z.ex 6) (by decide) (by rfl) rfl
  exact (sx_cons (sx_par 3 4 rfl sc__law_refused.nd (va_cons (v_cb c_len (Z.fr 2) (by rfl) (va_cons (v_fld (fld_row Z) (v_var 1)) va_nil)) (va_cons (v_make ⟨has_Skin Z⟩ (hr.mono (by decide)) tk (va_cons (v_tup (va_cons v_int (va_cons v_int va_nil))) va_nil)) va_nil)))
    (sx_cons (sx_asg (v_tup (va_cons (v_callH ⟨has__law_pick Z⟩ (hr.mono (by decide)) tk (va_cons (v_var 0) (va_cons (v_lst (va_cons v_non (va_cons v_int (va_cons v_str va_nil)))) va_nil))) (va_cons (v_callH ⟨has__law_pick Z⟩ (hr.mono (by decide)) tk (va_cons (v_var 0) (va_cons (v_lst (va_cons (v_neg v_int) (va_cons (v_var 3) (va_cons v_non (va_cons v_bl (va_cons v_str va_nil)))))) va_nil))) (va_cons (v_callH ⟨has__law_pick Z⟩ (hr.mono (by decide)) tk (va_cons (v_var 0) (va_cons (v_lst (va_cons v_non (va_cons (v_lst (va_cons v_int va_nil)) (va_cons (v_tup (va_cons (v_var 3) va_nil)) (va_cons (v_bin op_bMul (v_tup (va_cons v_int va_nil)) v_int) va_nil))))) va_nil))) va_nil)))) (g_tup rfl (g_cons (g_nm 5 sc__law_refused.nd) (g_cons (g_nm 11 sc__law_refused.nd) (g_cons (g_nm 10 sc__law_refused.nd) g_nil)))))
    (sx_cons (sx_set 12 sc__law_refused.nd (v_callH ⟨has__law_pick Z⟩ (hr.mono (by decide)) tk (va_cons (v_var 0) (va_cons (v_lst (va_cons v_non (va_cons (v_tup (va_cons v_int (va_cons (v_tup va_nil) (va_cons v_int va_nil)))) (va_cons (v_tup (va_cons v_int (va_cons (v_tup (va_cons v_int va_nil)) va_nil))) (va_cons (v_lst (va_cons v_int (va_cons (v_tup va_nil) (va_cons v_int va_nil)))) (va_cons (v_tup (va_cons (v_var 3) (va_cons (v_tup va_nil) (va_cons v_int va_nil)))) va_nil)))))) va_nil))))
    (sx_cons (sx_for (w := false) (passes_of rfl) rfl (vi_val (v_lst (va_cons (v_tup (va_cons (v_var 5) (va_cons v_non va_nil))) (va_cons (v_tup (va_cons (v_var 4) (va_cons v_str va_nil))) va_nil)))) (g_tup rfl (g_cons (g_nm 13 sc__law_refused.nd) (g_cons (g_nm 6 sc__law_refused.nd) g_nil)))
    (sx_ch1 (iws := 7) lh (LamOk.mk (k := 6) (LamX.lamS_by (by rfl)) (by rfl) (by intros; rfl) (fun A outer s H E f c hr tk => (v_callH ⟨has_bridge_of Z⟩ (hr.mono (by decide)) tk (va_cons (v_var 13) (va_cons (v_var 11) (va_cons (v_var 10) (va_cons (v_var 11) va_nil))))))) sc__law_refused.nd (sx_ch2 (iws := 7) lh (LamOk.mk (k := 6) (LamX.lamS_by (by rfl)) (by rfl) (by intros; rfl) (fun A outer s H E f c hr tk => (v_callH ⟨has_is_bridge Z⟩ (hr.mono (by decide)) tk (va_cons (v_var 13) (va_cons (v_var 12) va_nil))))) (sx_ch2 (iws := 7) lh (LamOk.mk (k := 6) (LamX.lamS_by (by rfl)) (by rfl) (by intros; rfl) (fun A outer s H E f c hr tk => (v_callH ⟨has_rims_at Z⟩ (hr.mono (by decide)) tk (va_cons (v_var 13) (va_cons (v_var 12) va_nil))))) (sx_ch3 (k := 6) (iws := 7) (iw := 8) (ic := 9) (cau_cs Z) (cauD_Z Z) (hr.mono (by decide)) (passes_of rfl) rfl sc__law_refused.nd (sx_one (sx_if (vw_or (vt_not (vt_val (v_isi (ClsV.own _) (isB_ok (Z.ex 2)) (Z.fr 18) (v_var 9) (pe_glob (by rfl) (Z.glo 21) rfl)))) (vw_or1 (vt_cmp (op_cNe hr.units) (v_cb (c_repr hg hr.units) (Z.fr 45) (by rfl) (va_cons (v_xf ["BadNumber", "BadSkin"] (xfs_ok (Z.ex 3)) (v_var 9)) va_nil)) (v_cb (c_repr hg hr.units) (Z.fr 45) (by rfl) (va_cons (v_var 6) va_nil))))).pt
    (sx_one (sx_ret v_bl))
    sx_nil))) (by decide)) (by decide))))
    (sx_cons (sx_set 9 sc__law_refused.nd (v_cauL lh (cau_cs Z) (cauD_Z Z) (hr.mono (by decide)) (LamOk.mk (k := 6) (LamX.lamS_by (by rfl)) (by rfl) (by intros; rfl) (fun A outer s H E f c hr tk => (v_callH ⟨has_bridge_of Z⟩ (hr.mono (by decide)) tk (va_cons (v_var 1) (va_cons (v_var 11) (va_cons (v_var 10) (va_cons (v_var 11) va_nil)))))))))
    (sx_cons (sx_if (vw_or (vt_not (vt_val (v_isi (ClsV.own _) (isB_ok (Z.ex 4)) (Z.fr 18) (v_var 9) (pe_glob (by rfl) (Z.glo 29) rfl)))) (vw_or1 (vt_cmp (op_cNe hr.units) (v_xf ["BadNumber", "BadSkin"] (xfs_ok (Z.ex 3)) (v_var 9)) v_str))).pt
    (sx_one (sx_ret v_bl))
    sx_nil)
    (sx_cons (sx_if (vt_not (vt_val (v_isi (ClsV.own _) (isB_ok (Z.ex 5)) (Z.fr 18) (v_cauL lh (cau_cs Z) (cauD_Z Z) (hr.mono (by decide)) (LamOk.mk (k := 6) (LamX.lamS_by (by rfl)) (by rfl) (by intros; rfl) (fun A outer s H E f c hr tk => (v_callH ⟨has_bridge_of Z⟩ (hr.mono (by decide)) tk (va_cons (v_var 1) (va_cons v_int (va_cons (v_var 10) (va_cons (v_var 11) va_nil)))))))) (pe_glob (by rfl) (Z.glo 35) rfl))))
    (sx_one (sx_ret v_bl))
    sx_nil)
    (sx_cons (sx_set 9 sc__law_refused.nd (v_cauL lh (cau_cs Z) (cauD_Z Z) (hr.mono (by decide)) (LamOk.mk (k := 6) (LamX.lamS_by (by rfl)) (by rfl) (by intros; rfl) (fun A outer s H E f c hr tk => (v_callH ⟨has_bridge_of Z⟩ (hr.mono (by decide)) tk (va_cons (v_var 1) (va_cons v_int (va_cons (v_tup va_nil) (va_cons (v_var 11) va_nil)))))))))
    (sx_cons (sx_if (vw_or (vt_not (vt_val (v_isi (ClsV.own _) (isB_ok (Z.ex 4)) (Z.fr 18) (v_var 9) (pe_glob (by rfl) (Z.glo 29) rfl)))) (vw_or1 (vt_cmp (op_cNe hr.units) (v_xf ["BadNumber", "BadSkin"] (xfs_ok (Z.ex 3)) (v_var 9)) v_str))).pt
    (sx_one (sx_ret v_bl))
    sx_nil)
    (sx_one (sx_ret (v_isi (ClsV.own _) (isB_ok (Z.ex 1)) (Z.fr 18) (v_cauL lh (cau_cs Z) (cauD_Z Z) (hr.mono (by decide)) (LamOk.mk (k := 6) (LamX.lamS_by (by rfl)) (by rfl) (by intros; rfl) (fun A outer s H E f c hr tk => (v_callH ⟨has_rims_at Z⟩ (hr.mono (by decide)) tk (va_cons (v_var 1) (va_cons (v_var 12) va_nil)))))) (pe_glob (by rfl) (Z.glo 52) rfl)))))))))))))
theorem has__law_refused (Z : Fz P K mg base) : HasGP P w K mg base 9 "_law_refused" ["draw", "skin", "bridge"] F__law_refused := by
  obtain ⟨fd, D⟩ := Z.fn 45 (d := d__law_refused)
  exact ⟨_, fd, ok__law_refused Z D, (Z.glo 72), D.kp, D.bindsN fun _ _ _ _ _ _ us hl => match us, hl with | [_, _, _], _ => rfl⟩
theorem ok__law_one_right (Z : Fz P K mg base) {fd : FuncData} (D : FunD K "_law_one_right" "_law_one_right" (defArgs s__law_one_right) (defBody s__law_one_right) (defScope s__law_one_right) [] [] (He.fAd K ("_law_one_right", none)) fd) : FnG P w K mg base 10 (He.fAd K ("_law_one_right", none)) fd ["draw", "skin", "row", "triple"] (spF K F__law_one_right) := okGL (k := 9) (g := g__law_one_right) (N := N__law_one_right) D sc__law_one_right fun A outer s H E hg hr tk => by
  have lh := lamH_of (X := cxB P w K mg base N__law_one_right "_law_one_right" (defScope s__law_one_right) (He.fAd K ("_law_one_right", none)) (.ref (He.cT K ("_law_one_right", none)).1) A outer s H E) (nm := "_law_one_right") (q := "_law_one_right.<locals>.<lambda>") Z.b (Z.ex 6) (by decide) (by rfl) rfl
  exact (sx_cons (sx_set 10 sc__law_one_right.nd (v_callH ⟨has__law_bridge Z⟩ (hr.mono (by decide)) tk (va_cons (v_var 2) (va_cons (v_ix hr.units (v_var 3) v_int) (va_cons (v_ix hr.units (v_var 3) v_int) (va_cons (v_ix hr.units (v_var 3) v_int) va_nil))))))
    (sx_cons (sx_set 4 sc__law_one_right.nd (v_callH ⟨has_bridge_of Z⟩ (hr.mono (by decide)) tk (va_cons (v_var 1) (va_cons (v_ix hr.units (v_var 3) v_int) (va_cons (v_ix hr.units (v_var 3) v_int) (va_cons (v_ix hr.units (v_var 3) v_int) va_nil))))))
    (sx_cons (sx_if (vt_cmp (op_cNe hr.units) (v_cb (c_repr hg hr.units) (Z.fr 45) (by rfl) (va_cons (v_var 4) va_nil)) (v_cb (c_repr hg hr.units) (Z.fr 45) (by rfl) (va_cons (v_var 10) va_nil)))
    (sx_one (sx_ret v_bl))
    sx_nil)
    (sx_cons (sx_for (w := false) (passes_of rfl) rfl (vi_rng1 (Z.fr 4) (va_cons v_int va_nil)) (g_nm 5 sc__law_one_right.nd)
    (sx_cons (sx_asg (v_callH ⟨has__law_walked Z⟩ (hr.mono (by decide)) tk (va_cons (v_var 0) (va_cons (v_var 2) (va_cons (v_var 3) (va_cons v_int va_nil))))) (g_tup rfl (g_cons (g_nm 6 sc__law_one_right.nd) (g_cons (g_nm 7 sc__law_one_right.nd) (g_cons (g_nm 8 sc__law_one_right.nd) g_nil)))))
    (sx_cons (sx_if (vt_cmp (op_cNe hr.units) (v_cb (c_repr hg hr.units) (Z.fr 45) (by rfl) (va_cons (v_callR (hasR_bridge_of Z).to (hr.mono (by decide)) tk (vk_cons (v_var 8) (vk_cons (v_var 7) (vk_cons (v_var 6) (vk_cons (v_var 1) vk_nil))))) va_nil)) (v_cb (c_repr hg hr.units) (Z.fr 45) (by rfl) (va_cons (v_var 10) va_nil)))
    (sx_one (sx_ret v_bl))
    sx_nil)
    (sx_one (sx_if (vw_and (vt_cmp op_cIsN (v_var 10) v_non) (vw_and1 (vt_cmp (op_cNe hr.units) (v_callH ⟨has__law_plain_fact Z⟩ (hr.mono (by decide)) tk (va_cons (v_var 2) (va_cons (v_tup (va_cons (v_var 6) (va_cons (v_var 7) (va_cons (v_var 8) va_nil)))) va_nil))) (v_cmp (op_cEq hr.units) (v_cb c_len (Z.fr 2) (by rfl) (va_cons (v_var 7) va_nil)) (v_cb c_len (Z.fr 2) (by rfl) (va_cons (v_ix hr.units (v_var 10) v_int) va_nil)))))).pt
    (sx_one (sx_ret v_bl))
    sx_nil)))))
    (sx_cons (sx_if (vt_cmp op_cIs (v_var 10) v_non)
    (sx_one (sx_ret v_bl))
    sx_nil)
    (sx_cons (sx_if (vt_cmp op_cGt (v_cb c_len (Z.fr 2) (by rfl) (va_cons (v_ix hr.units (v_var 10) v_int) va_nil)) v_int)
    (sx_one (sx_ret (v_and (v_cmp op_cIs (v_callH ⟨has_is_bridge Z⟩ (hr.mono (by decide)) tk (va_cons (v_var 1) (va_cons (v_var 10) va_nil))) v_bl) (v_one (v_isi (ClsV.own _) (isB_ok (Z.ex 1)) (Z.fr 18) (v_cauL lh (cau_cs Z) (cauD_Z Z) (hr.mono (by decide)) (LamOk.mk (k := 6) (LamX.lamS_by (by rfl)) (by rfl) (by intros; rfl) (fun A outer s H E f c hr tk => (v_callH ⟨has_rims_at Z⟩ (hr.mono (by decide)) tk (va_cons (v_var 1) (va_cons (v_var 10) va_nil)))))) (pe_glob (by rfl) (Z.glo 52) rfl))))))
    sx_nil)
    (sx_cons (sx_set 9 sc__law_one_right.nd (v_ct c_tuple (Z.fr 10) (by rfl) (va_cons (v_cb (c_sorted hr.units) (Z.fr 57) (by rfl) (va_cons (v_lst (va_cons (v_callH ⟨has__law_rim_number Z⟩ (hr.mono (by decide)) tk (va_cons (v_var 2) (va_cons (v_ix hr.units (v_var 10) v_int) va_nil))) (va_cons (v_callH ⟨has__law_rim_number Z⟩ (hr.mono (by decide)) tk (va_cons (v_var 2) (va_cons (v_ix hr.units (v_var 10) v_int) va_nil))) va_nil))) va_nil)) va_nil)))
    (sx_cons (sx_if (vw_or (vt_cmp (op_cNe hr.units) (v_cb (c_repr hg hr.units) (Z.fr 45) (by rfl) (va_cons (v_callH ⟨has_rims_at Z⟩ (hr.mono (by decide)) tk (va_cons (v_var 1) (va_cons (v_var 10) va_nil))) va_nil)) (v_cb (c_repr hg hr.units) (Z.fr 45) (by rfl) (va_cons (v_var 9) va_nil))) (vw_or1 (vt_cmp (op_cNe hr.units) (v_cb (c_repr hg hr.units) (Z.fr 45) (by rfl) (va_cons (v_callR (hasR_rims_at Z).to (hr.mono (by decide)) tk (vk_cons (v_var 10) (vk_cons (v_var 1) vk_nil))) va_nil)) (v_cb (c_repr hg hr.units) (Z.fr 45) (by rfl) (va_cons (v_var 9) va_nil))))).pt
    (sx_one (sx_ret v_bl))
    sx_nil)
    (sx_one (sx_ret (v_and (v_callG ⟨has__law_judged Z⟩ hg (hr.mono (by decide)) tk (va_cons (v_var 0) (va_cons (v_var 1) (va_cons (v_var 2) (va_cons (v_var 10) va_nil))))) (v_one (v_callG ⟨has__law_refused Z⟩ hg (hr.mono (by decide)) tk (va_cons (v_var 0) (va_cons (v_var 1) (va_cons (v_var 10) va_nil))))))))))))))))
theorem has__law_one_right (Z : Fz P K mg base) : HasGP P w K mg base 10 "_law_one_right" ["draw", "skin", "row", "triple"] F__law_one_right := by
  obtain ⟨fd, D⟩ := Z.fn 46 (d := d__law_one_right)
  exact ⟨_, fd, ok__law_one_right Z D, (Z.glo 73), D.kp, D.bindsN fun _ _ _ _ _ _ us hl => match us, hl with | [_, _, _, _], _ => rfl⟩
theorem ok__law_word (Z : Fz P K mg base) {f : Addr} {fd : FuncData} (D : FunD K "_law_word" "_law_word" (defArgs s__law_word) (defBody s__law_word) (defScope s__law_word) [] [] f fd) : FnOk P w K mg base (L2.CX P w) 4 f fd ["draw", "bands", "many"] (spF K F__law_word) := okF (k := 3) (g := g__law_word) (N := N__law_word) D sc__law_word fun cdv A outer s H E hr tk =>
  (sx_cons (sx_set 3 sc__law_word.nd (v_lst va_nil))
    (sx_cons (sx_for (w := false) (passes_of rfl) rfl (vi_rng1 (Z.fr 4) (va_cons (v_var 2) va_nil)) (g_nm 4 sc__law_word.nd)
    (sx_cons (sx_set 5 sc__law_word.nd (v_if (vt_cmp op_cGt (v_var 4) v_int) (v_lst (va_cons (v_bin op_bXor (v_ix hr.units (v_var 3) (v_bin op_bSub (v_var 4) v_int)) v_int) va_nil)) (v_lst va_nil)))
    (sx_cons (sx_if (vw_and (vt_cmp (op_cEq hr.units) (v_var 4) (v_bin op_bSub (v_var 2) v_int)) (vw_and1 (vt_cmp op_cGt (v_var 4) v_int))).pt
    (sx_one (sx_set 5 sc__law_word.nd (v_bin op_bAdd (v_var 5) (v_lst (va_cons (v_bin op_bXor (v_ix hr.units (v_var 3) v_int) v_int) va_nil)))))
    sx_nil)
    (sx_cons (sx_setLc (w := false) (own := [("letter", 7)]) 6 rfl sc__law_word.nd (vi_rng1 (Z.fr 4) (va_cons (v_bin op_bMul v_int (v_var 1)) va_nil)) (by show BlkOk N__law_word (defScope s__law_word) _ _; exact ⟨rfl, by decide +kernel, by decide +kernel, by decide +kernel, by decide +kernel⟩) (b_nm 7 sc__law_word.nd) (bt_one fun s H C cl fp => (vt_cmp (op_cNotIn hr.units) (v_var 7) (v_var 5))) (fun s H C cl fp => (v_var 7)))
    (sx_cons (sx_if (vt_cmp (op_cEq hr.units) (v_var 6) (v_lst va_nil))
    (sx_one (sx_ret (v_ct c_tuple (Z.fr 10) (by rfl) (va_cons (v_var 3) va_nil))))
    sx_nil)
    (sx_one (sx_drop (v_bm 0 PySem.F.plainAttrs_list PySem.F.slot_list_append PySem.F.type_list_append m_append (v_var 3) (va_cons (v_callH ⟨has__law_pick Z⟩ (hr.mono (by decide)) tk (va_cons (v_var 0) (va_cons (v_var 6) va_nil))) va_nil)))))))))
    (sx_one (sx_ret (v_ct c_tuple (Z.fr 10) (by rfl) (va_cons (v_var 3) va_nil))))))
theorem has__law_word (Z : Fz P K mg base) : HasP P w K mg base 4 "_law_word" ["draw", "bands", "many"] F__law_word := by
  obtain ⟨fd, D⟩ := Z.fn 47 (d := d__law_word)
  exact ⟨_, fd, ok__law_word Z D, (Z.glo 74), D.kp, D.bindsN fun _ _ _ _ _ _ us hl => match us, hl with | [_, _, _], _ => rfl⟩
theorem ok__law_triple (Z : Fz P K mg base) {f : Addr} {fd : FuncData} (D : FunD K "_law_triple" "_law_triple" (defArgs s__law_triple) (defBody s__law_triple) (defScope s__law_triple) [] [] f fd) : FnOk P w K mg base (L2.CX P w) 5 f fd ["draw", "row", "bands"] (spF K F__law_triple) := okF (k := 4) (g := g__law_triple) (N := N__law_triple) D sc__law_triple fun cdv A outer s H E hr tk =>
  (sx_cons (sx_par 3 4 rfl sc__law_triple.nd (va_cons (v_cb c_len (Z.fr 2) (by rfl) (va_cons (v_var 1) va_nil)) (va_cons (v_callH ⟨has__law_take Z⟩ (hr.mono (by decide)) tk (va_cons (v_var 0) (va_cons v_int va_nil))) va_nil)))
    (sx_cons (sx_par 5 6 rfl sc__law_triple.nd (va_cons (v_callH ⟨has__law_take Z⟩ (hr.mono (by decide)) tk (va_cons (v_var 0) (va_cons (v_var 3) va_nil))) (va_cons (v_callH ⟨has__law_take Z⟩ (hr.mono (by decide)) tk (va_cons (v_var 0) (va_cons (v_var 3) va_nil))) va_nil)))
    (sx_cons (sx_if (vt_cmp (op_cEq hr.units) (v_var 4) v_int)
    (sx_one (sx_ret (v_tup (va_cons (v_var 5) (va_cons (v_tup va_nil) (va_cons (v_var 6) va_nil))))))
    sx_nil)
    (sx_cons (sx_if (vt_cmp (op_cEq hr.units) (v_var 4) v_int)
    (sx_one (sx_ret (v_callH ⟨has__law_walked Z⟩ (hr.mono (by decide)) tk (va_cons (v_var 0) (va_cons (v_var 1) (va_cons (v_tup (va_cons (v_var 5) (va_cons (v_tup va_nil) (va_cons (v_var 5) va_nil)))) (va_cons v_int va_nil)))))))
    sx_nil)
    (sx_cons (sx_set 7 sc__law_triple.nd (v_callH ⟨has__law_pick Z⟩ (hr.mono (by decide)) tk (va_cons (v_var 0) (va_cons (v_lst (va_cons v_int (va_cons v_int (va_cons v_int (va_cons v_int (va_cons v_int (va_cons v_int (va_cons v_int (va_cons v_int (va_cons v_int va_nil)))))))))) va_nil))))
    (sx_one (sx_ret (v_tup (va_cons (v_var 5) (va_cons (v_callH ⟨has__law_word Z⟩ (hr.mono (by decide)) tk (va_cons (v_var 0) (va_cons (v_var 2) (va_cons (v_var 7) va_nil)))) (va_cons (v_var 6) va_nil)))))))))))
theorem has__law_triple (Z : Fz P K mg base) : HasP P w K mg base 5 "_law_triple" ["draw", "row", "bands"] F__law_triple := by
  obtain ⟨fd, D⟩ := Z.fn 48 (d := d__law_triple)
  exact ⟨_, fd, ok__law_triple Z D, (Z.glo 75), D.kp, D.bindsN fun _ _ _ _ _ _ us hl => match us, hl with | [_, _, _], _ => rfl⟩
theorem ok_law (Z : Fz P K mg base) {f : Addr} {fd : FuncData} (D : FunD K "law" "law" (defArgs s_law) (defBody s_law) (defScope s_law) [] [] f fd) : FnG P w K mg base 11 f fd ["script"] (spF K F_law) := okG (k := 10) (g := g_law) (N := N_law) D sc_law fun cdv A outer s H E hg hr tk =>
  (sx_cons (sx_set 1 sc_law.nd (v_callH ⟨has__law_begun Z⟩ (hr.mono (by decide)) tk (va_cons (v_var 0) va_nil)))
    (sx_cons (sx_for (w := false) (passes_of rfl) rfl (vi_rng1 (Z.fr 4) (va_cons (v_bin op_bAdd v_int (v_cb (c_min rfl hr.units) (Z.fr 3) (by rfl) (va_cons (v_cb c_len (Z.fr 2) (by rfl) (va_cons (v_var 0) va_nil)) (va_cons v_int va_nil)))) va_nil)) (g_nm 2 sc_law.nd)
    (sx_cons (sx_set 3 sc_law.nd (v_bin op_bAdd v_int (v_callH ⟨has__law_take Z⟩ (hr.mono (by decide)) tk (va_cons (v_var 1) (va_cons v_int va_nil)))))
    (sx_cons (sx_set 4 sc_law.nd (v_callH ⟨has__law_row Z⟩ (hr.mono (by decide)) tk (va_cons (v_var 1) (va_cons (v_var 3) va_nil))))
    (sx_one (sx_if (vt_not (vt_val (v_callG ⟨has__law_one_right Z⟩ hg (hr.mono (by decide)) tk (va_cons (v_var 1) (va_cons (v_make ⟨has_Skin Z⟩ (hr.mono (by decide)) tk (va_cons (v_var 4) va_nil)) (va_cons (v_var 4) (va_cons (v_callH ⟨has__law_triple Z⟩ (hr.mono (by decide)) tk (va_cons (v_var 1) (va_cons (v_var 4) (va_cons (v_var 3) va_nil)))) va_nil)))))))
    (sx_one (sx_ret v_bl))
    sx_nil)))))
    (sx_one (sx_ret v_bl))))
theorem has_law (Z : Fz P K mg base) : HasGP P w K mg base 11 "law" ["script"] F_law := by
  obtain ⟨fd, D⟩ := Z.fn 49 (d := d_law)
  exact ⟨_, fd, ok_law Z D, (Z.glo 76), D.kp, D.bindsN fun _ _ _ _ _ _ us hl => match us, hl with | [_], _ => rfl⟩
end
end VI
end
section
set_option maxRecDepth 100000
set_option maxHeartbeats 0
/-! The head. -/
namespace VI
open PySem PySem.Spec PyProof.Rows L2 PySem.SeqAt
def loose0 : List Str := ["__name__", "RoundError", "BadWord", "BadNumber", "BadSkin", "BadBridge", "is_number", "is_between", "is_list", "is_tuple", "need_between", "LEAST_ENDS", "MOST_ENDS", "is_sequence", "is_row", "Skin", "need_skin", "end_behind", "least_turn", "rims_of", "LONGEST_WORD", "is_letters", "is_word", "need_word", "freed", "undone_of", "FEWEST_BANDS", "LONGEST_BRIDGE", "need_bands", "gap_behind"]
def loose1 : List Str := ["walked", "end_between", "plain_bridge", "bridge_of", "is_bridge_of", "is_bridge", "need_bridge", "rims_at", "_law_begun", "_law_mixed", "_law_take", "_law_pick", "_law_shuffled", "_law_caught", "_law_row", "_law_undone", "_law_freed", "_law_turn", "_law_word", "_law_rims", "_law_walk", "_law_tight", "_law_bridge", "_law_walked", "_law_triple", "_law_plain_fact", "_law_rim_number", "_law_is_plain", "_law_judged", "_law_refused"]
def loose2 : List Str := ["_law_one_right"]
abbrev loose : List Str := loose0 ++ loose1 ++ loose2
abbrev RR : PySem.W.OpenRow := PySem.W.OpenLaw.row PySem.Challenge.rw_tautrounds_k78_bridges_plain
abbrev hk : PySem.W.Hook := hookV hd
def ob (s : PySem.W.SharedT) : AlV := obsV hd (HandSHeadRun.getT s)
theorem ob_eq (s : PySem.W.SharedT) : ob s = hk.obs s.abs := obsV_eq (HandSHeadRun.getT_eq s)
theorem run (w : World) : HandSHeadRun.RunEq RR (PySem.W.view RR.prog [66]) hk ob 4000 loose w := by
  intro os
  kernel_rfl
end VI
open PySem PySem.W PySem.Calls PyProof.Rows in
theorem VI.head_of (hv : ∀ ns : List Int, ns.length ≤ 63 → ∃ a', VI.F_law [.rol (ns.map .int)] ⟨0, .nil⟩ = .ok (.bl true) a') : PySem.Challenge.rw_tautrounds_k78_bridges_plain.Holds := by
  w_on; o_law
  refine HandSHeadRun.head_any (r := OpenLaw.row PySem.Challenge.rw_tautrounds_k78_bridges_plain) (q := view (OpenLaw.row PySem.Challenge.rw_tautrounds_k78_bridges_plain).prog [66]) (H := VI.hk) (ob := VI.ob) (M := 4000) (loose := VI.loose) (d := HandSHeadRun.topDef (OpenLaw.row PySem.Challenge.rw_tautrounds_k78_bridges_plain).prog 66) (kwd := []) VI.ob_eq
    (by kernel_rfl) (fun s => by kernel_rfl) VI.run (by kernel_rfl) (by kernel_rfl) (by kernel_rfl) (by rfl) (by first | assumption | decide +kernel) (by decide +kernel) ⟨rfl, rfl, rfl, rfl, rfl, by decide +kernel⟩ ?hw ?hc
  case hw => w_witness2
  case hc =>
    refine VI.walk_G (l := PySem.Challenge.rw_tautrounds_k78_bridges_plain) (n := 63) (k := 11) (x := "script") (F := VI.F_law) rfl (by decide) (by kernel_rfl) ⟨rfl, by decide, by decide⟩ ?F hv
    intro w mg fa h Y G hmg0
    obtain ⟨K, KX, c⟩ := Y
    have hmg : mg ("law" : PySem.Str) = some (.ref fa) := by
      have e : (HandSHeadRun.topDef (OpenLaw.row PySem.Challenge.rw_tautrounds_k78_bridges_plain).prog 66).name = ("law" : PySem.Str) := by kernel_rfl
      rw [← e]
      exact hmg0
    obtain ⟨fd, D⟩ := c.d.def_ 49 (d := VI.d_law) rfl
    have eg := hmg.symm.trans (He.glo_ok KX G (c.d.fact 76 (f := .glo "law") rfl))
    cases eg
    have ct : ∀ p ∈ VI.CTs K, ∃ q ∈ VI.tfs, p = He.cT K q := fun p hp => by
      obtain ⟨z, hz, e⟩ := List.mem_map.mp hp
      exact ⟨_, List.mem_map.mpr ⟨z, hz, rfl⟩, e.symm⟩
    refine ⟨K, fd, KX, fun p hp => ?_, fun p hp => ?_, fun p hp => ?_, fun s u => L2.FunD.bindsA (ps := ["script"]) D (fun _ _ _ _ _ _ us hl => match us, hl with | [_], _ => rfl) s [u] rfl, fun base kb gb bb => ?_⟩
    · obtain ⟨q, hq, e⟩ := ct p hp
      rw [e]
      exact c.empty q hq
    · obtain ⟨q, hq, e⟩ := ct p hp
      rw [e]
      exact c.out q hq
    · obtain ⟨q, hq, e⟩ := ct p hp
      rw [e]
      exact codeHd_of_K KX (c.hd q hq)
    · have Z : VI.Fz PySem.Challenge.rw_tautrounds_k78_bridges_plain.prog K mg base := ⟨kb, gb, ⟨h, c⟩, fun e he => List.all_eq_true.mp c.ex e he, bb, by rfl, by decide +kernel⟩
      exact VI.ok_law Z D
end
set_option maxRecDepth 100000 in
theorem PySem.Challenge.cw_tautrounds_k78_bridges_plain_holds : PySem.Challenge.rw_tautrounds_k78_bridges_plain.Holds :=
  VI.head_of fun ns hn => VI.law_true ns hn
